import PyProof.Rows.All
import Wide.All
import OpenK.AllK
import Wide.FinOn
import HandS.ForMost
import HandS.ForExc
import HandS.Wide
import HandS.TupAny
import HandS.IsInst
import HandS.Style
import HandS.Flow
import HandS.Walk
import HandS.Evl
import HandS.Defaults
import HandS.Head0
import HandS.Head1
import HandS.Head2
import HandS.HeadEnd
import HandS.HeadHook1
import HandS.HeadHook2
import PyProof.DictKeyH
import KE.KDictKeyed
import HandS.More
import HandS.Strs
import HandS.Set
import HandS.SetFor
import PyProof.FactsAll.subtypes_4
import PyProof.Rows.SetFrom
import HandS.Property
import HandS.TupMul
import HandS.Deep
import HandS.Comp
import HandS.SlotsOwn
import PyProof.P3Eq
import HandS.FStr
import HandS.SortRule
import HandS.SortInts
import HandS.DictTup
import HandS.DictComp
import KE.SortData
import HandS.Small
import HandS.TupLen
import HandS.Conv
import HandS.Iter
import PyProof.EqKinds
import PyProof.TupleOfSeq
import HandS.ClsMeth
import HandS.MakeKwOnly
import HandS.HeadNt
import HandS.DictEq
import HandS.NoneIn
import HandS.ExcInit
import KE.KExcIs
import HandS.ExcField
import HandS.ExcIs
import HandS.Exc
import PyProof.CallStr
import PySem.Challenge.RW_vouchchains_k28_days_and_carries_refused
import HandS.TupSets
import PyProof.DictFindH
import PyProof.DictRoadsH
import KE.KDictSum
import HandS.Star
import KE.KDictPairs
import KE.DataMinMax
import PyProof.DictUpdate
import PyProof.ReprHeadsTuple
import HandS.Zip
import KE.KDictWalk
import KE.KDictCopyH
import HandS.SetBool
import HandS.SortKw
import HandS.ExcValue
import KE.KDictZip
set_option Elab.async false
set_option linter.all false
set_option maxRecDepth 100000
set_option maxHeartbeats 4000000
namespace VB
open PySem PySem.Spec PyProof.Rows L2
def bagSh : HO → Bool
  | .lst [.int _, .int _, .int _, .ref _] => true
  | _ => false
def bagO (z s i : Int) (c : Addr) : HO := .lst [.int z, .int s, .int i, .ref c]
def BagV (z s i : Int) : Prop := 0 ≤ z ∧ 0 ≤ s ∧ s < 2147483647 ∧ 0 ≤ i
structure Gr (H H' : Hp) : Prop where
  keep : ∀ a o, H a = some o → bagSh o = false → H' a = some o
  bag : ∀ b z s i c, H b = some (bagO z s i c) → BagV z s i → ∃ z' s' i', H' b = some (bagO z' s' i' c) ∧ BagV z' s' i'
  free : ∀ a, H' a = none → H a = none
theorem Gr.refl (H : Hp) : Gr H H := ⟨fun _ _ e _ => e, fun _ z s i _ e v => ⟨z, s, i, e, v⟩, fun _ e => e⟩
theorem Gr.trans {H H1 H2 : Hp} (a : Gr H H1) (b : Gr H1 H2) : Gr H H2 :=
  ⟨fun x o e n => b.keep x o (a.keep x o e n) n, fun x z s i c e v => by
    obtain ⟨z1, s1, i1, e1, v1⟩ := a.bag x z s i c e v
    exact b.bag x z1 s1 i1 c e1 v1, fun x e => a.free x (b.free x e)⟩
theorem Gr.same {H H' : Hp} (h : ∀ a o, H a = some o → H' a = some o) : Gr H H' :=
  ⟨fun a o e _ => h a o e, fun _ z s i _ e v => ⟨z, s, i, h _ _ e, v⟩, fun a e => by
    cases q : H a with
    | none => rfl
    | some o =>
      have := h a o q
      rw [e] at this
      cases this⟩
theorem Gr.new {H : Hp} {p : Addr} {o : HO} (n : H p = none) : Gr H (upd H p o) := Gr.same fun a u e => by
  rw [upd_ne (ne_of_none e n)]
  exact e
/-- what H0 does not know may change -/
theorem Gr.mut {H0 H : Hp} {p : Addr} {o : HO} (g : Gr H0 H) (n : H0 p = none) : Gr H0 (upd H p o) :=
  ⟨fun a u e nb => by
    rw [upd_ne (ne_of_none e n)]
    exact g.keep a u e nb, fun b z s i c e v => by
    obtain ⟨z1, s1, i1, e1, v1⟩ := g.bag b z s i c e v
    refine ⟨z1, s1, i1, ?_, v1⟩
    rw [upd_ne (ne_of_none e n)]
    exact e1, fun a e => by
    by_cases h : a = p
    · rw [h]
      exact n
    · rw [upd_ne h] at e
      exact g.free a e⟩
theorem Gr.tup {K : PySem.W.Frag} {H H' : Hp} {a : Addr} {xs : List V} (g : Gr H H') (h : SqT K H a xs) : SqT K H' a xs := by
  rcases h with (h | ⟨o, h⟩) | h
  · exact .inl (.inl (g.keep _ _ h rfl))
  · exact .inl (.inr ⟨o, g.keep _ _ h rfl⟩)
  · exact .inr h
theorem Gr.lst {K : PySem.W.Frag} {H H' : Hp} {a : Addr} {xs : List V} (g : Gr H H') (n : bagSh (.lst xs) = false) (h : SqL K H a xs) : SqL K H' a xs := by
  rcases h with (h | ⟨o, h⟩) | h
  · exact .inl (.inl (g.keep _ _ h n))
  · exact .inl (.inr ⟨o, g.keep _ _ h rfl⟩)
  · exact .inr h
section
variable {X : Cx}
/-- xs[k] read for xs[k] op= e -/
def rGetL : V → V → Hp → VK → Prop := fun o i H Q => ∃ (p : Addr) (xs : List V) (k : Int) (v : V), o = .ref p ∧ i = .int k ∧ 0 ≤ k ∧ k < 2 ^ 63 ∧ H p = some (.lst xs) ∧ xs[k.toNat]? = some v ∧ Q v H
theorem get_list : PGet X rGetL := by
  intro pins s σ H o i ov iv Q I ro ri h
  obtain ⟨p, xs, k, v, rfl, rfl, k0, k1, hp, hv, q⟩ := h
  cases ro
  obtain ⟨t, rfl⟩ := ri
  obtain ⟨its, r, pl, _⟩ := I.list (SqL.of hp)
  obtain ⟨w, ew, rw'⟩ := r.get hv
  exact wpAny_getItem_list pl.isList k0 k1 (by simpa using ew) ⟨v, H, I, rw', q⟩
/-- s * n, a text some times -/
def rMulS : R2 := fun x y H Q => ∃ (z : Str) (k : Int), x = .str z ∧ y = .int k ∧ 0 ≤ k ∧ k ≤ 5000 ∧ z.length ≤ 1000 ∧ Q (.str (Txt.mul z k)) H
theorem op_mul_str : OpR X (binaryOp .Mult) rMulS := by
  intro pins s σ H x y v u Q I rx ry h
  obtain ⟨z, k, rfl, rfl, h0, h1, h2, q⟩ := h
  obtain ⟨t, rfl⟩ := rx
  obtain ⟨t', rfl⟩ := ry
  refine SB.mul ⟨?_, fun _ _ => ?_, fun _ _ => ?_⟩ fun t2 k2 => ⟨.str _, H, I.tok _, ⟨_, rfl⟩, q⟩
  · rw [decide_eq_false (by omega), decide_eq_false (by omega)]
    rfl
  · have hk : 0 < k := by omega
    have : (1000 : Int) ≤ (2 ^ 63 - 1) / k := by
      rw [Int.le_ediv_iff_mul_le hk]
      omega
    omega
  · unfold Builtin.Str.tooLong
    have h3 : z.length * k.toNat ≤ 1000 * 5000 := Nat.mul_le_mul h2 (by omega)
    have e : sizeLine = 16777216 := by decide
    simp only [decide_eq_false_iff_not]
    omega
end
section
variable {X : Cx} {K : PySem.W.Frag} {pos : Pos}
theorem kIxL (h : X.K = K) : IxR X (rIxL K) := h ▸ ix_list
theorem kSlL (h : X.K = K) : SlR X (rSlL K) := h ▸ sl_list
def rLenK (K : PySem.W.Frag) : List V → Hp → VK → Prop := fun xs H Q => ∃ x n, xs = [x] ∧ LenV K x H n ∧ Q (.int (n : Nat)) H
theorem kLen (h : X.K = K) : CallR X (.builtin "len") (rLenK K) := h ▸ call_len
theorem kIsi (h : X.K = K) : CallR X (.builtin "isinstance") (rIsi K) := h ▸ call_isi
theorem kIsiT (h : X.K = K) : CallR X (.builtin "isinstance") (rIsiT K) := h ▸ call_isiT
theorem kAll (h : X.K = K) (hc : X.calm = true) : CallR X (.builtin "all") (rAll K) := h ▸ cr_all hc
theorem kAny (h : X.K = K) (hc : X.calm = true) : CallR X (.builtin "any") (rAny K) := h ▸ cr_any hc
def rTupK (K : PySem.W.Frag) : List V → Hp → VK → Prop := fun xs H Q => ∃ p ys, xs = [.ref p] ∧ ((SqL K H p ys ∧ ∀ l, H l = none → Q (.ref l) (upd H l (.tup ys))) ∨ (SqT K H p ys ∧ Q (.ref p) H))
theorem kTup (h : X.K = K) : CallR X (.type "tuple") (rTupK K) := h ▸ call_tuple_of
def rLstK (K : PySem.W.Frag) : List V → Hp → VK → Prop := fun xs H Q => ∃ p ys, xs = [.ref p] ∧ (SqL K H p ys ∨ SqT K H p ys) ∧ ∀ l, H l = none → Q (.ref l) (upd H l (.lst ys))
theorem kPiL {tg l : Expr} {tl : TE} (h : X.K = K) (hl : PE X l tl) : PI X tg l (iList K tl) := h ▸ pi_list hl
def rJoinK (K : PySem.W.Frag) : V → List V → Hp → VK → Prop := fun x xs H Q => ∃ a p, ∃ ys : List Str, x = .str a ∧ xs = [.ref p] ∧ (SqL K H p (ys.map V.str) ∨ SqT K H p (ys.map V.str)) ∧ (ys.map (·.length)).sum + ys.length * a.length ≤ 16777216 ∧ Q (.str (Txt.join a ys)) H
def rSplitK : V → List V → Hp → VK → Prop := fun x xs H Q => ∃ a b, x = .str a ∧ xs = [.str b] ∧ (b.length == 0) = false ∧ a.length + 2 ≤ sizeLine ∧ rNewStrs (Txt.split a b) H Q
theorem kJoin {o e : Expr} {to te : TE} {apos pos : Pos} (h : X.K = K) (ho : PE X o to) (he : PE X e te) (hs : starEach [e] X.env = [(false, eval e X.env)] := by rfl) (hb : attributeBase o "join" X.env (eval o X.env) = eval o X.env := by rfl) (hl : (apos.endLine == pos.line) = true := by rfl) :
    PE X (.Call (.Attribute o "join" apos) [e] [] pos) (tM1 (rJoinK K) to te) := h ▸ pe_join ho he hs hb hl
theorem kSplit {o e : Expr} {to te : TE} {apos pos : Pos} (ho : PE X o to) (he : PE X e te) (hs : starEach [e] X.env = [(false, eval e X.env)] := by rfl) (hb : attributeBase o "split" X.env (eval o X.env) = eval o X.env := by rfl) (hl : (apos.endLine == pos.line) = true := by rfl) :
    PE X (.Call (.Attribute o "split" apos) [e] [] pos) (tM1 rSplitK to te) := pe_split ho he hs hb hl
theorem kTg {es : List Expr} {k n : Nat} {t : TGs} (h : X.K = K) (hc : X.calm = true) (hp : PGs X es t) (hn : (assignEach es X.env).length = n := by rfl) (hst : (assignEach es X.env).findIdx? (·.1) = none := by rfl) : PG X (.Tuple es k pos) (gTup K n t) := h ▸ pg_tup hc hp hn hst
theorem kLst (h : X.K = K) : CallR X (.type "list") (rLstK K) := h ▸ call_list_of
end
structure FnG (P : Program) (w : World) (K : PySem.W.Frag) (mg : Str → Option Value) (base : Heap) (CX : CXT) (k : Nat) (f : Addr) (fd : FuncData) (ps : List Str) (sp : Sp) : Prop where
  len : ∀ vs H Q E, sp vs H Q E → List.length vs = List.length ps
  run : ∀ A outer s H args us vs Q E, A.guards = some [] → Room k A → Env0 P w K mg base A outer s H → BindsTo s fd args (ps.zip us) → Vals vs us → sp vs H Q E →
      codeAny (model P w) A (.call (.ref f) args) (CR CX outer P w H s Q E) s
section
variable {P : Program} {w : World} {K : PySem.W.Frag} {mg : Str → Option Value} {base : Heap} {CX : CXT} {f : Addr} {fd : FuncData} {ps : List Str} {k : Nat} {sp : Sp}
theorem FnG.of (F : FnOk P w K mg base CX k f fd ps sp) : FnG P w K mg base CX k f fd ps sp :=
  ⟨F.len, fun A outer s H args us vs Q E _ => F.run A outer s H args us vs Q E⟩
theorem FnG.mono {j : Nat} (F : FnG P w K mg base CX k f fd ps sp) (h : k ≤ j) : FnG P w K mg base CX j f fd ps sp :=
  ⟨F.len, fun A outer s H args us vs Q E g r => F.run A outer s H args us vs Q E g (r.mono h)⟩
/-- the body's rule -/
theorem okG {x qual : Str} {pa : Arguments} {body : List Stmt} {sc : Scope} {dvs : List V} {kws : List (Str × V)} {N : List Str} (F : FunD K x qual pa body sc dvs kws f fd) (S : FnScope N ps sc) (len : ∀ vs H Q E, sp vs H Q E → List.length vs = List.length ps)
    (hb : ∀ (cdv : Value) (A : Around) (outer : List Env) (s : Shared) (H : Hp) (vs : List V) (Q : VK) (E : XK), A.guards = some [] → Room k (A.deeper (envOfC qual sc s.heap.objs.size f cdv)) → sp vs H Q E →
      ∃ t, PSs (cxOf CX P w K mg base N qual sc f cdv A outer s H E) body t ∧ t ⟨fun _ H' => Q .non H', Q, fun _ _ => False, fun _ _ => False⟩ (start N vs) H) : FnG P w K mg base CX (k + 1) f fd ps sp := by
  obtain ⟨oc, od, dV, kV, doc, pm, an, cdv, ct, osl, rfl, lk, hcd, _⟩ := F.ex
  refine ⟨len, fun A outer s H args us vs Q E hg hr e0 hbi rv hs => ?_⟩
  have inK : K.In s.heap := e0.mod.kin.keeps fun b o e => (e0.bs b o e).1
  have lim : s.heap.NoLimit := e0.mod.nolimit.keeps fun b o e => (e0.bs b o e).1
  refine codeAny_call_function hr.depth (inK _ _ lk) rfl S.co S.gen rfl (PySem.W.codeRec_of inK hcd) (hbi _ _ _ _ ?_)
  refine wpAny_newFunctionEnv_cells S.kind (fun y hy => ?_) fun env he s1 x1 => ?_
  · rcases S.par y.1 (List.of_mem_zip hy).1 with q | q
    · exact Or.inl q
    · exact Or.inr ⟨q, PySem.W.cellsFrom_some _ _ _ (Or.inl q)⟩
  · subst he
    refine ⟨lim.keeps x1.toInCall.keep, codeAny_func ?_⟩
    obtain ⟨t, ht, hq⟩ := hb cdv A outer s H vs Q E hg (hr.deeper _) hs
    refine wpAny_mono (ht.run [] s1 _ H _ (inv_start S hr.hd e0 (len vs H Q E hs) rv x1) hq) (fun fl s' hf => ?_) fun _ _ hf => hf
    match fl, hf with
    | .ret u, ⟨v, σ', H', J, r2, q⟩ => exact ⟨v, H', J.os, J.bare, J.base, J.hok, r2, q⟩
    | .next, ⟨σ', H', J, q⟩ => exact ⟨V.non, H', J.os, J.bare, J.base, J.hok, rfl, q⟩
    | .brk, ⟨_, _, _, q⟩ => exact q.elim
    | .cont, ⟨_, _, _, q⟩ => exact q.elim
end
theorem law_G {P : Program} {w : World} {K : PySem.W.Frag} {mg mb : Str → Option Value} {CX : CXT} {k : Nat} {fa a : Addr} {fd : FuncData} {x : Str} {sp : Sp} {s1 : Shared} {vs : List Value} {ns : List Int}
    (KX : K.In s1.heap) (hns : s1.heap.Ns mainGlobals mg) (hb : s1.heap.Ns builtinsNs mb) (hbb : ∀ x : Str, x ≠ "__name__" → mb x = bootBuiltins x) (hlim : s1.heap.NoLimit) (hg : s1.gens = #[])
    (ha : s1.heap.get? a = some { cls := .type "list", data := .seq vs.toArray }) (hi : IntsAre vs ns) (hl : ns.length ≤ sizeLine) (hr : Room k callerA)
    (F : ∀ base : Heap, K.In base → base.Ns mainGlobals mg → FnG P w K mg base CX k fa fd [x] sp) (hbind : ∀ (s : Shared) (u : Value), BindsTo s fd ⟨[u], []⟩ [(x, u)])
    (hsp : ∀ H : Hp, Only H → SqL K H a (ns.map V.int) → sp [.ref a] H (fun v _ => v = .bl true) fun _ _ _ => False)
    (hCX : ∀ H e s', CX [] H s1 (fun _ _ _ => False) e s' → False) :
    codeAny (model P w) callerA (.call (.ref fa) ⟨[.ref a], []⟩) (fun r s' => r = .ok (.ret (.bool true)) ∧ OldK s1.heap s'.heap ∧ s'.os = s1.os ∧ AllBare s'.gens) s1 := by
  have vi := vals_ints hi
  have go : ∀ H : Hp, Only H → SqL K H a (ns.map V.int) → HOk P w H s1.heap → (∀ b, H b ≠ none → b = a) → (H a ≠ none → K.lookup a = none) →
      codeAny (model P w) callerA (.call (.ref fa) ⟨[.ref a], []⟩) (fun r s' => r = .ok (.ret (.bool true)) ∧ OldK s1.heap s'.heap ∧ s'.os = s1.os ∧ AllBare s'.gens) s1 := by
    intro H hO hS hok only kno
    -- what is a dict of names is not tracked
    have keepNs : ∀ {b : Addr} {m : Str → Option Value}, s1.heap.Ns b m → (hidT s1.heap H).Ns b m := fun {b m} ⟨o, es, ep, e, d, r⟩ => by
      refine ⟨o, es, ep, hidT_get e ?_, d, r⟩
      cases hq : H b with
      | none => rfl
      | some u =>
        have hba := only b (by rw [hq]; exact Option.some_ne_none u)
        rw [hba, ha] at e
        have := Option.some.inj e
        rw [← this] at d
        cases d
    have kin2 : K.In (hidT s1.heap H) := fun b o e => hidT_get (KX b o e) (by
      cases hq : H b with
      | none => rfl
      | some u =>
        have hba := only b (by rw [hq]; exact Option.some_ne_none u)
        rw [hba] at e hq
        rw [kno (by rw [hq]; exact Option.some_ne_none u)] at e
        cases e)
    obtain ⟨mc, l1, l2⟩ := hlim
    have md : Mod K mg (hidT s1.heap H) := ⟨kin2, keepNs hns, ⟨mb, keepNs hb, hbb⟩, ⟨mc, keepNs l1, l2⟩⟩
    have nomem : ∀ {b : Addr}, b ∉ frs [] := fun {b} z => by
      have z2 : b ∈ ([] : List Addr) := z
      cases z2
    have en : Env0 P w K mg (hidT s1.heap H) callerA [] s1 H :=
      { frames := rfl, mod := md, bs := fun b o e => of_hidT e, bsz := Nat.le_of_eq (hidT_size _ _), funs := trivial, frf := fun b z => (nomem z).elim, hok := hok, bare := AllBare.of_eq hg }
    refine codeAny_mono ((F _ kin2 (keepNs hns)).run callerA [] s1 H ⟨[.ref a], []⟩ [.ref a] [.ref a] _ _ rfl hr en (hbind s1 (.ref a)) (.cons rfl .nil) (hsp H hO hS)) fun r s' h => ?_
    match r, h with
    | .error e, h => exact (hCX H e s' h).elim
    | .ok .next, h => exact False.elim h
    | .ok .brk, h => exact False.elim h
    | .ok .cont, h => exact False.elim h
    | .ok (.ret u), ⟨v, H', os, bare, un, hok', r', q⟩ =>
      have q' : v = .bl true := q
      subst q'
      have r2 : u = Value.bool true := r'
      subst r2
      refine ⟨rfl, OldK.of_keep fun b o e => ?_, os, bare⟩
      rcases hO b with z | ⟨ob, ys, z⟩
      · exact un.keep b o e z nomem List.not_mem_nil
      · have old := (hok b _ z).1
        rw [e] at old
        rw [Option.some.inj old]
        exact (hok' b _ (un.frzs b ob _ z)).1
  cases hk : K.lookup a with
  | some o =>
    have e := KX a o hk
    rw [ha] at e
    cases e
    refine go (fun _ => none) (fun _ => Or.inl rfl) (Or.inr ⟨_, vs.toArray, _, hk, rfl, rfl, rfl, ?_, ?_⟩) (fun b u z => nomatch z) (fun b z => absurd rfl z) fun z => absurd rfl z
    · rw [List.size_toArray, hi.length]
      exact hl
    · simpa using vi
  | none =>
    have here : (fun b => if b = a then some (HO.frz { cls := .type "list", data := .seq vs.toArray } (.lst (ns.map V.int))) else none : Hp) a = some (HO.frz { cls := .type "list", data := .seq vs.toArray } (.lst (ns.map V.int))) := if_pos rfl
    refine go (fun b => if b = a then some (.frz { cls := .type "list", data := .seq vs.toArray } (.lst (ns.map V.int))) else none) (fun b => ?_) (Or.inl (Or.inr ⟨_, here⟩)) (fun b u z => ?_) (fun b z => ?_) fun _ => hk
    · by_cases h : b = a
      · exact Or.inr ⟨_, _, if_pos h⟩
      · exact Or.inl (if_neg h)
    · by_cases h : b = a
      · subst h
        have z2 := here.symm.trans z
        cases z2
        exact ⟨ha, by rw [List.length_map]; exact hl, vs, _, vi, ha⟩
      · have z2 := (if_neg h).symm.trans z
        cases z2
    · by_cases h : b = a
      · exact h
      · exact absurd (if_neg h) z
theorem walk_G {l : PySem.W.OpenLaw} {n k : Nat} {q : Program} {loose : List Str} {XP : (Str → Option Value) → Heap → Prop} {YP : World → Heap → Prop} {d : DefRec} {CX : CXT} {x : Str}
    (hn : l.most = some n) (hn2 : n ≤ sizeLine) (hdf : d.params.defaults = []) (hr : Room k callerA)
    (F : ∀ w mg fa h, YP w h → h.Ns mainGlobals mg → mg d.name = some (.ref fa) →
      ∃ (K : PySem.W.Frag) (fd : FuncData) (sp : Sp), K.In h ∧ (∀ (s : Shared) (u : Value), BindsTo s fd ⟨[u], []⟩ [(x, u)]) ∧
        (∀ H a ns, List.length ns ≤ n → Only H → SqL K H a (ns.map V.int) → sp [.ref a] H (fun v _ => v = .bl true) fun _ _ _ => False) ∧
        ∀ base : Heap, K.In base → base.Ns mainGlobals mg → FnG l.prog w K mg base CX k fa fd [x] sp)
    (hCX : ∀ H s e s', CX [] H s (fun _ _ _ => False) e s' → False) : PySem.W.WalkO q loose XP YP l.row.toRowW d [] (fun f vs => PySem.call f vs) :=
  Att.attach_call hn hdf fun w s0 s1 mg mb fa o pm cd doc a vs ns G Y ho hd hcd hmg hobj hints hlen hg => by
    obtain ⟨K, fd, sp, KX, hb, hs, hF⟩ := F w mg fa _ Y G.T.g hmg
    exact law_G KX G.T.g G.T.b G.T.builtins G.T.nolimit hg hobj hints (Nat.le_trans hlen hn2) hr hF hb (fun H hO hS => hs H a ns hlen hO hS) (fun H e s' => hCX H s1 e s')
theorem pos_ {j : Int} (h : 0 < j) : 0 < j := h
end VB
namespace VB
open PySem PySem.Spec PyProof.Rows L2
abbrev KvN := NestedKey × Addr × V
abbrev KwN := NestedKey × Addr × Value
def RwO (p : KvN) (q : KwN) : Prop := p.1 = q.1 ∧ p.2.1 = q.2.1 ∧ RelV p.2.2 q.2.2
/-- a row's entry -/
def entN (w : World) (x : KwN) : DictEntry := ⟨x.1.hash w, .ref x.2.1, x.2.2⟩
structure DicN1 (w : World) (h : Heap) (a : Addr) (kvs : List KvN) : Prop where
  ex : ∃ xs : List KwN, Paired RwO kvs xs ∧ (∃ o es ep, h.get? a = some o ∧ o.ExactDict ∧ o.data = .dict es ep ∧ es.toList = xs.map (entN w)) ∧ (xs.map (·.1)).Nodup
  len : kvs.length ≤ sizeLine
  sys : (a == sysModules) = false
/-- at a stands a dict of these rows -/
def DicNX (w : World) (a : Addr) (kvs : List KvN) : HO := .ext fun h => DicN1 w h a kvs
end VB
namespace VB
open PySem PySem.Spec PyProof.Rows L2
/-- data: what never changes behind its back; raw: an address as it is (the bag); dit: a dict whose keys are tuples; etup: the empty tuple of a default; din: a dict whose keys are tuples at any depth -/
inductive D where
  | non | bl (b : Bool) | int (i : Int) | str (x : Str) | ty (n : String) | tup (ds : List D) | lst (ds : List D) | raw (a : Addr)
  | dic (ks : List Key) (ds : List D) | ins (C : Addr) (ks : List Str) (ds : List D)
  | dit (ks : List (List Key)) (ds : List D) | etup
  | din (w : World) (kk : List NestedKey) (ks : List D) (ds : List D)
structure Gw (W : List Addr) (H H' : Hp) : Prop where
  keep : ∀ a o, a ∉ W → H a = some o → H' a = some o
  free : ∀ a, H' a = none → H a = none
  tups : ∀ a xs, H a = some (.tup xs) → H' a = some (.tup xs)
theorem Gw.refl {W : List Addr} {H : Hp} : Gw W H H := ⟨fun _ _ _ e => e, fun _ e => e, fun _ _ e => e⟩
theorem Gw.trans {W : List Addr} {H H1 H2 : Hp} (a : Gw W H H1) (b : Gw W H1 H2) : Gw W H H2 := ⟨fun x o n e => b.keep x o n (a.keep x o n e), fun x e => a.free x (b.free x e), fun x xs e => b.tups x xs (a.tups x xs e)⟩
theorem Gw.mono {W B : List Addr} {H H' : Hp} (g : Gw W H H') (s : ∀ a ∈ W, a ∈ B) : Gw B H H' := ⟨fun a o n e => g.keep a o (fun z => n (s a z)) e, g.free, g.tups⟩
theorem Gw.new {W : List Addr} {H : Hp} {p : Addr} {o : HO} (n : H p = none) : Gw W H (upd H p o) := by
  have k : ∀ a u, H a = some u → upd H p o a = some u := fun a u e => by
    rw [upd_ne (ne_of_none e n)]
    exact e
  refine ⟨fun a u _ => k a u, fun a e => ?_, fun a xs => k a _⟩
  by_cases h : a = p
  · rw [h]
    exact n
  · rw [upd_ne h] at e
    exact e
/-- there stands a thing that is no tuple -/
def NoT (H : Hp) (p : Addr) : Prop := ∃ u, H p = some u ∧ ∀ xs, u ≠ .tup xs
theorem Gw.wr {W : List Addr} {H : Hp} {p : Addr} {o : HO} (m : p ∈ W) (n : NoT H p) : Gw W H (upd H p o) := by
  obtain ⟨u0, e0, n0⟩ := n
  refine ⟨fun a u na e => ?_, fun a e => ?_, fun a xs e => ?_⟩
  · have q : a ≠ p := fun z => by
      subst z
      exact na m
    rw [upd_ne q]
    exact e
  · by_cases h : a = p
    · rw [h, upd_same] at e
      cases e
    · rw [upd_ne h] at e
      exact e
  · rw [upd_ne]
    · exact e
    · rintro rfl
      rw [e0] at e
      exact n0 xs (Option.some.inj e)
/-- the bag at b, its cells at c -/
def BagC (H : Hp) (b c : Addr) (ns : List Int) : Prop := (∃ z s i : Int, H b = some (bagO z s i c) ∧ BagV z s i) ∧ H c = some (.lst (ns.map V.int)) ∧ ∀ n ∈ ns, 0 ≤ n
structure Gs (W : List Addr) (H H' : Hp) : Prop where
  gw : Gw W H H'
  bag : ∀ b ∈ W, ∀ c ns, c ∉ W → BagC H b c ns → BagC H' b c ns
theorem Gs.refl {W : List Addr} {H : Hp} : Gs W H H := ⟨Gw.refl, fun _ _ _ _ _ h => h⟩
theorem Gs.trans {W : List Addr} {H H1 H2 : Hp} (a : Gs W H H1) (b : Gs W H1 H2) : Gs W H H2 := ⟨a.gw.trans b.gw, fun x m c ns n h => b.bag x m c ns n (a.bag x m c ns n h)⟩
theorem BagC.wr {H : Hp} {p b c : Addr} {o : HO} {ns : List Int} (h : BagC H b c ns) (n1 : b ≠ p) (n2 : c ≠ p) : BagC (upd H p o) b c ns := by
  obtain ⟨⟨z, s, i, e, v⟩, ec, hn⟩ := h
  refine ⟨⟨z, s, i, ?_, v⟩, ?_, hn⟩
  · rw [upd_ne n1]
    exact e
  · rw [upd_ne n2]
    exact ec
theorem BagC.new {H : Hp} {p b c : Addr} {o : HO} {ns : List Int} (h : BagC H b c ns) (n : H p = none) : BagC (upd H p o) b c ns :=
  h.wr (by
    obtain ⟨⟨z, s, i, e, v⟩, _⟩ := h
    exact ne_of_none e n) (ne_of_none h.2.1 n)
theorem Gs.new {W : List Addr} {H : Hp} {p : Addr} {o : HO} (n : H p = none) : Gs W H (upd H p o) := ⟨Gw.new n, fun b _ c ns _ h => h.new n⟩
theorem Gs.bagW {W : List Addr} {H : Hp} {b c : Addr} {z s i z' s' i' : Int} (m : b ∈ W) (e : H b = some (bagO z s i c)) (v : BagV z' s' i') : Gs W H (upd H b (bagO z' s' i' c)) :=
  ⟨Gw.wr m ⟨_, e, fun _ z => nomatch z⟩, fun b1 m1 c1 ns n1 h => by
    obtain ⟨⟨z1, s1, i1, e1, v1⟩, ec, hn⟩ := h
    have hc : c1 ≠ b := fun q => n1 (q ▸ m)
    by_cases h : b1 = b
    · subst h
      rw [e] at e1
      have q := Option.some.inj e1
      unfold bagO at q
      injection q with q
      simp only [List.cons.injEq, V.ref.injEq, and_true] at q
      obtain ⟨_, _, _, rfl⟩ := q
      refine ⟨⟨z', s', i', upd_same, v⟩, ?_, hn⟩
      rw [upd_ne hc]
      exact ec
    · refine ⟨⟨z1, s1, i1, ?_, v1⟩, ?_, hn⟩
      · rw [upd_ne h]
        exact e1
      · rw [upd_ne hc]
        exact ec⟩
mutual
inductive Sg (K : PySem.W.Frag) (B : List Addr) (H : Hp) : V → D → Prop
  | non : Sg K B H .non .non
  | bl (b : Bool) : Sg K B H (.bl b) (.bl b)
  | int (i : Int) : Sg K B H (.int i) (.int i)
  | str (x : Str) : Sg K B H (.str x) (.str x)
  | ty (n : String) : Sg K B H (.ty n) (.ty n)
  | raw (a : Addr) : Sg K B H (.ref a) (.raw a)
  | tup {a : Addr} {xs : List V} {ds : List D} : True → H a = some (.tup xs) → SgA K B H xs ds → Sg K B H (.ref a) (.tup ds)
  | etup {a : Addr} : (∀ h : Hp, SqT K h a []) → Sg K B H (.ref a) .etup
  | lst {a : Addr} {xs : List V} {ds : List D} : a ∉ B → H a = some (.lst xs) → SgA K B H xs ds → Sg K B H (.ref a) (.lst ds)
  | dic {a : Addr} {kvs : List (Key × V)} {ks : List Key} {ds : List D} : a ∉ B → Rd H a (.dK kvs) → kvs.map (·.1) = ks → SgA K B H (kvs.map (·.2)) ds → Sg K B H (.ref a) (.dic ks ds)
  | dit {a : Addr} {kvs : List (List Key × V)} {ks : List (List Key)} {ds : List D} : a ∉ B → Rd H a (.dT kvs) → kvs.map (·.1) = ks → SgA K B H (kvs.map (·.2)) ds → Sg K B H (.ref a) (.dit ks ds)
  | ins {a C dx : Addr} {fs : List (Str × V)} {ks : List Str} {ds : List D} : a ∉ B → H a = some (.ins C dx fs) → fs.map (·.1) = ks → SgA K B H (fs.map (·.2)) ds → Sg K B H (.ref a) (.ins C ks ds)
  | din {a : Addr} {w : World} {kvs : List KvN} {kk : List NestedKey} {ks ds : List D} : a ∉ B → Rd H a (DicNX w a kvs) → kvs.map (·.1) = kk → SgA K B H (kvs.map fun r => V.ref r.2.1) ks → SgA K B H (kvs.map fun r => r.2.2) ds → Sg K B H (.ref a) (.din w kk ks ds)
inductive SgA (K : PySem.W.Frag) (B : List Addr) (H : Hp) : List V → List D → Prop
  | nil : SgA K B H [] []
  | cons {v : V} {vs : List V} {d : D} {ds : List D} : Sg K B H v d → SgA K B H vs ds → SgA K B H (v :: vs) (d :: ds)
end
theorem rd_gw {W : List Addr} {H H' : Hp} {a : Addr} {u : HO} (n : a ∉ W) (g : Gw W H H') (h : Rd H a u) : Rd H' a u := by
  rcases h with h | ⟨o, h⟩
  · exact Or.inl (g.keep _ _ n h)
  · exact Or.inr ⟨o, g.keep _ _ n h⟩
theorem rd_kn {H : Hp} {a p : Addr} {u : HO} (h : Rd H a u) (n : H p = none) : a ≠ p := by
  rintro rfl
  rcases h with h | ⟨o, h⟩
  · rw [n] at h
    cases h
  · rw [n] at h
    cases h
section
variable {K : PySem.W.Frag} {B : List Addr} {H H' : Hp}
mutual
theorem Sg.gw (g : Gw B H H') : ∀ {v : V} {d : D}, Sg K B H v d → Sg K B H' v d
  | _, _, .non => .non
  | _, _, .bl b => .bl b
  | _, _, .int i => .int i
  | _, _, .str x => .str x
  | _, _, .ty n => .ty n
  | _, _, .raw a => .raw a
  | _, _, .tup n h r => .tup n (g.tups _ _ h) (SgA.gw g r)
  | _, _, .etup h => .etup h
  | _, _, .lst n h r => .lst n (g.keep _ _ n h) (SgA.gw g r)
  | _, _, .dic n h e r => .dic n (rd_gw n g h) e (SgA.gw g r)
  | _, _, .dit n h e r => .dit n (rd_gw n g h) e (SgA.gw g r)
  | _, _, .ins n h e r => .ins n (g.keep _ _ n h) e (SgA.gw g r)
  | _, _, .din n h e q r => .din n (rd_gw n g h) e (SgA.gw g q) (SgA.gw g r)
theorem SgA.gw (g : Gw B H H') : ∀ {vs : List V} {ds : List D}, SgA K B H vs ds → SgA K B H' vs ds
  | _, _, .nil => .nil
  | _, _, .cons h r => .cons (Sg.gw g h) (SgA.gw g r)
end
mutual
/-- fewer places left out -/
theorem Sg.less {B' : List Addr} (s : ∀ a ∈ B', a ∈ B) : ∀ {v : V} {d : D}, Sg K B H v d → Sg K B' H v d
  | _, _, .non => .non
  | _, _, .bl b => .bl b
  | _, _, .int i => .int i
  | _, _, .str x => .str x
  | _, _, .ty n => .ty n
  | _, _, .raw a => .raw a
  | _, _, .tup n h r => .tup n h (SgA.less s r)
  | _, _, .etup h => .etup h
  | _, _, .lst n h r => .lst (fun z => n (s _ z)) h (SgA.less s r)
  | _, _, .dic n h e r => .dic (fun z => n (s _ z)) h e (SgA.less s r)
  | _, _, .dit n h e r => .dit (fun z => n (s _ z)) h e (SgA.less s r)
  | _, _, .ins n h e r => .ins (fun z => n (s _ z)) h e (SgA.less s r)
  | _, _, .din n h e q r => .din (fun z => n (s _ z)) h e (SgA.less s q) (SgA.less s r)
theorem SgA.less {B' : List Addr} (s : ∀ a ∈ B', a ∈ B) : ∀ {vs : List V} {ds : List D}, SgA K B H vs ds → SgA K B' H vs ds
  | _, _, .nil => .nil
  | _, _, .cons h r => .cons (Sg.less s h) (SgA.less s r)
end
mutual
/-- one more, that is new -/
theorem Sg.out {p : Addr} {u : HO} (n : H p = none) : ∀ {v : V} {d : D}, Sg K B H v d → Sg K (p :: B) (upd H p u) v d
  | _, _, .non => .non
  | _, _, .bl b => .bl b
  | _, _, .int i => .int i
  | _, _, .str x => .str x
  | _, _, .ty n => .ty n
  | _, _, .raw a => .raw a
  | _, _, .tup m h r => .tup m ((Gw.new (W := B) n).tups _ _ h) (SgA.out n r)
  | _, _, .etup h => .etup h
  | _, _, .lst m h r => .lst (fun z => (List.mem_cons.mp z).elim (ne_of_none h n) m) ((Gw.new n).keep _ _ m h) (SgA.out n r)
  | _, _, .dic m h e r => .dic (fun z => (List.mem_cons.mp z).elim (rd_kn h n) m) (rd_gw m (Gw.new n) h) e (SgA.out n r)
  | _, _, .dit m h e r => .dit (fun z => (List.mem_cons.mp z).elim (rd_kn h n) m) (rd_gw m (Gw.new n) h) e (SgA.out n r)
  | _, _, .ins m h e r => .ins (fun z => (List.mem_cons.mp z).elim (ne_of_none h n) m) ((Gw.new n).keep _ _ m h) e (SgA.out n r)
  | _, _, .din m h e q r => .din (fun z => (List.mem_cons.mp z).elim (rd_kn h n) m) (rd_gw m (Gw.new n) h) e (SgA.out n q) (SgA.out n r)
theorem SgA.out {p : Addr} {u : HO} (n : H p = none) : ∀ {vs : List V} {ds : List D}, SgA K B H vs ds → SgA K (p :: B) (upd H p u) vs ds
  | _, _, .nil => .nil
  | _, _, .cons h r => .cons (Sg.out n h) (SgA.out n r)
end
theorem Sg.sqT {a : Addr} {ds : List D} (h : Sg K B H (.ref a) (.tup ds)) : ∃ xs, SqT K H a xs ∧ SgA K B H xs ds := by
  cases h with
  | tup _ h r => exact ⟨_, Or.inl (Rd.of h), r⟩
theorem SgA.length : ∀ {vs : List V} {ds : List D}, SgA K B H vs ds → vs.length = ds.length
  | _, _, .nil => rfl
  | _, _, .cons _ r => congrArg (· + 1) (SgA.length r)
theorem SgA.get : ∀ {vs : List V} {ds : List D} {i : Nat} {d : D}, SgA K B H vs ds → ds[i]? = some d → ∃ v, vs[i]? = some v ∧ Sg K B H v d
  | _, _, _, _, .nil, e => by simp at e
  | _, _, 0, _, .cons h _, e => by simp at e; subst e; exact ⟨_, rfl, h⟩
  | _, _, i + 1, d, .cons _ r, e => by
    obtain ⟨v, h1, h2⟩ := SgA.get (i := i) (d := d) r (by simpa using e)
    exact ⟨v, by simpa using h1, h2⟩
theorem SgA.getV : ∀ {vs : List V} {ds : List D} {i : Nat} {v : V}, SgA K B H vs ds → vs[i]? = some v → ∃ d, ds[i]? = some d ∧ Sg K B H v d
  | _, _, _, _, .nil, e => by simp at e
  | _, _, 0, _, .cons h _, e => by simp at e; subst e; exact ⟨_, rfl, h⟩
  | _, _, i + 1, v, .cons _ r, e => by
    obtain ⟨d, h1, h2⟩ := SgA.getV (i := i) (v := v) r (by simpa using e)
    exact ⟨d, by simpa using h1, h2⟩
theorem SgA.append : ∀ {xs ys : List V} {ds es : List D}, SgA K B H xs ds → SgA K B H ys es → SgA K B H (xs ++ ys) (ds ++ es)
  | _, _, _, _, .nil, s => s
  | _, _, _, _, .cons h r, s => .cons h (SgA.append r s)
theorem SgA.take : ∀ {xs : List V} {ds : List D} (n : Nat), SgA K B H xs ds → SgA K B H (xs.take n) (ds.take n)
  | _, _, 0, _ => .nil
  | _, _, _ + 1, .nil => .nil
  | _, _, n + 1, .cons h r => .cons h (SgA.take n r)
theorem SgA.drop : ∀ {xs : List V} {ds : List D} (n : Nat), SgA K B H xs ds → SgA K B H (xs.drop n) (ds.drop n)
  | _, _, 0, r => r
  | _, _, _ + 1, .nil => .nil
  | _, _, n + 1, .cons _ r => SgA.drop n r
theorem SgA.strs : ∀ {xs : List V} {ss : List Str}, SgA K B H xs (ss.map D.str) → xs = ss.map V.str
  | _, [], .nil => rfl
  | _, s :: ss, .cons (.str _) r => by rw [SgA.strs (ss := ss) r]; rfl
theorem SgA.bls : ∀ {xs : List V} {ss : List Bool}, SgA K B H xs (ss.map D.bl) → xs = ss.map V.bl
  | _, [], .nil => rfl
  | _, s :: ss, .cons (.bl _) r => by rw [SgA.bls (ss := ss) r]; rfl
theorem SgA.ints : ∀ {xs : List V} {ss : List Int}, SgA K B H xs (ss.map D.int) → xs = ss.map V.int
  | _, [], .nil => rfl
  | _, s :: ss, .cons (.int _) r => by rw [SgA.ints (ss := ss) r]; rfl
theorem SgA.ofStrs : ∀ {ss : List Str}, SgA K B H (ss.map V.str) (ss.map D.str)
  | [] => .nil
  | s :: ss => .cons (.str s) SgA.ofStrs
end
def Sr (K : PySem.W.Frag) (B W : List Addr) (H : Hp) (v : V) : D → Prop
  | .lst ds => ∃ a xs, v = .ref a ∧ a ∉ W ∧ H a = some (.lst xs) ∧ SgA K B H xs ds
  | .dic ks ds => ∃ (a : Addr) (kvs : List (Key × V)), v = .ref a ∧ a ∉ W ∧ Rd H a (.dK kvs) ∧ kvs.map (·.1) = ks ∧ SgA K B H (kvs.map (·.2)) ds
  | .dit ks ds => ∃ (a : Addr) (kvs : List (List Key × V)), v = .ref a ∧ a ∉ W ∧ Rd H a (.dT kvs) ∧ kvs.map (·.1) = ks ∧ SgA K B H (kvs.map (·.2)) ds
  | .ins C ks ds => ∃ (a dx : Addr) (fs : List (Str × V)), v = .ref a ∧ a ∉ W ∧ H a = some (.ins C dx fs) ∧ fs.map (·.1) = ks ∧ SgA K B H (fs.map (·.2)) ds
  | .din w kk ks ds => ∃ (a : Addr) (kvs : List KvN), v = .ref a ∧ a ∉ W ∧ Rd H a (DicNX w a kvs) ∧ kvs.map (·.1) = kk ∧ SgA K B H (kvs.map fun r => V.ref r.2.1) ks ∧ SgA K B H (kvs.map fun r => r.2.2) ds
  | d => Sg K B H v d
theorem Sg.sr {K : PySem.W.Frag} {B W : List Addr} {H : Hp} {v : V} {d : D} (w : ∀ a ∈ W, a ∈ B) (s : Sg K B H v d) : Sr K B W H v d := by
  cases s with
  | lst n h r => exact ⟨_, _, rfl, fun m => n (w _ m), h, r⟩
  | dic n h e r => exact ⟨_, _, rfl, fun m => n (w _ m), h, e, r⟩
  | dit n h e r => exact ⟨_, _, rfl, fun m => n (w _ m), h, e, r⟩
  | ins n h e r => exact ⟨_, _, _, rfl, fun m => n (w _ m), h, e, r⟩
  | din n h e q r => exact ⟨_, _, rfl, fun m => n (w _ m), h, e, q, r⟩
  | non => exact .non
  | bl b => exact .bl b
  | int b => exact .int b
  | str b => exact .str b
  | ty b => exact .ty b
  | raw b => exact .raw b
  | tup n h r => exact .tup n h r
  | etup h => exact .etup h
theorem rd_map {H H' : Hp} {a : Addr} {u : HO} (h : Rd H a u) (k : ∀ o, H a = some o → H' a = some o) : Rd H' a u := h.imp (k _) fun ⟨o, z⟩ => ⟨o, k _ z⟩
theorem rd_some {H : Hp} {a : Addr} {u : HO} (h : Rd H a u) : H a ≠ none := fun z => rd_kn h z rfl
/-- another heap, other places left out: the root stays, what it holds is carried over -/
theorem Sr.mv {K : PySem.W.Frag} {B B' W : List Addr} {H H' : Hp} {v : V} {d : D} (hk : ∀ a o, v = .ref a → a ∉ W → H a = some o → H' a = some o) (g : ∀ xs ds, SgA K B H xs ds → SgA K B' H' xs ds) (g1 : Sg K B H v d → Sg K B' H' v d) (s : Sr K B W H v d) : Sr K B' W H' v d := by
  cases d with
  | lst ds =>
    obtain ⟨a, xs, e, n, h, r⟩ := s
    exact ⟨a, xs, e, n, hk _ _ e n h, g _ _ r⟩
  | dic ks ds =>
    obtain ⟨a, xs, e, n, h, k, r⟩ := s
    exact ⟨a, xs, e, n, rd_map h fun o => hk _ o e n, k, g _ _ r⟩
  | dit ks ds =>
    obtain ⟨a, xs, e, n, h, k, r⟩ := s
    exact ⟨a, xs, e, n, rd_map h fun o => hk _ o e n, k, g _ _ r⟩
  | ins C ks ds =>
    obtain ⟨a, dx, xs, e, n, h, k, r⟩ := s
    exact ⟨a, dx, xs, e, n, hk _ _ e n h, k, g _ _ r⟩
  | din w kk ks ds =>
    obtain ⟨a, xs, e, n, h, k, q, r⟩ := s
    exact ⟨a, xs, e, n, rd_map h fun o => hk _ o e n, k, g _ _ q, g _ _ r⟩
  | non => exact g1 s
  | bl b => exact g1 s
  | int b => exact g1 s
  | str b => exact g1 s
  | ty b => exact g1 s
  | raw b => exact g1 s
  | tup b => exact g1 s
  | etup => exact g1 s
/-- what a local of one's own holds: an object at a place of its own, what it holds stands outside B -/
def OwAt (K : PySem.W.Frag) (B : List Addr) (H : Hp) (a : Addr) : D → Prop
  | .lst ds => ∃ xs, H a = some (.lst xs) ∧ SgA K B H xs ds
  | .dic ks ds => ∃ kvs : List (Key × V), H a = some (.dK kvs) ∧ kvs.map (·.1) = ks ∧ SgA K B H (kvs.map (·.2)) ds
  | .dit ks ds => ∃ kvs : List (List Key × V), H a = some (.dT kvs) ∧ kvs.map (·.1) = ks ∧ SgA K B H (kvs.map (·.2)) ds
  | .ins C ks ds => ∃ (dx : Addr) (fs : List (Str × V)), H a = some (.ins C dx fs) ∧ fs.map (·.1) = ks ∧ SgA K B H (fs.map (·.2)) ds
  | .din w kk ks ds => ∃ kvs : List KvN, H a = some (DicNX w a kvs) ∧ kvs.map (·.1) = kk ∧ SgA K B H (kvs.map fun r => V.ref r.2.1) ks ∧ SgA K B H (kvs.map fun r => r.2.2) ds
  | _ => False
section
variable {K : PySem.W.Frag} {B : List Addr} {H H' : Hp} {a p : Addr} {d : D} {u : HO}
theorem OwAt.kn (h : OwAt K B H a d) : H a ≠ none := by
  cases d with
  | lst ds =>
    obtain ⟨xs, h, _⟩ := h
    rw [h]
    exact fun z => nomatch z
  | dic ks ds =>
    obtain ⟨xs, h, _⟩ := h
    rw [h]
    exact fun z => nomatch z
  | dit ks ds =>
    obtain ⟨xs, h, _⟩ := h
    rw [h]
    exact fun z => nomatch z
  | ins C ks ds =>
    obtain ⟨dx, xs, h, _⟩ := h
    rw [h]
    exact fun z => nomatch z
  | din w kk ks ds =>
    obtain ⟨xs, h, _⟩ := h
    rw [h]
    exact fun z => nomatch z
  | _ => exact h.elim
theorem OwAt.nt (h : OwAt K B H a d) : NoT H a := by
  cases d with
  | lst ds =>
    obtain ⟨xs, h, _⟩ := h
    exact ⟨_, h, fun _ z => nomatch z⟩
  | dic ks ds =>
    obtain ⟨xs, h, _⟩ := h
    exact ⟨_, h, fun _ z => nomatch z⟩
  | dit ks ds =>
    obtain ⟨xs, h, _⟩ := h
    exact ⟨_, h, fun _ z => nomatch z⟩
  | ins C ks ds =>
    obtain ⟨dx, xs, h, _⟩ := h
    exact ⟨_, h, fun _ z => nomatch z⟩
  | din w kk ks ds =>
    obtain ⟨xs, h, _⟩ := h
    exact ⟨_, h, fun _ z => nomatch z⟩
  | _ => exact h.elim
/-- another heap, other places left out: the object itself stays, what it holds is carried over -/
theorem OwAt.mv {B' : List Addr} (hk : ∀ o, H a = some o → H' a = some o) (g : ∀ xs ds, SgA K B H xs ds → SgA K B' H' xs ds) (h : OwAt K B H a d) : OwAt K B' H' a d := by
  cases d with
  | lst ds =>
    obtain ⟨xs, h, r⟩ := h
    exact ⟨xs, hk _ h, g _ _ r⟩
  | dic ks ds =>
    obtain ⟨xs, h, e, r⟩ := h
    exact ⟨xs, hk _ h, e, g _ _ r⟩
  | dit ks ds =>
    obtain ⟨xs, h, e, r⟩ := h
    exact ⟨xs, hk _ h, e, g _ _ r⟩
  | ins C ks ds =>
    obtain ⟨dx, xs, h, e, r⟩ := h
    exact ⟨dx, xs, hk _ h, e, g _ _ r⟩
  | din w kk ks ds =>
    obtain ⟨xs, h, e, q, r⟩ := h
    exact ⟨xs, hk _ h, e, g _ _ q, g _ _ r⟩
  | _ => exact h.elim
theorem OwAt.sg {B' : List Addr} (s : ∀ b ∈ B', b ∈ B) (n : a ∉ B') (h : OwAt K B H a d) : Sg K B' H (.ref a) d := by
  cases d with
  | lst ds =>
    obtain ⟨xs, h, r⟩ := h
    exact .lst n h (r.less s)
  | dic ks ds =>
    obtain ⟨xs, h, e, r⟩ := h
    exact .dic n (Rd.of h) e (r.less s)
  | dit ks ds =>
    obtain ⟨xs, h, e, r⟩ := h
    exact .dit n (Rd.of h) e (r.less s)
  | ins C ks ds =>
    obtain ⟨dx, xs, h, e, r⟩ := h
    exact .ins n h e (r.less s)
  | din w kk ks ds =>
    obtain ⟨xs, h, e, q, r⟩ := h
    exact .din n (Rd.of h) e (q.less s) (r.less s)
  | _ => exact h.elim
mutual
theorem Sg.avo (n : H p = none) : ∀ {v : V} {d : D}, Sg K B H v d → Sg K (p :: B) H v d
  | _, _, .non => .non
  | _, _, .bl b => .bl b
  | _, _, .int i => .int i
  | _, _, .str x => .str x
  | _, _, .ty n => .ty n
  | _, _, .raw a => .raw a
  | _, _, .tup m h r => .tup m h (SgA.avo n r)
  | _, _, .etup h => .etup h
  | _, _, .lst m h r => .lst (fun z => (List.mem_cons.mp z).elim (ne_of_none h n) m) h (SgA.avo n r)
  | _, _, .dic m h e r => .dic (fun z => (List.mem_cons.mp z).elim (rd_kn h n) m) h e (SgA.avo n r)
  | _, _, .dit m h e r => .dit (fun z => (List.mem_cons.mp z).elim (rd_kn h n) m) h e (SgA.avo n r)
  | _, _, .ins m h e r => .ins (fun z => (List.mem_cons.mp z).elim (ne_of_none h n) m) h e (SgA.avo n r)
  | _, _, .din m h e q r => .din (fun z => (List.mem_cons.mp z).elim (rd_kn h n) m) h e (SgA.avo n q) (SgA.avo n r)
theorem SgA.avo (n : H p = none) : ∀ {vs : List V} {ds : List D}, SgA K B H vs ds → SgA K (p :: B) H vs ds
  | _, _, .nil => .nil
  | _, _, .cons h r => .cons (Sg.avo n h) (SgA.avo n r)
end
mutual
/-- no list within -/
def D.noL : D → Bool
  | .lst _ => false
  | .tup ds => D.noLA ds
  | .dic _ ds => D.noLA ds
  | .dit _ ds => D.noLA ds
  | .ins _ _ ds => D.noLA ds
  | .din _ _ ks ds => D.noLA ks && D.noLA ds
  | _ => true
def D.noLA : List D → Bool
  | [] => true
  | d :: ds => D.noL d && D.noLA ds
end
mutual
theorem Sg.noL {xs : List V} (e : H p = some (.lst xs)) : ∀ {v : V} {d : D}, Sg K B H v d → d.noL = true → Sg K (p :: B) H v d
  | _, _, .non, _ => .non
  | _, _, .bl b, _ => .bl b
  | _, _, .int i, _ => .int i
  | _, _, .str x, _ => .str x
  | _, _, .ty n, _ => .ty n
  | _, _, .raw a, _ => .raw a
  | _, _, .tup m h r, q => .tup m h (SgA.noL e r q)
  | _, _, .etup h, _ => .etup h
  | _, _, .lst m h r, q => by cases q
  | _, _, .dic m h k r, q => .dic (fun z => (List.mem_cons.mp z).elim (fun z => by
      subst z
      rcases h with h | ⟨o, h⟩ <;> rw [e] at h <;> cases h) m) h k (SgA.noL e r q)
  | _, _, .dit m h k r, q => .dit (fun z => (List.mem_cons.mp z).elim (fun z => by
      subst z
      rcases h with h | ⟨o, h⟩ <;> rw [e] at h <;> cases h) m) h k (SgA.noL e r q)
  | _, _, .ins m h k r, q => .ins (fun z => (List.mem_cons.mp z).elim (fun z => by
      subst z
      rw [e] at h
      cases h) m) h k (SgA.noL e r q)
  | _, _, .din m h k r1 r, q => .din (fun z => (List.mem_cons.mp z).elim (fun z => by
      subst z
      rcases h with h | ⟨o, h⟩ <;> rw [e] at h <;> cases h) m) h k (SgA.noL e r1 (Bool.and_eq_true_iff.mp (show (_ && _) = true from q)).1) (SgA.noL e r (Bool.and_eq_true_iff.mp (show (_ && _) = true from q)).2)
theorem SgA.noL {xs : List V} (e : H p = some (.lst xs)) : ∀ {vs : List V} {ds : List D}, SgA K B H vs ds → D.noLA ds = true → SgA K (p :: B) H vs ds
  | _, _, .nil, _ => .nil
  | _, _, .cons h r, q => by
    obtain ⟨q1, q2⟩ := Bool.and_eq_true_iff.mp (show (_ && _) = true from q)
    exact .cons (Sg.noL e h q1) (SgA.noL e r q2)
end
end
def D.flt : D → Bool
  | .raw _ => false
  | .etup => false
  | d => d.noL
theorem flt_noL {d : D} (h : d.flt = true) : d.noL = true := by
  cases d <;> first | exact h | cases h
mutual
inductive SnP (K : PySem.W.Frag) (B : List Addr) (N : Addr → Prop) (H : Hp) : V → D → Prop
  | flt {v : V} {d : D} : Sg K B H v d → d.flt = true → SnP K B N H v d
  | tup {a : Addr} {xs : List V} {ds : List D} : H a = some (.tup xs) → SnPA K B N H xs ds → SnP K B N H (.ref a) (.tup ds)
  | lst {a : Addr} {xs : List V} {ds : List D} : N a → V.ref a ∉ xs → H a = some (.lst xs) → SnPA K B N H xs ds → SnP K B N H (.ref a) (.lst ds)
inductive SnPA (K : PySem.W.Frag) (B : List Addr) (N : Addr → Prop) (H : Hp) : List V → List D → Prop
  | nil : SnPA K B N H [] []
  | cons {v : V} {vs : List V} {d : D} {ds : List D} : SnP K B N H v d → SnPA K B N H vs ds → SnPA K B N H (v :: vs) (d :: ds)
end
section
variable {K : PySem.W.Frag} {B : List Addr} {N N' : Addr → Prop} {H : Hp}
mutual
theorem SnP.imp (f : ∀ a, N a → N' a) : ∀ {v : V} {d : D}, SnP K B N H v d → SnP K B N' H v d
  | _, _, .flt s q => .flt s q
  | _, _, .tup h r => .tup h (SnPA.imp f r)
  | _, _, .lst n m h r => .lst (f _ n) m h (SnPA.imp f r)
theorem SnPA.imp (f : ∀ a, N a → N' a) : ∀ {vs : List V} {ds : List D}, SnPA K B N H vs ds → SnPA K B N' H vs ds
  | _, _, .nil => .nil
  | _, _, .cons h r => .cons (SnP.imp f h) (SnPA.imp f r)
end
end
/-- what a local of one's own is: what it holds, and its place where that is told -/
structure Ow where
  t : Option Addr
  d : D
def OwX (K : PySem.W.Frag) (B : List Addr) (H : Hp) (a : Addr) (o : Ow) : Prop := (∀ b, o.t = some b → b = a) ∧ OwAt K B H a o.d
theorem OwX.kn {K : PySem.W.Frag} {B : List Addr} {H : Hp} {a : Addr} {o : Ow} (h : OwX K B H a o) : H a ≠ none := h.2.kn
theorem OwX.mv {K : PySem.W.Frag} {B B' : List Addr} {H H' : Hp} {a : Addr} {o : Ow} (hk : ∀ u, H a = some u → H' a = some u) (g : ∀ xs ds, SgA K B H xs ds → SgA K B' H' xs ds) (h : OwX K B H a o) : OwX K B' H' a o := ⟨h.1, h.2.mv hk g⟩
theorem OwX.sg {K : PySem.W.Frag} {B B' : List Addr} {H : Hp} {a : Addr} {o : Ow} (s : ∀ b ∈ B', b ∈ B) (n : a ∉ B') (h : OwX K B H a o) : Sg K B' H (.ref a) o.d := h.2.sg s n
/-- bor: an argument that is only read -/
inductive En where
  | no | dat (d : D) | bag (b : Addr) | own (d : Ow) | bor (d : D)
/-- data whose root is an object that may change -/
def D.isRoot : D → Bool
  | .lst _ => true
  | .dic _ _ => true
  | .dit _ _ => true
  | .ins _ _ _ => true
  | .din _ _ _ _ => true
  | _ => false
def EnOk (K : PySem.W.Frag) (B W : List Addr) (H : Hp) (o : Option (Option V)) : En → Prop
  | .no => True
  | .dat d => ∃ v, o = some (some v) ∧ Sg K B H v d
  | .bag b => o = some (some (.ref b)) ∧ b ∈ W ∧ ∃ c ns, c ∉ B ∧ BagC H b c ns
  | .own d => ∃ a, o = some (some (.ref a)) ∧ a ∈ B ∧ a ∉ W ∧ OwX K B H a d
  | .bor d => ∃ v, o = some (some v) ∧ Sr K B W H v d
structure BW (B W : List Addr) (H : Hp) : Prop where
  sub : ∀ a ∈ W, a ∈ B
  kn : ∀ a ∈ B, H a ≠ none
/-- p is the place of a local of one's own -/
def Own (σ : L2.St) (ρ : List En) (p : Addr) : Prop := ∃ (i : Nat) (d : Ow), ρ[i]? = some (En.own d) ∧ σ[i]? = some (some (V.ref p))
/-- p is the root of an argument that is only read -/
def Bor (σ : L2.St) (ρ : List En) (p : Addr) : Prop := ∃ (i : Nat) (d : D), ρ[i]? = some (En.bor d) ∧ d.isRoot = true ∧ σ[i]? = some (some (V.ref p))
structure EnvOk (K : PySem.W.Frag) (B W : List Addr) (H : Hp) (σ : L2.St) (ρ : List En) : Prop where
  bw : BW B W H
  len : σ.length = ρ.length
  sl : ∀ (i : Nat) (e : En), ρ[i]? = some e → EnOk K B W H (σ[i]?) e
  one : ∀ (i j : Nat) (d e : Ow) (a : Addr), ρ[i]? = some (.own d) → ρ[j]? = some (.own e) → σ[i]? = some (some (.ref a)) → σ[j]? = some (some (.ref a)) → i = j
  sep : ∀ a, Own σ ρ a → ¬ Bor σ ρ a
def En.isOwn : En → Bool
  | .own _ => true
  | _ => false
/-- neither one's own nor an argument that is only read -/
def En.pl : En → Bool
  | .own _ => false
  | .bor _ => false
  | _ => true
theorem Sr.kn {K : PySem.W.Frag} {B W : List Addr} {H : Hp} {a : Addr} {d : D} (s : Sr K B W H (.ref a) d) (h : d.isRoot = true) : H a ≠ none := by
  cases d with
  | lst ds =>
    obtain ⟨b, xs, e, n, h, r⟩ := s
    cases e
    rw [h]
    exact fun z => nomatch z
  | dic ks ds =>
    obtain ⟨b, xs, e, n, h, k, r⟩ := s
    cases e
    exact rd_some h
  | dit ks ds =>
    obtain ⟨b, xs, e, n, h, k, r⟩ := s
    cases e
    exact rd_some h
  | ins C ks ds =>
    obtain ⟨b, dx, xs, e, n, h, k, r⟩ := s
    cases e
    rw [h]
    exact fun z => nomatch z
  | din w kk ks ds =>
    obtain ⟨b, xs, e, n, h, k, q, r⟩ := s
    cases e
    exact rd_some h
  | _ => cases h
theorem Sr.less {K : PySem.W.Frag} {B B' W : List Addr} {H : Hp} {v : V} {d : D} (s : ∀ a ∈ B', a ∈ B) (h : Sr K B W H v d) : Sr K B' W H v d := h.mv (fun _ _ _ _ z => z) (fun _ _ r => r.less s) fun z => z.less s
theorem Sr.gs {K : PySem.W.Frag} {B W : List Addr} {H H' : Hp} {v : V} {d : D} (w : ∀ a ∈ W, a ∈ B) (g : Gs W H H') (h : Sr K B W H v d) : Sr K B W H' v d := h.mv (fun a o _ n e => g.gw.keep a o n e) (fun _ _ r => r.gw (g.gw.mono w)) fun z => z.gw (g.gw.mono w)
theorem En.pl_own {e : En} (h : e.pl = true) : e.isOwn = false := by
  cases e with
  | own _ => cases h
  | _ => rfl
theorem one_of {σ : L2.St} {ρ : List En} (h : ρ.all (fun e => !e.isOwn) = true) : ∀ (i j : Nat) (d e : Ow) (a : Addr), ρ[i]? = some (.own d) → ρ[j]? = some (.own e) → σ[i]? = some (some (.ref a)) → σ[j]? = some (some (.ref a)) → i = j := fun i j d e a h1 _ _ _ => by
  have := List.all_eq_true.mp h _ (List.mem_of_getElem? h1)
  cases this
theorem sep_of {σ : L2.St} {ρ : List En} (h : ρ.all (fun e => !e.isOwn) = true) : ∀ a, Own σ ρ a → ¬ Bor σ ρ a := fun a ⟨i, d, h1, _⟩ _ => by
  have := List.all_eq_true.mp h _ (List.mem_of_getElem? h1)
  cases this
theorem own_set {ρ : List En} {i j : Nat} {e : En} {d : Ow} (h : (ρ.set i e)[j]? = some (.own d)) (n : e.isOwn = false) : i ≠ j ∧ ρ[j]? = some (.own d) := by
  by_cases z : i = j
  · subst z
    have hi : i < ρ.length := by
      have := (List.getElem?_eq_some_iff.mp h).1
      rw [List.length_set] at this
      exact this
    rw [List.getElem?_set_self hi] at h
    cases h
    cases n
  · rw [List.getElem?_set_ne z] at h
    exact ⟨z, h⟩
section
variable {K : PySem.W.Frag} {B W : List Addr} {H H' : Hp} {σ : L2.St} {ρ : List En}
theorem Own.set {i : Nat} {o : Option V} {e : En} {p : Addr} (h : Own (σ.set i o) (ρ.set i e) p) (n : e.isOwn = false) : Own σ ρ p := by
  obtain ⟨j, d, h1, h2⟩ := h
  obtain ⟨z, h1⟩ := own_set h1 n
  rw [List.getElem?_set_ne z] at h2
  exact ⟨j, d, h1, h2⟩
theorem bor_set {ρ : List En} {i j : Nat} {e : En} {d : D} (h : (ρ.set i e)[j]? = some (.bor d)) (n : e.pl = true) : i ≠ j ∧ ρ[j]? = some (.bor d) := by
  by_cases z : i = j
  · subst z
    have hi : i < ρ.length := by
      have := (List.getElem?_eq_some_iff.mp h).1
      rw [List.length_set] at this
      exact this
    rw [List.getElem?_set_self hi] at h
    cases h
    cases n
  · rw [List.getElem?_set_ne z] at h
    exact ⟨z, h⟩
theorem Bor.set {i : Nat} {o : Option V} {e : En} {p : Addr} (h : Bor (σ.set i o) (ρ.set i e) p) (n : e.pl = true) : Bor σ ρ p := by
  obtain ⟨j, d, h1, hr, h2⟩ := h
  obtain ⟨z, h1⟩ := bor_set h1 n
  rw [List.getElem?_set_ne z] at h2
  exact ⟨j, d, h1, hr, h2⟩
theorem EnvOk.borK {p : Addr} (h : EnvOk K B W H σ ρ) (b : Bor σ ρ p) : H p ≠ none := by
  obtain ⟨i, d, h1, hr, h2⟩ := b
  obtain ⟨v, e, k⟩ := h.sl i _ h1
  rw [h2] at e
  cases e
  exact k.kn hr
theorem EnvOk.ownB {p : Addr} (h : EnvOk K B W H σ ρ) (o : Own σ ρ p) : p ∈ B ∧ p ∉ W ∧ H p ≠ none := by
  obtain ⟨i, d, h1, h2⟩ := o
  obtain ⟨a, e, m, n, k⟩ := h.sl i _ h1
  rw [h2] at e
  cases e
  exact ⟨m, n, k.kn⟩
theorem BW.gs (b : BW B W H) (g : Gs W H H') : BW B W H' := ⟨b.sub, fun a m z => b.kn a m (g.gw.free a z)⟩
theorem BW.gw (b : BW B W H) (g : Gs W H H') : Gw B H H' := g.gw.mono b.sub
theorem EnOk.gs {o : Option (Option V)} {e : En} (b : BW B W H) (g : Gs W H H') (h : EnOk K B W H o e) : EnOk K B W H' o e := by
  cases e with
  | no => trivial
  | dat d =>
    obtain ⟨v, e, s⟩ := h
    exact ⟨v, e, s.gw (b.gw g)⟩
  | bag q =>
    obtain ⟨e, m, c, ns, nc, hb⟩ := h
    exact ⟨e, m, c, ns, nc, g.bag q m c ns (fun z => nc (b.sub c z)) hb⟩
  | own d =>
    obtain ⟨a, e, m, n, k⟩ := h
    exact ⟨a, e, m, n, k.mv (fun o z => g.gw.keep a o n z) fun _ _ r => r.gw (b.gw g)⟩
  | bor d =>
    obtain ⟨v, e, k⟩ := h
    exact ⟨v, e, k.gs b.sub g⟩
theorem EnvOk.gs (h : EnvOk K B W H σ ρ) (g : Gs W H H') : EnvOk K B W H' σ ρ := ⟨h.bw.gs g, h.len, fun i e q => (h.sl i e q).gs h.bw g, h.one, h.sep⟩
theorem EnvOk.put {i : Nat} {o : Option V} {e : En} (h : EnvOk K B W H σ ρ) (n : e.pl = true) (k : EnOk K B W H (some o) e) : EnvOk K B W H (σ.set i o) (ρ.set i e) := by
  refine ⟨h.bw, by rw [List.length_set, List.length_set]; exact h.len, fun j e' q => ?_, fun i1 j1 d1 e1 a h1 h2 h3 h4 => ?_, fun a o b => h.sep a (o.set (En.pl_own n)) (b.set n)⟩
  · by_cases hj : i = j
    · subst hj
      have hi : i < ρ.length := by
        have := (List.getElem?_eq_some_iff.mp q).1
        rw [List.length_set] at this
        exact this
      rw [List.getElem?_set_self hi] at q
      cases q
      rw [List.getElem?_set_self (by rw [h.len]; exact hi)]
      exact k
    · rw [List.getElem?_set_ne hj] at q
      rw [List.getElem?_set_ne hj]
      exact h.sl j e' q
  · obtain ⟨z1, h1⟩ := own_set h1 (En.pl_own n)
    obtain ⟨z2, h2⟩ := own_set h2 (En.pl_own n)
    rw [List.getElem?_set_ne z1] at h3
    rw [List.getElem?_set_ne z2] at h4
    exact h.one i1 j1 d1 e1 a h1 h2 h3 h4
theorem EnvOk.set {i : Nat} {v : V} {d : D} (h : EnvOk K B W H σ ρ) (s : Sg K B H v d) : EnvOk K B W H (σ.set i (some v)) (ρ.set i (.dat d)) := h.put rfl ⟨v, rfl, s⟩
theorem EnvOk.clr {i : Nat} (h : EnvOk K B W H σ ρ) : EnvOk K B W H (σ.set i none) (ρ.set i .no) := h.put rfl trivial
/-- a new place p, written, may be left out from here on -/
theorem EnvOk.out {p : Addr} {u : HO} (h : EnvOk K B W H σ ρ) (n : H p = none) : EnvOk K (p :: B) W (upd H p u) σ ρ := by
  refine ⟨⟨fun a m => List.mem_cons_of_mem _ (h.bw.sub a m), fun a m => ?_⟩, h.len, fun i e q => ?_, h.one, h.sep⟩
  · by_cases z : a = p
    · rw [z, upd_same]
      exact Option.some_ne_none _
    · rw [upd_ne z]
      rcases List.mem_cons.mp m with q | q
      · exact absurd q z
      · exact h.bw.kn a q
  · have r := h.sl i e q
    cases e with
    | no => trivial
    | dat d =>
      obtain ⟨v, e1, s⟩ := r
      exact ⟨v, e1, s.out n⟩
    | bag b =>
      obtain ⟨e1, m, c, ns, nc, hb⟩ := r
      refine ⟨e1, m, c, ns, fun z => ?_, hb.new n⟩
      rcases List.mem_cons.mp z with q | q
      · exact ne_of_none hb.2.1 n q
      · exact nc q
    | own d =>
      obtain ⟨a, e1, m, nw, k⟩ := r
      refine ⟨a, e1, List.mem_cons_of_mem _ m, nw, k.mv (fun o z => ?_) fun _ _ r => r.out n⟩
      rw [upd_ne (ne_of_none z n)]
      exact z
    | bor d =>
      obtain ⟨v, e1, k⟩ := r
      refine ⟨v, e1, k.mv (fun a o _ _ z => ?_) (fun _ _ r => r.out n) fun z => z.out n⟩
      rw [upd_ne (ne_of_none z n)]
      exact z
/-- another place than the root is written -/
theorem Sr.wrt {v : V} {d : D} {p : Addr} {u : HO} (s : Sr K B W H v d) (ne : ∀ a, v = .ref a → d.isRoot = true → a ≠ p) (g : Gw B H (upd H p u)) : Sr K B W (upd H p u) v d := by
  have go : ∀ {a o}, v = .ref a → d.isRoot = true → H a = some o → upd H p u a = some o := fun e hr h => by
    rw [upd_ne (ne _ e hr)]
    exact h
  cases d with
  | lst ds =>
    obtain ⟨a, xs, e, n, h, r⟩ := s
    exact ⟨a, xs, e, n, go e rfl h, r.gw g⟩
  | dic ks ds =>
    obtain ⟨a, xs, e, n, h, k, r⟩ := s
    exact ⟨a, xs, e, n, rd_map h fun o => go e rfl, k, r.gw g⟩
  | dit ks ds =>
    obtain ⟨a, xs, e, n, h, k, r⟩ := s
    exact ⟨a, xs, e, n, rd_map h fun o => go e rfl, k, r.gw g⟩
  | ins C ks ds =>
    obtain ⟨a, dx, xs, e, n, h, k, r⟩ := s
    exact ⟨a, dx, xs, e, n, go e rfl h, k, r.gw g⟩
  | din w kk ks ds =>
    obtain ⟨a, xs, e, n, h, k, q, r⟩ := s
    exact ⟨a, xs, e, n, rd_map h fun o => go e rfl, k, q.gw g, r.gw g⟩
  | non => exact Sg.gw g s
  | bl b => exact Sg.gw g s
  | int b => exact Sg.gw g s
  | str b => exact Sg.gw g s
  | ty b => exact Sg.gw g s
  | raw b => exact Sg.gw g s
  | tup b => exact Sg.gw g s
  | etup => exact Sg.gw g s
/-- a place of B that is neither a bag, nor one's own, nor an argument that is read, is written -/
theorem EnvOk.wr {p : Addr} {u : HO} (h : EnvOk K B W H σ ρ) (nt : NoT H p) (m : p ∈ B) (n : p ∉ W) (no : ¬ Own σ ρ p) (nb : ¬ Bor σ ρ p) : EnvOk K B W (upd H p u) σ ρ := by
  refine ⟨⟨h.bw.sub, fun a ma => ?_⟩, h.len, fun i e q => ?_, h.one, h.sep⟩
  · by_cases z : a = p
    · rw [z, upd_same]
      exact Option.some_ne_none _
    · rw [upd_ne z]
      exact h.bw.kn a ma
  · have r := h.sl i e q
    cases e with
    | no => trivial
    | dat d =>
      obtain ⟨v, e1, s⟩ := r
      exact ⟨v, e1, s.gw (Gw.wr m nt)⟩
    | bag b =>
      obtain ⟨e1, mb, c, ns, nc, hb⟩ := r
      refine ⟨e1, mb, c, ns, nc, hb.wr (fun z => n (z ▸ mb)) (fun z => nc (z ▸ m))⟩
    | own d =>
      obtain ⟨a, e1, ma, nw, k⟩ := r
      have hne : a ≠ p := fun z => no ⟨i, d, q, z ▸ e1⟩
      refine ⟨a, e1, ma, nw, k.mv (fun o z => ?_) fun _ _ r => r.gw (Gw.wr m nt)⟩
      rw [upd_ne hne]
      exact z
    | bor d =>
      obtain ⟨v, e1, k⟩ := r
      exact ⟨v, e1, k.wrt (fun a e hr z => nb (z ▸ ⟨i, d, q, hr, e ▸ e1⟩)) (Gw.wr m nt)⟩
/-- back to fewer -/
theorem EnvOk.back {B' : List Addr} (h : EnvOk K B W H σ ρ) (s : ∀ a ∈ B', a ∈ B) (sw : ∀ a ∈ W, a ∈ B') (so : ∀ a, Own σ ρ a → a ∈ B') : EnvOk K B' W H σ ρ := by
  refine ⟨⟨sw, fun a m => h.bw.kn a (s a m)⟩, h.len, fun i e q => ?_, h.one, h.sep⟩
  have r := h.sl i e q
  cases e with
  | no => trivial
  | dat d =>
    obtain ⟨v, e1, z⟩ := r
    exact ⟨v, e1, z.less s⟩
  | bag b =>
    obtain ⟨e1, m, c, ns, nc, hb⟩ := r
    exact ⟨e1, m, c, ns, fun z => nc (s c z), hb⟩
  | own d =>
    obtain ⟨a, e1, m, nw, k⟩ := r
    exact ⟨a, e1, so a ⟨i, d, q, e1⟩, nw, k.mv (fun _ z => z) fun _ _ r => r.less s⟩
  | bor d =>
    obtain ⟨v, e1, k⟩ := r
    exact ⟨v, e1, k.less s⟩
/-- a new object becomes a local's own -/
theorem EnvOk.addO {i : Nat} {a : Addr} {d : D} (h : EnvOk K B W H σ ρ) (g : Gs W H H') (n : H a = none) (k : OwAt K (a :: B) H' a d) : EnvOk K (a :: B) W H' (σ.set i (some (.ref a))) (ρ.set i (.own ⟨none, d⟩)) := by
  have g2 : Gw (a :: B) H H' := g.gw.mono fun x m => List.mem_cons_of_mem _ (h.bw.sub x m)
  have aW : a ∉ W := fun m => h.bw.kn a (h.bw.sub a m) n
  have noA : ∀ (j : Nat) (e : Ow), ρ[j]? = some (En.own e) → σ[j]? = some (some (V.ref a)) → False := fun j e h1 h2 => (h.ownB ⟨j, e, h1, h2⟩).2.2 n
  refine ⟨⟨fun x m => List.mem_cons_of_mem _ (h.bw.sub x m), fun x m => ?_⟩, by rw [List.length_set, List.length_set]; exact h.len, fun j e q => ?_, fun i1 j1 d1 e1 b h1 h2 h3 h4 => ?_, fun b ob bb => ?_⟩
  · rcases List.mem_cons.mp m with z | z
    · rw [z]
      exact k.kn
    · exact fun z2 => h.bw.kn x z (g.gw.free x z2)
  · by_cases hj : i = j
    · subst hj
      have hi : i < ρ.length := by
        have := (List.getElem?_eq_some_iff.mp q).1
        rw [List.length_set] at this
        exact this
      rw [List.getElem?_set_self hi] at q
      cases q
      rw [List.getElem?_set_self (by rw [h.len]; exact hi)]
      exact ⟨a, rfl, List.mem_cons_self .., aW, (fun b z => nomatch z), k⟩
    · rw [List.getElem?_set_ne hj] at q
      rw [List.getElem?_set_ne hj]
      have r := h.sl j e q
      cases e with
      | no => trivial
      | dat d =>
        obtain ⟨v, e1, s⟩ := r
        exact ⟨v, e1, (s.avo n).gw g2⟩
      | bag b =>
        obtain ⟨e1, m, c, ns, nc, hb⟩ := r
        refine ⟨e1, m, c, ns, fun z => ?_, g.bag b m c ns (fun z => nc (h.bw.sub c z)) hb⟩
        rcases List.mem_cons.mp z with q | q
        · exact ne_of_none hb.2.1 n q
        · exact nc q
      | own d =>
        obtain ⟨b, e1, m, nw, kb⟩ := r
        exact ⟨b, e1, List.mem_cons_of_mem _ m, nw, kb.mv (fun o z => g.gw.keep b o nw z) fun _ _ r => (r.avo n).gw g2⟩
      | bor d =>
        obtain ⟨v, e1, k⟩ := r
        exact ⟨v, e1, k.mv (fun b o _ nw z => g.gw.keep b o nw z) (fun _ _ r => (r.avo n).gw g2) fun r => (r.avo n).gw g2⟩
  · by_cases z1 : i = i1
    · by_cases z2 : i = j1
      · rw [← z1, ← z2]
      · rw [List.getElem?_set_ne z2] at h2 h4
        subst z1
        have hi : i < σ.length := by
          have := (List.getElem?_eq_some_iff.mp h3).1
          rw [List.length_set] at this
          exact this
        rw [List.getElem?_set_self hi] at h3
        cases h3
        exact (noA j1 e1 h2 h4).elim
    · rw [List.getElem?_set_ne z1] at h1 h3
      by_cases z2 : i = j1
      · subst z2
        have hi : i < σ.length := by
          have := (List.getElem?_eq_some_iff.mp h4).1
          rw [List.length_set] at this
          exact this
        rw [List.getElem?_set_self hi] at h4
        cases h4
        exact (noA i1 d1 h1 h3).elim
      · rw [List.getElem?_set_ne z2] at h2 h4
        exact h.one i1 j1 d1 e1 b h1 h2 h3 h4
  · obtain ⟨j, dj, h1, hr, h2⟩ := bb
    have z : i ≠ j := fun z => by
      subst z
      have hi : i < ρ.length := by
        have := (List.getElem?_eq_some_iff.mp h1).1
        rw [List.length_set] at this
        exact this
      rw [List.getElem?_set_self hi] at h1
      cases h1
    rw [List.getElem?_set_ne z] at h1 h2
    have hb : Bor σ ρ b := ⟨j, dj, h1, hr, h2⟩
    obtain ⟨x, dx, h3, h4⟩ := ob
    by_cases zx : i = x
    · subst zx
      have hi : i < σ.length := by
        have := (List.getElem?_eq_some_iff.mp h4).1
        rw [List.length_set] at this
        exact this
      rw [List.getElem?_set_self hi] at h4
      cases h4
      exact h.borK hb n
    · rw [List.getElem?_set_ne zx] at h3 h4
      exact h.sep b ⟨x, dx, h3, h4⟩ hb
/-- a local's own object is written -/
theorem EnvOk.upO {i : Nat} {a : Addr} {d : Ow} {d' : D} {u : HO} (h : EnvOk K B W H σ ρ) (hi : ρ[i]? = some (.own d)) (hv : σ[i]? = some (some (.ref a))) (k : OwAt K B (upd H a u) a d') : EnvOk K B W (upd H a u) σ (ρ.set i (.own ⟨d.t, d'⟩)) := by
  obtain ⟨a0, ea0, _, _, tg, ow⟩ := h.sl i _ hi
  rw [hv] at ea0
  cases ea0
  have aT := ow.nt
  obtain ⟨aB, aW, aK⟩ := h.ownB ⟨i, d, hi, hv⟩
  have il : i < ρ.length := (List.getElem?_eq_some_iff.mp hi).1
  have bk : ∀ x, Own σ (ρ.set i (.own ⟨d.t, d'⟩)) x → Own σ ρ x := fun x ⟨j, dj, h1, h2⟩ => by
    by_cases hj : i = j
    · subst hj
      exact ⟨i, d, hi, h2⟩
    · rw [List.getElem?_set_ne hj] at h1
      exact ⟨j, dj, h1, h2⟩
  have bb : ∀ x, Bor σ (ρ.set i (.own ⟨d.t, d'⟩)) x → Bor σ ρ x := fun x ⟨j, dj, h1, hr, h2⟩ => by
    by_cases hj : i = j
    · subst hj
      rw [List.getElem?_set_self il] at h1
      cases h1
    · rw [List.getElem?_set_ne hj] at h1
      exact ⟨j, dj, h1, hr, h2⟩
  refine ⟨⟨h.bw.sub, fun x m => ?_⟩, by rw [List.length_set]; exact h.len, fun j e q => ?_, fun i1 j1 d1 e1 b h1 h2 h3 h4 => ?_, fun x o b => h.sep x (bk x o) (bb x b)⟩
  · by_cases z : x = a
    · rw [z, upd_same]
      exact Option.some_ne_none _
    · rw [upd_ne z]
      exact h.bw.kn x m
  · by_cases hj : i = j
    · subst hj
      rw [List.getElem?_set_self il] at q
      cases q
      exact ⟨a, hv, aB, aW, tg, k⟩
    · rw [List.getElem?_set_ne hj] at q
      have r := h.sl j e q
      cases e with
      | no => trivial
      | dat d =>
        obtain ⟨v, e1, s⟩ := r
        exact ⟨v, e1, s.gw (Gw.wr aB aT)⟩
      | bag b =>
        obtain ⟨e1, m, c, ns, nc, hb⟩ := r
        exact ⟨e1, m, c, ns, nc, hb.wr (fun z => aW (z ▸ m)) (fun z => nc (z ▸ aB))⟩
      | own d =>
        obtain ⟨b, e1, m, nw, kb⟩ := r
        have hne : b ≠ a := fun z => hj (h.one i j _ _ a hi q hv (z ▸ e1))
        refine ⟨b, e1, m, nw, kb.mv (fun o z => ?_) fun _ _ r => r.gw (Gw.wr aB aT)⟩
        rw [upd_ne hne]
        exact z
      | bor db =>
        obtain ⟨v, e1, k⟩ := r
        exact ⟨v, e1, k.wrt (fun b e hr z => h.sep a ⟨i, d, hi, hv⟩ (z ▸ ⟨j, db, q, hr, e ▸ e1⟩)) (Gw.wr aB aT)⟩
  · have back : ∀ {x : Nat} {dx : Ow}, (ρ.set i (.own ⟨d.t, d'⟩))[x]? = some (.own dx) → ∃ dy, ρ[x]? = some (.own dy) := fun {x dx} q => by
      by_cases hj : i = x
      · subst hj
        exact ⟨d, hi⟩
      · rw [List.getElem?_set_ne hj] at q
        exact ⟨dx, q⟩
    obtain ⟨d2, h1⟩ := back h1
    obtain ⟨e2, h2⟩ := back h2
    exact h.one i1 j1 d2 e2 b h1 h2 h3 h4
/-- a local's own object becomes data -/
theorem EnvOk.frz {i : Nat} {d : Ow} (h : EnvOk K B W H σ ρ) (hi : ρ[i]? = some (.own d)) : ∃ a B', σ[i]? = some (some (.ref a)) ∧ (∀ x, x ∈ B' ↔ x ∈ B ∧ x ≠ a) ∧ EnvOk K B' W H σ (ρ.set i (.dat d.d)) := by
  obtain ⟨a, e1, aB, aW, k⟩ := h.sl i _ hi
  have il : i < ρ.length := (List.getElem?_eq_some_iff.mp hi).1
  have mem : ∀ x, x ∈ B.filter (fun x => decide (x ≠ a)) ↔ x ∈ B ∧ x ≠ a := fun x => by
    rw [List.mem_filter, decide_eq_true_iff]
  refine ⟨a, B.filter (fun x => decide (x ≠ a)), e1, mem, ?_⟩
  have e0 : σ.set i (some (.ref a)) = σ := by
    obtain ⟨hl, hv⟩ := List.getElem?_eq_some_iff.mp e1
    have q : σ.set i σ[i] = σ := List.set_getElem_self hl
    rw [hv] at q
    exact q
  have h2 : EnvOk K (B.filter (fun x => decide (x ≠ a))) W H σ (ρ.set i .no) := by
    have z : EnvOk K B W H σ (ρ.set i .no) := by
      have z := h.put (i := i) (o := some (.ref a)) (e := .no) rfl trivial
      rw [e0] at z
      exact z
    refine z.back (fun x m => ((mem x).mp m).1) (fun x m => (mem x).mpr ⟨h.bw.sub x m, fun q => aW (q ▸ m)⟩) fun x o => ?_
    obtain ⟨j, dj, h1, h2⟩ := o
    obtain ⟨zj, h1⟩ := own_set h1 rfl
    refine (mem x).mpr ⟨(h.ownB ⟨j, dj, h1, h2⟩).1, fun q => zj ?_⟩
    subst q
    exact h.one i j _ _ x hi h1 e1 h2
  have z := h2.set (i := i) (v := .ref a) (d := d.d) (k.sg (fun x m => ((mem x).mp m).1) fun m => ((mem a).mp m).2 rfl)
  rw [List.set_set, e0] at z
  exact z
end
def EV (K : PySem.W.Frag) (te : TE) (ρ : List En) (P : D → Prop) : Prop := ∀ (B W : List Addr) (H : Hp) (σ : L2.St), EnvOk K B W H σ ρ → ∀ Q : VK, (∀ v d H', Gs W H H' → Sg K B H' v d → P d → Q v H') → te σ H Q
def EA (K : PySem.W.Frag) (ta : TA) (ρ : List En) (P : List D → Prop) : Prop := ∀ (B W : List Addr) (H : Hp) (σ : L2.St), EnvOk K B W H σ ρ → ∀ Q : List V → Hp → Prop, (∀ vs ds H', Gs W H H' → SgA K B H' vs ds → P ds → Q vs H') → ta σ H Q
def ET (K : PySem.W.Frag) (tt : TT) (ρ : List En) (P : Bool → Prop) : Prop := ∀ (B W : List Addr) (H : Hp) (σ : L2.St), EnvOk K B W H σ ρ → ∀ Q : Bool → Hp → Prop, (∀ b H', Gs W H H' → P b → Q b H') → tt σ H Q
def EO (K : PySem.W.Frag) (to : L2.St → Hp → (Option Int → Hp → Prop) → Prop) (ρ : List En) (P : Option Int → Prop) : Prop := ∀ (B W : List Addr) (H : Hp) (σ : L2.St), EnvOk K B W H σ ρ → ∀ Q : Option Int → Hp → Prop, (∀ b H', Gs W H H' → P b → Q b H') → to σ H Q
/-- an expression whose value is a new object that nothing else holds -/
def EVN (K : PySem.W.Frag) (te : TE) (ρ : List En) (P : D → Prop) : Prop := ∀ (B W : List Addr) (H : Hp) (σ : L2.St), EnvOk K B W H σ ρ → ∀ Q : VK, (∀ a d H', Gs W H H' → H a = none → OwAt K (a :: B) H' a d → P d → Q (.ref a) H') → te σ H Q
/-- an operation on two values; a call on values -/
def RD (K : PySem.W.Frag) (r : R2) (x y : D) (P : D → Prop) : Prop := ∀ (B W : List Addr) (H : Hp) (v u : V), BW B W H → Sg K B H v x → Sg K B H u y → ∀ Q : VK, (∀ z d H', Gs W H H' → Sg K B H' z d → P d → Q z H') → r v u H Q
def RC (K : PySem.W.Frag) (r : List V → Hp → VK → Prop) (ρ : List En) (ds : List D) (P : D → Prop) : Prop := ∀ (B W : List Addr) (H : Hp) (σ : L2.St) (vs : List V), EnvOk K B W H σ ρ → SgA K B H vs ds → ∀ Q : VK, (∀ z d H', Gs W H H' → Sg K B H' z d → P d → Q z H') → r vs H Q
section
variable {K : PySem.W.Frag} {ρ : List En} {P : D → Prop} {PB : Bool → Prop} {te ta tb tc : TE} {tt tu : TT} {r r2 : R2}
theorem EV.var {i : Nat} {d : D} (h : ρ[i]? = some (.dat d)) (p : P d) : EV K (tVar i) ρ P := fun B W H σ e Q q => by
  obtain ⟨v, e1, s⟩ := e.sl i _ h
  exact ⟨v, e1, q v d H Gs.refl s p⟩
theorem EV.bag {i : Nat} {b : Addr} (h : ρ[i]? = some (.bag b)) (p : P (.raw b)) : EV K (tVar i) ρ P := fun B W H σ e Q q => by
  obtain ⟨e1, _⟩ := e.sl i _ h
  exact ⟨_, e1, q _ (.raw b) H Gs.refl (.raw b) p⟩
theorem EV.int {i : Int} (p : P (.int i)) : EV K (tC (.int i)) ρ P := fun B W H σ e Q q => q _ _ H Gs.refl (.int i) p
theorem EV.str {x : Str} (p : P (.str x)) : EV K (tC (.str x)) ρ P := fun B W H σ e Q q => q _ _ H Gs.refl (.str x) p
theorem EV.bl {b : Bool} (p : P (.bl b)) : EV K (tC (.bl b)) ρ P := fun B W H σ e Q q => q _ _ H Gs.refl (.bl b) p
theorem EV.ty {n : String} (p : P (.ty n)) : EV K (tC (.ty n)) ρ P := fun B W H σ e Q q => q _ _ H Gs.refl (.ty n) p
theorem EV.non (p : P .non) : EV K (tC .non) ρ P := fun B W H σ e Q q => q _ _ H Gs.refl .non p
theorem EVN.ev (h : EVN K te ρ P) : EV K te ρ P := fun B W H σ e Q q => h B W H σ e Q fun a d H' g n k p => q _ d H' g (k.sg (fun x m => List.mem_cons_of_mem _ m) fun m => e.bw.kn a m n) p
theorem EVN.imp {P' : D → Prop} (h : EVN K te ρ P') (k : ∀ d, P' d → P d) : EVN K te ρ P := fun B W H σ e Q q => h B W H σ e Q fun a d H' g n o p => q a d H' g n o (k d p)
theorem EV.imp {P' : D → Prop} (h : EV K te ρ P') (k : ∀ d, P' d → P d) : EV K te ρ P := fun B W H σ e Q q => h B W H σ e Q fun v d H' g s p => q v d H' g s (k d p)
theorem EV.un {ru : V → Hp → VK → Prop} (h : EV K ta ρ fun x => ∃ i j, x = .int i ∧ (∀ H Q, Q (.int j) H → ru (.int i) H Q) ∧ P (.int j)) : EV K (tUn ru ta) ρ P := fun B W H σ e Q q =>
  h B W H σ e _ fun v x H1 g1 s1 h1 => by
    obtain ⟨i, j, rfl, h2, p⟩ := h1
    cases s1
    exact h2 _ _ (q _ _ H1 g1 (.int j) p)
theorem EV.chain (h : EV K ta ρ fun x => EV K tb ρ fun y => RD K r x y fun z => ∃ k, z = .bl k ∧ (if k = true then EV K tc ρ (fun w => RD K r2 y w P) else P (.bl false))) : EV K (tChain r r2 ta tb tc) ρ P := fun B W H σ e Q q =>
  h B W H σ e _ fun v x H1 g1 s1 h1 => h1 B W H1 σ (e.gs g1) _ fun u y H2 g2 s2 h2 =>
    h2 B W H2 v u ((e.gs g1).gs g2).bw (s1.gw ((e.gs g1).bw.gw g2)) s2 _ fun z d H3 g3 s3 p => by
      obtain ⟨k, rfl, p⟩ := p
      cases s3
      have e3 := ((e.gs g1).gs g2).gs g3
      refine ⟨k, rfl, ?_⟩
      cases k with
      | true =>
        rw [if_pos rfl] at p ⊢
        exact p B W H3 σ e3 _ fun w d H4 g4 s4 p4 => p4 B W H4 u w (e3.gs g4).bw (s2.gw (((e.gs g1).gs g2).bw.gw (g3.trans g4))) s4 Q fun z d H5 g5 s5 p5 => q z d H5 ((((g1.trans g2).trans g3).trans g4).trans g5) s5 p5
      | false =>
        rw [if_neg Bool.false_ne_true] at p ⊢
        exact q _ _ H3 ((g1.trans g2).trans g3) (.bl false) p
/-- truth values by and, or, not -/
theorem EV.andV (h : EV K ta ρ fun x => ∃ c, x = .bl c ∧ (if c = true then EV K tb ρ P else P (.bl false))) : EV K (tAndV ta tb) ρ P := fun B W H σ e Q q =>
  h B W H σ e _ fun v x H1 g1 s1 h1 => by
    obtain ⟨c, rfl, h2⟩ := h1
    cases s1
    refine ⟨c, rfl, ?_⟩
    cases c with
    | true =>
      rw [if_pos rfl] at h2 ⊢
      exact h2 B W H1 σ (e.gs g1) Q fun z d H2 g2 s2 p => q z d H2 (g1.trans g2) s2 p
    | false =>
      rw [if_neg Bool.false_ne_true] at h2 ⊢
      exact q _ _ H1 g1 (.bl false) h2
theorem EV.notV (h : EV K ta ρ fun x => ∃ c, x = .bl c ∧ P (.bl (!c))) : EV K (tNotV ta) ρ P := fun B W H σ e Q q =>
  h B W H σ e _ fun v x H1 g1 s1 h1 => by
    obtain ⟨c, rfl, h2⟩ := h1
    cases s1
    exact ⟨c, rfl, q _ _ H1 g1 (.bl _) h2⟩
theorem EV.ifx (h : ET K tt ρ fun b => if b = true then EV K ta ρ P else EV K tb ρ P) : EV K (tIf tt ta tb) ρ P := fun B W H σ e Q q =>
  h B W H σ e _ fun b H1 g1 h1 => by
    cases b with
    | true =>
      rw [if_pos rfl] at h1 ⊢
      exact h1 B W H1 σ (e.gs g1) Q fun z d H2 g2 s2 p => q z d H2 (g1.trans g2) s2 p
    | false =>
      rw [if_neg Bool.false_ne_true] at h1 ⊢
      exact h1 B W H1 σ (e.gs g1) Q fun z d H2 g2 s2 p => q z d H2 (g1.trans g2) s2 p
theorem ET.b (h : EV K te ρ fun x => ∃ k, x = .bl k ∧ PB k) : ET K (tB te) ρ PB := fun B W H σ e Q q =>
  h B W H σ e _ fun v x H1 g1 s1 h1 => by
    obtain ⟨k, rfl, p⟩ := h1
    cases s1
    exact ⟨k, rfl, q k H1 g1 p⟩
theorem ET.and (h : ET K tt ρ fun c => if c = true then ET K tu ρ PB else PB false) : ET K (tAnd tt tu) ρ PB := fun B W H σ e Q q =>
  h B W H σ e _ fun c H1 g1 h1 => by
    cases c with
    | true =>
      rw [if_pos rfl] at h1 ⊢
      exact h1 B W H1 σ (e.gs g1) Q fun b H2 g2 p => q b H2 (g1.trans g2) p
    | false =>
      rw [if_neg Bool.false_ne_true] at h1 ⊢
      exact q false H1 g1 h1
theorem ET.or (h : ET K tt ρ fun c => if c = true then PB true else ET K tu ρ PB) : ET K (tOr tt tu) ρ PB := fun B W H σ e Q q =>
  h B W H σ e _ fun c H1 g1 h1 => by
    cases c with
    | true =>
      rw [if_pos rfl] at h1 ⊢
      exact q true H1 g1 h1
    | false =>
      rw [if_neg Bool.false_ne_true] at h1 ⊢
      exact h1 B W H1 σ (e.gs g1) Q fun b H2 g2 p => q b H2 (g1.trans g2) p
theorem ET.not (h : ET K tt ρ fun c => PB (!c)) : ET K (tNot tt) ρ PB := fun B W H σ e Q q => h B W H σ e _ fun c H1 g1 h1 => q _ H1 g1 h1
theorem ET.yes (p : PB true) : ET K tYes ρ PB := fun B W H σ e Q q => q true H Gs.refl p
theorem EA.nil {PA : List D → Prop} (p : PA []) : EA K tNil ρ PA := fun B W H σ e Q q => q _ _ H Gs.refl .nil p
theorem EA.cons {PA : List D → Prop} {tr : TA} (h : EV K ta ρ fun x => EA K tr ρ fun xs => PA (x :: xs)) : EA K (tCons ta tr) ρ PA := fun B W H σ e Q q =>
  h B W H σ e _ fun v x H1 g1 s1 h1 => h1 B W H1 σ (e.gs g1) _ fun vs ds H2 g2 s2 p => q _ _ H2 (g1.trans g2) (.cons (s1.gw ((e.gs g1).bw.gw g2)) s2) p
theorem BW.notNew {B W : List Addr} {H : Hp} {p : Addr} (b : BW B W H) (n : H p = none) : p ∉ B := fun m => b.kn p m n
theorem EV.tup {t : TA} (h : EA K t ρ fun ds => ds.length ≤ sizeLine ∧ P (.tup ds)) : EV K (tTup t) ρ P := fun B W H σ e Q q =>
  h B W H σ e _ fun vs ds H1 g1 s1 p => ⟨by rw [s1.length]; exact p.1, fun a n => q _ _ _ (g1.trans (Gs.new n)) (.tup trivial upd_same (s1.gw (Gw.new n))) p.2⟩
theorem EVN.lst {t : TA} (h : EA K t ρ fun ds => ds.length ≤ sizeLine ∧ P (.lst ds)) : EVN K (tLst t) ρ P := fun B W H σ e Q q =>
  h B W H σ e _ fun vs ds H1 g1 s1 p => ⟨by rw [s1.length]; exact p.1, fun l nl => q l (.lst ds) _ (g1.trans (Gs.new nl)) (g1.gw.free l nl) ⟨vs, upd_same, s1.out nl⟩ p.2⟩
theorem EV.lst {t : TA} (h : EA K t ρ fun ds => ds.length ≤ sizeLine ∧ P (.lst ds)) : EV K (tLst t) ρ P := (EVN.lst h).ev
theorem EVN.dnew (p : P (.dic [] [])) : EVN K tDNewK ρ P := fun B W H σ e Q q a na => q a (.dic [] []) _ (Gs.new na) na ⟨[], upd_same, rfl, .nil⟩ p
theorem EO.none {PO : Option Int → Prop} (p : PO none) : EO K tNoPart ρ PO := fun B W H σ e Q q => q _ H Gs.refl p
theorem EO.some {PO : Option Int → Prop} (h : EV K te ρ fun x => ∃ i, x = .int i ∧ PO (some i)) : EO K (tPart te) ρ PO := fun B W H σ e Q q =>
  h B W H σ e _ fun v x H1 g1 s1 h1 => by
    obtain ⟨i, rfl, p⟩ := h1
    cases s1
    exact ⟨i, rfl, q _ H1 g1 p⟩
end
end VB
namespace VB
open PySem PySem.Spec PyProof.Rows L2
/-- a dict's key as data -/
def kD : Key → PyData
  | .inl i => .int i
  | .inr x => .str x
mutual
def D.py : D → PyData
  | .non => .none
  | .bl b => .bool b
  | .int i => .int i
  | .str x => .str x
  | .tup ds => .tuple (D.pyA ds)
  | .lst ds => .list (D.pyA ds)
  | .dic ks ds => .dict ((ks.map kD).zip (D.pyA ds))
  | .ty _ => .none
  | .raw _ => .none
  | .ins _ _ _ => .none
  | .dit _ _ => .none
  | .din _ _ _ _ => .none
  | .etup => .none
def D.pyA : List D → List PyData
  | [] => []
  | d :: ds => D.py d :: D.pyA ds
end
mutual
def D.pu : D → Bool
  | .tup ds => D.puA ds
  | .lst ds => D.puA ds
  | .ty _ => false
  | .raw _ => false
  | .dic _ _ => false
  | .dit _ _ => false
  | .din _ _ _ _ => false
  | .etup => false
  | .ins _ _ _ => false
  | _ => true
def D.puA : List D → Bool
  | [] => true
  | d :: ds => D.pu d && D.puA ds
end
section
variable {K : PySem.W.Frag} {B : List Addr} {H : Hp}
mutual
theorem Sg.dp : ∀ {v : V} {d : D}, Sg K B H v d → d.pu = true → Dp K H v d.py
  | _, _, .non, _ => .non
  | _, _, .bl b, _ => .bl b
  | _, _, .int i, _ => .int i
  | _, _, .str x, _ => .str x
  | _, _, .ty n, p => by simp [D.pu] at p
  | _, _, .raw a, p => by simp [D.pu] at p
  | _, _, .dic _ _ _ _, p => by simp [D.pu] at p
  | _, _, .dit _ _ _ _, p => by simp [D.pu] at p
  | _, _, .din _ _ _ _ _, p => by simp [D.pu] at p
  | _, _, .ins _ _ _ _, p => by simp [D.pu] at p
  | _, _, .tup n h r, p => by
    unfold D.py
    exact .tup (Or.inl (Rd.of h)) (SgA.dp r (by simpa [D.pu] using p))
  | _, _, .etup _, p => by simp [D.pu] at p
  | _, _, .lst n h r, p => by
    unfold D.py
    exact .lst (SqL.of h) (SgA.dp r (by simpa [D.pu] using p))
theorem SgA.dp : ∀ {vs : List V} {ds : List D}, SgA K B H vs ds → D.puA ds = true → DpAll K H vs (D.pyA ds)
  | _, _, .nil, _ => .nil
  | _, _, .cons h r, p => by
    have q := Bool.and_eq_true_iff.mp (show (_ && _) = true from p)
    exact .cons (Sg.dp h q.1) (SgA.dp r q.2)
end
theorem SgA.atI {xs : List V} {ds : List D} {i : Int} {d : D} (r : SgA K B H xs ds) (e : atI ds i = some d) : ∃ v, atI xs i = some v ∧ Sg K B H v d := by
  unfold L2.atI at e ⊢
  rw [r.length]
  cases h : ixN ds.length i with
  | none =>
    rw [h] at e
    cases e
  | some j =>
    rw [h] at e
    exact r.get (show ds[j]? = some d from e)
end
theorem atI_map {α β : Type} {f : α → β} {xs : List α} {i : Int} {x : α} (h : atI xs i = some x) : atI (xs.map f) i = some (f x) := by
  unfold L2.atI at h ⊢
  rw [List.length_map]
  cases e : ixN xs.length i with
  | none =>
    rw [e] at h
    cases h
  | some j =>
    rw [e] at h
    have h2 : xs[j]? = some x := h
    show (xs.map f)[j]? = some (f x)
    rw [List.getElem?_map, h2]
    rfl
/-- a slice of a list -/
def cutG {α : Type} (xs : List α) (lo hi : Option Int) : List α := (xs.drop (HT.sIx xs.length 0 lo)).take (HT.sIx xs.length xs.length hi - HT.sIx xs.length 0 lo)
section
variable {K : PySem.W.Frag} {P : D → Prop}
def D.isN : D → Bool
  | .non => true
  | _ => false
theorem Sg.isN {B : List Addr} {H : Hp} {v : V} {d : D} (s : Sg K B H v d) : decide (v = .non) = d.isN := by
  cases s <;> rfl
end
def SD (K : PySem.W.Frag) (r : V → Option Int → Option Int → Hp → VK → Prop) (x : D) (lo hi : Option Int) (P : D → Prop) : Prop := ∀ (B W : List Addr) (H : Hp) (v : V), BW B W H → Sg K B H v x → ∀ Q : VK, (∀ z d H', Gs W H H' → Sg K B H' z d → P d → Q z H') → r v lo hi H Q
section
variable {K : PySem.W.Frag} {P : D → Prop} {ρ : List En}
theorem EV.sl {r : V → Option Int → Option Int → Hp → VK → Prop} {te : TE} {tl th : L2.St → Hp → (Option Int → Hp → Prop) → Prop} (h : EV K te ρ fun x => EO K tl ρ fun lo => EO K th ρ fun hi => SD K r x lo hi P) : EV K (tSl r te tl th) ρ P := fun B W H σ e Q q =>
  h B W H σ e _ fun v x H1 g1 s1 h1 => h1 B W H1 σ (e.gs g1) _ fun lo H2 g2 h2 => h2 B W H2 σ ((e.gs g1).gs g2) _ fun hi H3 g3 h3 =>
    h3 B W H3 v (((e.gs g1).gs g2).gs g3).bw (s1.gw ((e.gs g1).bw.gw (g2.trans g3))) Q fun z d H4 g4 s4 p => q z d H4 (((g1.trans g2).trans g3).trans g4) s4 p
theorem SgA.cut {B : List Addr} {H : Hp} {xs : List V} {ds : List D} (r : SgA K B H xs ds) (lo hi : Option Int) : SgA K B H (cutV xs lo hi) (cutG ds lo hi) := by
  unfold cutV cutG
  rw [r.length]
  exact (r.drop _).take _
theorem cutG_whole {α : Type} {xs : List α} {lo hi : Option Int} (h : HT.sIx xs.length 0 lo = 0 ∧ HT.sIx xs.length xs.length hi = xs.length) : cutG xs lo hi = xs := by
  unfold cutG
  rw [h.1, h.2]
  simp
theorem SD.slA {ds : List D} {lo hi : Option Int} (p : P (.tup (cutG ds lo hi))) : SD K (rSlA K) (.tup ds) lo hi P := fun B W H v b sv Q q => by
  have go : ∀ {a : Addr}, Sg K B H (.ref a) (.tup ds) → rSlA K (.ref a) lo hi H Q := fun {a} s => by
    obtain ⟨xs, h, r⟩ := s.sqT
    refine ⟨_, _, rfl, h, fun w => ?_, fun w a na => q _ _ _ (Gs.new na) (.tup trivial upd_same ((r.cut lo hi).gw (Gw.new na))) p⟩
    rw [r.length] at w
    rw [cutG_whole w] at p
    exact q _ _ H Gs.refl s p
  cases sv with
  | tup n h r => exact go (.tup n h r)
end
section
variable {K : PySem.W.Frag} {P : D → Prop} {ρ : List En}
theorem EV.neg {ta : TE} (h : EV K ta ρ fun x => ∃ i, x = .int i ∧ P (.int (-i))) : EV K (tUn (rU fun i => .int (-i)) ta) ρ P := EV.un (EV.imp h fun x ⟨i, e, p⟩ => ⟨i, -i, e, fun _ _ q => ⟨i, rfl, q⟩, p⟩)
theorem RC.abs {i : Int} (p : P (.int (if i < 0 then -i else i))) : RC K (fun xs H Q => ∃ i, xs = [.int i] ∧ Q (.int (if i < 0 then -i else i)) H) ρ [.int i] P := fun B W H σ vs e s Q q => by
  cases s with
  | cons s1 s2 =>
    cases s2
    cases s1
    exact ⟨i, rfl, q _ _ H Gs.refl (.int _) p⟩
theorem RC.all {bs : List Bool} (p : P (.bl (bs.all id))) : RC K (rAll K) ρ [.lst (bs.map D.bl)] P := fun B W H σ vs e s Q q => by
  cases s with
  | cons s1 s2 =>
    cases s2
    cases s1 with
    | lst n h r =>
      rw [r.bls] at h
      exact ⟨_, bs, rfl, SqL.of h, q _ _ H Gs.refl (.bl _) p⟩
theorem RC.any {bs : List Bool} (p : P (.bl (bs.any id))) : RC K (rAny K) ρ [.lst (bs.map D.bl)] P := fun B W H σ vs e s Q q => by
  cases s with
  | cons s1 s2 =>
    cases s2
    cases s1 with
    | lst n h r =>
      rw [r.bls] at h
      exact ⟨_, bs, rfl, SqL.of h, q _ _ H Gs.refl (.bl _) p⟩
/-- the name of a built-in type -/
def D.tyn : D → Option String
  | .non => some "NoneType"
  | .bl _ => some "bool"
  | .int _ => some "int"
  | .str _ => some "str"
  | .tup _ => some "tuple"
  | .lst _ => some "list"
  | .dic _ _ => some "dict"
  | .etup => some "tuple"
  | _ => none
theorem Sg.tyx {B : List Addr} {H : Hp} {v : V} {d : D} {n : String} (s : Sg K B H v d) (e : d.tyn = some n) : TyX K H v (.type n) := by
  cases s with
  | non => cases e; exact .base .non
  | bl b => cases e; exact .base (.bl b)
  | int i => cases e; exact .base (.int i)
  | str x => cases e; exact .base (.str x)
  | ty n => cases e
  | raw a => cases e
  | tup n h r =>
    cases e
    exact .base (.tup h)
  | lst n h r => cases e; exact .base (.lst h)
  | dic n h _ r =>
    cases e
    rcases h with h | ⟨o, h⟩
    · exact .base (.dK h)
    · exact .fDict h
  | dit n h _ r => cases e
  | din n h _ q r => cases e
  | etup h =>
    cases e
    rcases h (fun _ => none) with (z | ⟨o, z⟩) | ⟨o, its, n, h1, h2, _⟩
    · cases z
    · cases z
    · exact .kTuple h1 h2
  | ins n h _ r => cases e
theorem RC.isi {d : D} {n c : String} {b : Bool} (e : d.tyn = some n) (hk : kitB n c = some b) (p : P (.bl b)) : RC K (rIsi K) ρ [d, .ty c] P := fun B W H σ vs ev s Q q => by
  cases s with
  | cons s1 s2 =>
    cases s2 with
    | cons s2 s3 =>
      cases s3
      cases s2
      exact ⟨_, _, _, _, b, rfl, .ty c, s1.tyx e, kit_ty hk, q _ _ H Gs.refl (.bl _) p⟩
theorem EV.join {to te : TE} (h : EV K to ρ fun x => ∃ a : Str, x = .str a ∧ EV K te ρ fun y => ∃ ys : List Str, y = .lst (ys.map D.str) ∧ (ys.map (·.length)).sum + ys.length * a.length ≤ 16777216 ∧ P (.str (Txt.join a ys))) :
    EV K (tM1 (rJoinK K) to te) ρ P := fun B W H σ e Q q =>
  h B W H σ e _ fun v x H1 g1 s1 h1 => by
    obtain ⟨a, rfl, h1⟩ := h1
    cases s1
    refine ⟨⟨a, rfl⟩, h1 B W H1 σ (e.gs g1) _ fun u y H2 g2 s2 h2 => ?_⟩
    obtain ⟨ys, rfl, hz, p⟩ := h2
    cases s2 with
    | lst n h r =>
      rw [r.strs] at h
      exact ⟨a, _, ys, rfl, rfl, Or.inl (SqL.of h), hz, q _ _ H2 (g1.trans g2) (.str _) p⟩
theorem EV.split {to te : TE} (h : EV K to ρ fun x => ∃ a : Str, x = .str a ∧ EV K te ρ fun y => ∃ b : Str, y = .str b ∧ (b.length == 0) = false ∧ a.length + 2 ≤ sizeLine ∧ P (.lst ((Txt.split a b).map D.str))) :
    EV K (tM1 rSplitK to te) ρ P := fun B W H σ e Q q =>
  h B W H σ e _ fun v x H1 g1 s1 h1 => by
    obtain ⟨a, rfl, h1⟩ := h1
    cases s1
    refine ⟨⟨a, rfl⟩, h1 B W H1 σ (e.gs g1) _ fun u y H2 g2 s2 h2 => ?_⟩
    obtain ⟨b, rfl, hb, hz, p⟩ := h2
    cases s2
    exact ⟨a, b, rfl, rfl, hb, hz, fun a na => q _ _ _ ((g1.trans g2).trans (Gs.new na)) (.lst (((e.gs g1).gs g2).bw.notNew na) upd_same SgA.ofStrs) p⟩
end
theorem Gs.mut {W : List Addr} {H H1 : Hp} {p : Addr} {o : HO} (g : Gs W H H1) (n : H p = none) : Gs W H (upd H1 p o) :=
  ⟨⟨fun a u na e => by
    rw [upd_ne (ne_of_none e n)]
    exact g.gw.keep a u na e, fun a e => by
    by_cases h : a = p
    · rw [h]
      exact n
    · rw [upd_ne h] at e
      exact g.gw.free a e, fun a xs e => by
    rw [upd_ne (ne_of_none e n)]
    exact g.gw.tups a xs e⟩, fun b m c ns nc h => (g.bag b m c ns nc h).wr (by
    obtain ⟨⟨z, s, i, e, v⟩, _⟩ := h
    exact ne_of_none e n) (ne_of_none h.2.1 n)⟩
/-- the state of a comprehension's block between two turns: Dl the new list, es what it holds -/
def LcI (K : PySem.W.Frag) (B W : List Addr) (H1 : Hp) (Dl : Addr) (σ : L2.St) (ρ : List En) (Rel : Nat → List D → Prop) (i : Nat) (H : Hp) : Prop :=
  ∃ (acc : List V) (es : List D), H Dl = some (.lst acc) ∧ SgA K (Dl :: B) H acc es ∧ es.length ≤ i ∧ Rel i es ∧ EnvOk K (Dl :: B) W H σ ρ ∧ Gs W H1 H
section
variable {K : PySem.W.Frag} {P : D → Prop} {ρ : List En} {te : TE} {tt : TT} {j : Nat}
theorem LcI.start {B W : List Addr} {H1 : Hp} {Dl : Addr} {σ : L2.St} {Rel : Nat → List D → Prop} (e : EnvOk K B W H1 σ ρ) (n : H1 Dl = none) (h0 : Rel 0 []) : LcI K B W H1 Dl (wipe σ [j]) (ρ.set j .no) Rel 0 (upd H1 Dl (.lst [])) :=
  ⟨[], [], upd_same, .nil, Nat.le_refl _, h0, (e.out n).clr, Gs.new n⟩
theorem LcI.done {B W : List Addr} {H1 H : Hp} {Dl : Addr} {σ' : L2.St} {ρ' : List En} {Rel : Nat → List D → Prop} {i : Nat} {Q : VK} (h : LcI K B W H1 Dl σ' ρ' Rel i H) (hP : ∀ es, Rel i es → es.length ≤ i → P (.lst es))
    (q : ∀ d H', Gs W H1 H' → OwAt K (Dl :: B) H' Dl d → P d → Q (.ref Dl) H') : Q (.ref Dl) H := by
  obtain ⟨acc, es, hD, sa, hl, hr, _, g⟩ := h
  exact q (.lst es) H g ⟨acc, hD, sa⟩ (hP es hr hl)
end
mutual
theorem Sg.mv {K : PySem.W.Frag} {B B' : List Addr} {H H' : Hp} (hk : ∀ a o, a ∉ B → H a = some o → H' a = some o) (ht : ∀ a xs, H a = some (.tup xs) → H' a = some (.tup xs)) (hb : ∀ a ∈ B', a ∈ B ∨ H a = none) : ∀ {v : V} {d : D}, Sg K B H v d → Sg K B' H' v d
  | _, _, .non => .non
  | _, _, .bl b => .bl b
  | _, _, .int i => .int i
  | _, _, .str x => .str x
  | _, _, .ty n => .ty n
  | _, _, .raw a => .raw a
  | _, _, .tup m h r => .tup m (ht _ _ h) (SgA.mv hk ht hb r)
  | _, _, .etup h => .etup h
  | _, _, .lst m h r => .lst (fun z => (hb _ z).elim m fun n => ne_of_none h n rfl) (hk _ _ m h) (SgA.mv hk ht hb r)
  | _, _, .dic m h e r => .dic (fun z => (hb _ z).elim m fun n => rd_kn h n rfl) (rd_map h fun _ => hk _ _ m) e (SgA.mv hk ht hb r)
  | _, _, .dit m h e r => .dit (fun z => (hb _ z).elim m fun n => rd_kn h n rfl) (rd_map h fun _ => hk _ _ m) e (SgA.mv hk ht hb r)
  | _, _, .din m h e q r => .din (fun z => (hb _ z).elim m fun n => rd_kn h n rfl) (rd_map h fun _ => hk _ _ m) e (SgA.mv hk ht hb q) (SgA.mv hk ht hb r)
  | _, _, .ins m h e r => .ins (fun z => (hb _ z).elim m fun n => ne_of_none h n rfl) (hk _ _ m h) e (SgA.mv hk ht hb r)
theorem SgA.mv {K : PySem.W.Frag} {B B' : List Addr} {H H' : Hp} (hk : ∀ a o, a ∉ B → H a = some o → H' a = some o) (ht : ∀ a xs, H a = some (.tup xs) → H' a = some (.tup xs)) (hb : ∀ a ∈ B', a ∈ B ∨ H a = none) : ∀ {vs : List V} {ds : List D}, SgA K B H vs ds → SgA K B' H' vs ds
  | _, _, .nil => .nil
  | _, _, .cons h r => .cons (Sg.mv hk ht hb h) (SgA.mv hk ht hb r)
end
/-- heaps between two states of a frame: all stays but W and the frame's own objects U; U' = the own ones behind -/
structure Gu (W : List Addr) (U U' : Addr → Prop) (H H' : Hp) : Prop where
  keep : ∀ a o, a ∉ W → ¬ U a → H a = some o → H' a = some o
  free : ∀ a, H' a = none → H a = none
  bag : ∀ b, b ∈ W → ∀ c ns, c ∉ W → ¬ U c → BagC H b c ns → BagC H' b c ns
  own : ∀ a, U' a → U a ∨ H a = none
  tups : ∀ a xs, H a = some (.tup xs) → H' a = some (.tup xs)
theorem Gu.of {W : List Addr} {U U' : Addr → Prop} {H H' : Hp} (g : Gs W H H') (o : ∀ a, U' a → U a) : Gu W U U' H H' :=
  ⟨fun a u n _ e => g.gw.keep a u n e, g.gw.free, fun b m c ns n _ h => g.bag b m c ns n h, fun a u => .inl (o a u), g.gw.tups⟩
theorem Gu.trans {W : List Addr} {U U1 U2 : Addr → Prop} {H H1 H2 : Hp} (a : Gu W U U1 H H1) (b : Gu W U1 U2 H1 H2) : Gu W U U2 H H2 := by
  have nu : ∀ x o, ¬ U x → H x = some o → ¬ U1 x := fun x o n e u => (a.own x u).elim n fun z => by
    rw [e] at z
    cases z
  refine ⟨fun x o n nx e => b.keep x o n (nu x o nx e) (a.keep x o n nx e), fun x z => a.free x (b.free x z), fun x m c ns n nc h => b.bag x m c ns n (nu c _ nc h.2.1) (a.bag x m c ns n nc h), fun x u => ?_, fun x xs e => b.tups x xs (a.tups x xs e)⟩
  rcases b.own x u with z | z
  · exact a.own x z
  · exact .inr (a.free x z)
theorem Gu.gs {W : List Addr} {U U' : Addr → Prop} {H H' : Hp} (g : Gu W U U' H H') (n : ∀ a, ¬ U a) : Gs W H H' := ⟨⟨fun a o m e => g.keep a o m (n a) e, g.free, g.tups⟩, fun b m c ns q h => g.bag b m c ns q (n c) h⟩
/-- F: what is left out for good; B: that, and the frame's own objects -/
structure Fr (F B W : List Addr) (σ : L2.St) (ρ : List En) : Prop where
  fb : ∀ a ∈ F, a ∈ B
  bf : ∀ a ∈ B, a ∈ F ∨ Own σ ρ a
  no : ∀ a ∈ F, ¬ Own σ ρ a
  wf : ∀ a ∈ W, a ∈ F
section
variable {K : PySem.W.Frag} {F B W : List Addr} {H H' : Hp} {σ σ' : L2.St} {ρ ρ' : List En}
open Classical in
theorem EnvOk.fix (e : EnvOk K B W H σ ρ) (fb : ∀ a ∈ F, a ∈ B) (no : ∀ a ∈ F, ¬ Own σ ρ a) (wf : ∀ a ∈ W, a ∈ F) : ∃ B', EnvOk K B' W H σ ρ ∧ Fr F B' W σ ρ := by
  have mem : ∀ x, x ∈ B.filter (fun x => decide (x ∈ F ∨ Own σ ρ x)) ↔ x ∈ B ∧ (x ∈ F ∨ Own σ ρ x) := fun x => by
    rw [List.mem_filter, decide_eq_true_iff]
  refine ⟨B.filter (fun x => decide (x ∈ F ∨ Own σ ρ x)), e.back (fun x m => ((mem x).mp m).1) (fun x m => (mem x).mpr ⟨e.bw.sub x m, .inl (wf x m)⟩) (fun x o => (mem x).mpr ⟨(e.ownB o).1, .inr o⟩), ?_⟩
  exact ⟨fun x m => (mem x).mpr ⟨fb x m, .inl m⟩, fun x m => ((mem x).mp m).2, no, wf⟩
theorem EnvOk.setF {i : Nat} {v : V} {d : D} (e : EnvOk K B W H σ ρ) (f : Fr F B W σ ρ) (s : Sg K B H v d) : ∃ B', EnvOk K B' W H (σ.set i (some v)) (ρ.set i (.dat d)) ∧ Fr F B' W (σ.set i (some v)) (ρ.set i (.dat d)) :=
  (e.set s).fix f.fb (fun a m o => f.no a m (Own.set o rfl)) f.wf
theorem gu_set {i : Nat} {v : Option V} {d : D} (g : Gs W H H') : Gu W (Own σ ρ) (Own (σ.set i v) (ρ.set i (.dat d))) H H' := .of g fun _ o => Own.set o rfl
theorem Sg.gu {B' : List Addr} {v : V} {d : D} (s : Sg K B H v d) (e : EnvOk K B W H σ ρ) (f : Fr F B W σ ρ) (g : Gu W (Own σ ρ) (Own σ' ρ') H H') (f' : Fr F B' W σ' ρ') : Sg K B' H' v d := by
  refine s.mv (fun a o n h => g.keep a o (fun m => n (e.bw.sub a m)) (fun q => n (e.ownB q).1) h) g.tups fun a m => ?_
  rcases f'.bf a m with z | z
  · exact .inl (f.fb a z)
  · rcases g.own a z with z | z
    · exact .inl (e.ownB z).1
    · exact .inr z
end
/-- how a way on is taken -/
def Cn (K : PySem.W.Frag) (F W : List Addr) (H : Hp) (σ : L2.St) (ρ : List En) (M : List En → Prop) (Q : L2.St → Hp → Prop) : Prop :=
  ∀ (ρ' : List En) (σ' : L2.St) (H' : Hp) (B' : List Addr), Gu W (Own σ ρ) (Own σ' ρ') H H' → EnvOk K B' W H' σ' ρ' → Fr F B' W σ' ρ' → M ρ' → Q σ' H'
/-- what is handed back: data (fr = false), or an object of the frame's own (fr = true) -/
def Rv (K : PySem.W.Frag) (fr : Option Bool) (F : List Addr) (σ : L2.St) (ρ : List En) (H H' : Hp) (v : V) (d : D) : Prop := match fr with
  | some false => Sg K F H' v d
  | some true => ∃ a, v = .ref a ∧ (Own σ ρ a ∨ H a = none) ∧ OwAt K (a :: F) H' a d
  | none => SnP K F (fun a => Own σ ρ a ∨ H a = none) H' v d
def Cr (K : PySem.W.Frag) (fr : Option Bool) (F W : List Addr) (H : Hp) (σ : L2.St) (ρ : List En) (M : D → Prop) (Q : V → Hp → Prop) : Prop :=
  ∀ (v : V) (d : D) (H' : Hp), Gu W (Own σ ρ) (fun _ => False) H H' → Rv K fr F σ ρ H H' v d → M d → Q v H'
section
variable {K : PySem.W.Frag} {F W : List Addr} {H H1 : Hp} {σ σ1 : L2.St} {ρ ρ1 : List En}
theorem Cn.after {M : List En → Prop} {Q : L2.St → Hp → Prop} (c : Cn K F W H σ ρ M Q) (g : Gu W (Own σ ρ) (Own σ1 ρ1) H H1) : Cn K F W H1 σ1 ρ1 M Q := fun ρ' σ' H' B' g' => c ρ' σ' H' B' (g.trans g')
theorem Cr.after {fr : Option Bool} {M : D → Prop} {Q : V → Hp → Prop} (c : Cr K fr F W H σ ρ M Q) (g : Gu W (Own σ ρ) (Own σ1 ρ1) H H1) : Cr K fr F W H1 σ1 ρ1 M Q := fun v d H' g' r => c v d H' (g.trans g') (by
  match fr, r with
  | some false, r => exact r
  | some true, r =>
    obtain ⟨a, e, n, k⟩ := r
    exact ⟨a, e, n.elim (fun o => g.own a o) fun n => .inr (g.free a n), k⟩
  | none, r => exact SnP.imp (fun a n => n.elim (fun o => g.own a o) fun n => .inr (g.free a n)) r)
end
structure Po where
  nx : List En → Prop
  rt : D → Prop
  bk : List En → Prop := fun _ => False
  ct : List En → Prop := fun _ => False
  fr : Option Bool := some false
def ST (K : PySem.W.Frag) (t : TS) (ρ : List En) (P : Po) : Prop := ∀ (F B W : List Addr) (H : Hp) (σ : L2.St), EnvOk K B W H σ ρ → Fr F B W σ ρ → ∀ E : Ends,
  Cn K F W H σ ρ P.nx E.nx → Cr K P.fr F W H σ ρ P.rt E.rt → Cn K F W H σ ρ P.bk E.bk → Cn K F W H σ ρ P.ct E.ct → t E σ H
section
variable {K : PySem.W.Frag} {P : Po} {ρ : List En} {te : TE} {tt : TT} {t u : TS} {ta : TA} {i j : Nat}
theorem ST.seq (h : ST K t ρ { P with nx := fun ρ' => ST K u ρ' P }) : ST K (tSeq t u) ρ P := fun F B W H σ e f E q1 q2 q3 q4 =>
  h F B W H σ e f { E with nx := u E } (fun ρ' σ' H' B' g e' f' p => p F B' W H' σ' e' f' E (q1.after g) (q2.after g) (q3.after g) (q4.after g)) q2 q3 q4
/-- M: what holds between the two -/
theorem ST.cut (M : List En → Prop) (h : ST K t ρ { P with nx := M }) (k : ∀ ρ', M ρ' → ST K u ρ' P) : ST K (Evl.tCut t u) ρ P := fun F B W H σ e f E q1 q2 q3 q4 =>
  ⟨fun σ' H' => ∃ ρ' B', Gu W (Own σ ρ) (Own σ' ρ') H H' ∧ EnvOk K B' W H' σ' ρ' ∧ Fr F B' W σ' ρ' ∧ M ρ',
    h F B W H σ e f { E with nx := fun σ' H' => ∃ ρ' B', Gu W (Own σ ρ) (Own σ' ρ') H H' ∧ EnvOk K B' W H' σ' ρ' ∧ Fr F B' W σ' ρ' ∧ M ρ' } (fun ρ' σ' H' B' g e' f' m => ⟨ρ', B', g, e', f', m⟩) q2 q3 q4,
    fun σ' H' ⟨ρ', B', g, e', f', m⟩ => k ρ' m F B' W H' σ' e' f' E (q1.after g) (q2.after g) (q3.after g) (q4.after g)⟩
theorem ST.next (h : P.nx ρ) : ST K tNext ρ P := fun F B W H σ e f E q1 q2 q3 q4 => q1 ρ σ H B (.of Gs.refl fun _ o => o) e f h
theorem ST.brk (h : P.bk ρ) : ST K tBreak ρ P := fun F B W H σ e f E q1 q2 q3 q4 => q3 ρ σ H B (.of Gs.refl fun _ o => o) e f h
theorem ST.cont (h : P.ct ρ) : ST K tCont ρ P := fun F B W H σ e f E q1 q2 q3 q4 => q4 ρ σ H B (.of Gs.refl fun _ o => o) e f h
theorem ST.asg (h : EV K te ρ fun d => ∀ ρ', ρ' = ρ.set i (.dat d) → P.nx ρ') : ST K (tAsg te (gName i)) ρ P := fun F B W H σ e f E q1 q2 q3 q4 =>
  h B W H σ e _ fun v d H1 g1 s1 p => by
    obtain ⟨B', e2, f2⟩ := (e.gs g1).setF (i := i) f s1
    exact q1 _ _ H1 B' (gu_set g1) e2 f2 (p _ rfl)
theorem ST.ret (h : EV K te ρ P.rt) (hf : P.fr = false := by rfl) : ST K (tRet te) ρ P := fun F B W H σ e f E q1 q2 q3 q4 => h B W H σ e _ fun v d H1 g1 s1 p => q2 v d H1 (.of g1 fun _ z => z.elim) (by rw [hf]; exact s1.less f.fb) p
/-- a new object is handed back -/
theorem ST.retF (h : EVN K te ρ P.rt) (hf : P.fr = true := by rfl) : ST K (tRet te) ρ P := fun F B W H σ e f E q1 q2 q3 q4 => h B W H σ e _ fun a d H1 g1 n k p => q2 (.ref a) d H1 (.of g1 fun _ z => z.elim) (by
  rw [hf]
  exact ⟨a, rfl, .inr n, k.mv (fun _ z => z) fun _ _ r => r.less fun x m => (List.mem_cons.mp m).elim (fun z => z ▸ List.mem_cons_self ..) fun m => List.mem_cons_of_mem _ (f.fb x m)⟩) p
/-- a local's own object is handed back -/
theorem ST.retO {d : Ow} (hi : ρ[i]? = some (.own d)) (p : P.rt d.d) (hf : P.fr = true := by rfl) : ST K (tRet (tVar i)) ρ P := fun F B W H σ e f E q1 q2 q3 q4 => by
  obtain ⟨a, e1, aB, aW, k⟩ := e.sl i _ hi
  refine ⟨.ref a, e1, q2 (.ref a) d.d H (.of Gs.refl fun _ z => z.elim) ?_ p⟩
  rw [hf]
  exact ⟨a, rfl, .inl ⟨i, d, hi, e1⟩, k.2.mv (fun _ z => z) fun _ _ r => r.less fun x m => (List.mem_cons.mp m).elim (fun z => z ▸ aB) fun m => f.fb x m⟩
/-- a local's own object is data from here on -/
theorem ST.frz {d : Ow} (hi : ρ[i]? = some (.own d)) (h : ST K t (ρ.set i (.dat d.d)) P) : ST K t ρ P := fun F B W H σ e f E q1 q2 q3 q4 => by
  obtain ⟨a, B', e1, mem, e2⟩ := e.frz hi
  have e0 : σ.set i (some (.ref a)) = σ := by
    obtain ⟨hl, hv⟩ := List.getElem?_eq_some_iff.mp e1
    have q : σ.set i σ[i] = σ := List.set_getElem_self hl
    rw [hv] at q
    exact q
  have os : ∀ x, Own σ (ρ.set i (.dat d.d)) x → Own σ ρ x := fun x o => by
    have z := Own.set (σ := σ) (ρ := ρ) (i := i) (o := some (.ref a)) (e := .dat d.d) (p := x) (by rw [e0]; exact o) rfl
    exact z
  have fa : a ∉ F := fun m => f.no a m ⟨i, d, hi, e1⟩
  obtain ⟨B2, e3, f3⟩ := e2.fix (F := F) (fun x m => (mem x).mpr ⟨f.fb x m, fun q => fa (q ▸ m)⟩) (fun x m o => f.no x m (os x o)) f.wf
  have g : Gu W (Own σ ρ) (Own σ (ρ.set i (.dat d.d))) H H := .of Gs.refl os
  exact h F B2 W H σ e3 f3 E (q1.after g) (q2.after g) (q3.after g) (q4.after g)
/-- a new object becomes a local's own -/
theorem ST.asgO (h : EVN K te ρ fun d => ∀ ρ', ρ' = ρ.set i (.own ⟨none, d⟩) → P.nx ρ') : ST K (tAsg te (gName i)) ρ P := fun F B W H σ e f E q1 q2 q3 q4 =>
  h B W H σ e _ fun a d H1 g1 n k p => by
    have e2 := e.addO (i := i) g1 n k
    have aF : a ∉ F := fun m => e.bw.kn a (f.fb a m) n
    have os : ∀ x, Own (σ.set i (some (.ref a))) (ρ.set i (.own ⟨none, d⟩)) x → Own σ ρ x ∨ x = a := fun x ⟨j, dj, h1, h2⟩ => by
      by_cases z : i = j
      · subst z
        have hl : i < σ.length := by
          have := (List.getElem?_eq_some_iff.mp h2).1
          rw [List.length_set] at this
          exact this
        rw [List.getElem?_set_self hl] at h2
        cases h2
        exact .inr rfl
      · rw [List.getElem?_set_ne z] at h1 h2
        exact .inl ⟨j, dj, h1, h2⟩
    obtain ⟨B2, e3, f3⟩ := e2.fix (F := F) (fun x m => List.mem_cons_of_mem _ (f.fb x m)) (fun x m o => (os x o).elim (f.no x m) fun z => aF (z ▸ m)) f.wf
    refine q1 _ _ H1 B2 ⟨fun x o nw _ ex => g1.gw.keep x o nw ex, g1.gw.free, fun b m c ns nc _ hb => g1.bag b m c ns nc hb, fun x o => ?_, g1.gw.tups⟩ e3 f3 (p _ rfl)
    rcases os x o with z | z
    · exact .inl z
    · exact .inr (z ▸ n)
theorem ST.drop (h : EV K te ρ fun _ => P.nx ρ) : ST K (tDrop te) ρ P := fun F B W H σ e f E q1 q2 q3 q4 => h B W H σ e _ fun v d H1 g1 s1 p => q1 _ _ H1 B (.of g1 fun _ o => o) (e.gs g1) f p
theorem ST.ifs (h : ET K tt ρ fun b => if b = true then ST K t ρ P else ST K u ρ P) : ST K (tIfS tt t u) ρ P := fun F B W H σ e f E q1 q2 q3 q4 =>
  h B W H σ e _ fun b H1 g1 h1 => by
    have g := Gu.of (U := Own σ ρ) g1 fun _ o => o
    cases b with
    | true =>
      rw [if_pos rfl] at h1 ⊢
      exact h1 F B W H1 σ (e.gs g1) f E (q1.after g) (q2.after g) (q3.after g) (q4.after g)
    | false =>
      rw [if_neg Bool.false_ne_true] at h1 ⊢
      exact h1 F B W H1 σ (e.gs g1) f E (q1.after g) (q2.after g) (q3.after g) (q4.after g)
theorem ET.imp {A A' : Bool → Prop} (h : ET K tt ρ A) (k : ∀ b, A b → A' b) : ET K tt ρ A' := fun B W H σ e Q q => h B W H σ e _ fun b H1 g1 h1 => q b H1 g1 (k b h1)
theorem ST.par (h : EA K ta ρ fun ds => ∃ x y, ds = [x, y] ∧ ∀ ρ', ρ' = (ρ.set i (.dat x)).set j (.dat y) → P.nx ρ') : ST K (tPar i j ta) ρ P := fun F B W H σ e f E q1 q2 q3 q4 =>
  h B W H σ e _ fun vs ds H1 g1 s1 p => by
    obtain ⟨x, y, rfl, p⟩ := p
    cases s1 with
    | cons s1 s2 =>
      cases s2 with
      | cons s2 s3 =>
        cases s3
        obtain ⟨B1, e1, f1⟩ := (((e.gs g1).set (i := i) s1).set (i := j) s2).fix f.fb (fun a m o => f.no a m (Own.set (Own.set o rfl) rfl)) f.wf
        exact ⟨_, _, rfl, q1 _ _ H1 B1 (.of g1 fun _ o => Own.set (Own.set o rfl) rfl) e1 f1 (p _ rfl)⟩
end
/-- an argument as it is handed over: data, or a bag by its address -/
def D.en : D → En
  | .raw b => .bag b
  | d => .dat d
theorem en_no (d : D) : d.en.isOwn = false := by cases d <;> rfl
theorem no_own {ds : List D} {n : Nat} : (ds.map D.en ++ List.replicate n En.no).all (fun e => !e.isOwn) = true := by
  rw [List.all_append, List.all_map, Bool.and_eq_true_iff, List.all_eq_true, List.all_eq_true]
  refine ⟨fun d _ => ?_, fun e m => ?_⟩
  · show (!d.en.isOwn) = true
    rw [en_no]
    rfl
  · rw [(List.mem_replicate.mp m).2]
    rfl
theorem not_own {σ : L2.St} {ρ : List En} (h : ρ.all (fun e => !e.isOwn) = true) (a : Addr) : ¬ Own σ ρ a := fun ⟨i, d, h1, _⟩ => by
  have := List.all_eq_true.mp h _ (List.mem_of_getElem? h1)
  cases this
/-- a promise over data: the arguments are enc x for some x of dom, post tells the answer -/
def spA (K : PySem.W.Frag) {α : Type} (enc : α → List D) (dom : α → Prop) (post : α → D → Prop) : Sp := fun vs H Q _ => ∃ (B W : List Addr) (x : α), EnvOk K B W H (vs.map some) ((enc x).map D.en) ∧ dom x ∧ ∀ v d H', Gs W H H' → Sg K B H' v d → post x d → Q v H'
theorem spA_len {K : PySem.W.Frag} {α : Type} {enc : α → List D} {dom : α → Prop} {post : α → D → Prop} {n : Nat} {vs : List V} {H : Hp} {Q : VK} {E : XK} (h : spA K enc dom post vs H Q E) (hp : ∀ x, (enc x).length = n) : vs.length = n := by
  obtain ⟨B, W, x, e, p, _⟩ := h
  have := e.len
  rw [List.length_map, List.length_map] at this
  rw [this]
  exact hp x
theorem Sg.en {K : PySem.W.Frag} {B W : List Addr} {H : Hp} {σ : L2.St} {ρ : List En} {v : V} {d : D} (e : EnvOk K B W H σ ρ) (s : Sg K B H v d) (hb : ∀ b, d = .raw b → En.bag b ∈ ρ) : EnOk K B W H (some (some v)) d.en := by
  cases d with
  | raw b =>
    cases s
    obtain ⟨i, hi, ei⟩ := List.mem_iff_getElem.mp (hb b rfl)
    have q : ρ[i]? = some (.bag b) := by rw [List.getElem?_eq_getElem hi, ei]
    obtain ⟨_, h2⟩ := e.sl i _ q
    exact ⟨rfl, h2⟩
  | non => exact ⟨v, rfl, s⟩
  | bl b => exact ⟨v, rfl, s⟩
  | int b => exact ⟨v, rfl, s⟩
  | str b => exact ⟨v, rfl, s⟩
  | ty b => exact ⟨v, rfl, s⟩
  | tup b => exact ⟨v, rfl, s⟩
  | lst b => exact ⟨v, rfl, s⟩
  | dic b c => exact ⟨v, rfl, s⟩
  | dit b c => exact ⟨v, rfl, s⟩
  | din _ _ _ _ => exact ⟨v, rfl, s⟩
  | etup => exact ⟨v, rfl, s⟩
  | ins b c d => exact ⟨v, rfl, s⟩
theorem SgA.ens {K : PySem.W.Frag} {B W : List Addr} {H : Hp} {σ : L2.St} {ρ : List En} {vs : List V} {ds : List D} (e : EnvOk K B W H σ ρ) (s : SgA K B H vs ds) (hb : ∀ b, D.raw b ∈ ds → En.bag b ∈ ρ) : EnvOk K B W H (vs.map some) (ds.map D.en) := by
  refine ⟨e.bw, by rw [List.length_map, List.length_map]; exact s.length, fun i q hq => ?_, one_of (by have z := no_own (ds := ds) (n := 0); rwa [List.replicate_zero, List.append_nil] at z), sep_of (by have z := no_own (ds := ds) (n := 0); rwa [List.replicate_zero, List.append_nil] at z)⟩
  rw [List.getElem?_map] at hq
  cases hd : ds[i]? with
  | none =>
    rw [hd] at hq
    cases hq
  | some d =>
    rw [hd] at hq
    cases hq
    obtain ⟨v, hv, sv⟩ := s.get hd
    rw [List.getElem?_map, hv]
    exact sv.en e fun b z => hb b (z ▸ List.mem_of_getElem? hd)
theorem EV.call {K : PySem.W.Frag} {P : D → Prop} {ρ : List En} {α : Type} {enc : α → List D} {dom : α → Prop} {post : α → D → Prop} {E : XK} {ta : TA} (h : EA K ta ρ fun ds => ∃ x, ds = enc x ∧ (∀ b, D.raw b ∈ ds → En.bag b ∈ ρ) ∧ dom x ∧ ∀ d, post x d → P d) : EV K (tCall (spA K enc dom post) [] E ta) ρ P := fun B W H σ e Q q =>
  h B W H σ e _ fun vs ds H1 g1 s1 p => by
    obtain ⟨x, rfl, hb, hd, p⟩ := p
    have e1 := e.gs g1
    refine ⟨B, W, x, ?_, hd, fun v d H2 g2 s2 p2 => q v d H2 (g1.trans g2) s2 (p d p2)⟩
    rw [List.append_nil]
    exact s1.ens e1 hb
/-- the draw's promise -/
abbrev spTake (K : PySem.W.Frag) : Sp := spA K (fun x : Addr × Int => [.raw x.1, .int x.2]) (fun x => 0 < x.2 ∧ x.2 < 2 ^ 200) fun x d => ∃ r, d = .int r ∧ 0 ≤ r ∧ r < x.2
theorem EV.take {K : PySem.W.Frag} {P : D → Prop} {ρ : List En} {E : XK} {te : TE} {i : Nat} {b : Addr} (hi : ρ[i]? = some (.bag b)) (h : EV K te ρ fun x => ∃ n : Int, x = .int n ∧ 0 < n ∧ n < 2 ^ 200 ∧ ∀ r, 0 ≤ r → r < n → P (.int r)) :
    EV K (tCall (spTake K) [] E (tCons (tVar i) (tCons te tNil))) ρ P := by
  refine EV.call (EA.cons (EV.bag hi (EA.cons (EV.imp h fun d hd => ?_))))
  obtain ⟨n, rfl, n0, n1, hr⟩ := hd
  refine EA.nil ⟨(b, n), rfl, fun b' m => ?_, ⟨n0, n1⟩, fun d hd => ?_⟩
  · have : b' = b := by simpa using m
    rw [this]
    exact List.mem_of_getElem? hi
  · obtain ⟨r, rfl, r0, r1⟩ := hd
    exact hr r r0 r1
end VB
namespace VB
open PySem PySem.Spec PyProof.Rows L2
section
variable {K : PySem.W.Frag} {P : Po} {ρ : List En} {te : TE} {ta : TA} {i : Nat} {tg : Option Addr} {ds : List D}
theorem tyV_lst {H : Hp} {a : Addr} {xs : List V} (h : H a = some (.lst xs)) : tyV K "list" (.ref a) H := .inl ⟨rfl, xs, SqL.of h⟩
/-- a local's own list is written: what goes on from there -/
theorem own_go {F B W : List Addr} {H H1 : Hp} {σ : L2.St} {a : Addr} {xs' : List V} {ds' : List D} {M : List En → Prop} {Q : L2.St → Hp → Prop} (e : EnvOk K B W H σ ρ) (f : Fr F B W σ ρ) (g : Gs W H H1) (hi : ρ[i]? = some (.own ⟨tg, .lst ds⟩)) (hv : σ[i]? = some (some (.ref a)))
    (r : SgA K B H1 xs' ds') (q : Cn K F W H σ ρ M Q) (p : M (ρ.set i (.own ⟨tg, .lst ds'⟩))) : Q σ (upd H1 a (.lst xs')) := by
  have e1 := e.gs g
  obtain ⟨aB, aW, aK⟩ := e1.ownB ⟨i, _, hi, hv⟩
  have aT : NoT H1 a := by
    obtain ⟨a0, ea0, _, _, _, ow⟩ := e1.sl i _ hi
    rw [hv] at ea0
    cases ea0
    exact ow.nt
  have e2 : EnvOk K B W (upd H1 a (.lst xs')) σ (ρ.set i (.own ⟨tg, .lst ds'⟩)) := e1.upO hi hv ⟨xs', upd_same, r.gw (Gw.wr aB aT)⟩
  have os : ∀ x, Own σ (ρ.set i (.own ⟨tg, .lst ds'⟩)) x → Own σ ρ x := fun x ⟨j, d, h1, h2⟩ => by
    by_cases z : i = j
    · subst z
      exact ⟨i, _, hi, h2⟩
    · rw [List.getElem?_set_ne z] at h1
      exact ⟨j, d, h1, h2⟩
  obtain ⟨B2, e3, f3⟩ := e2.fix (F := F) f.fb (fun x m o => f.no x m (os x o)) f.wf
  refine q _ _ _ B2 ⟨fun x o nw nu ex => ?_, fun x z => ?_, fun b m c ns nc nu hb => ?_, fun x o => .inl (os x o), fun x ys ex => ?_⟩ e3 f3 p
  · have hne : x ≠ a := fun z => nu (z ▸ ⟨i, _, hi, hv⟩)
    rw [upd_ne hne]
    exact g.gw.keep x o nw ex
  · by_cases hne : x = a
    · rw [hne, upd_same] at z
      cases z
    · rw [upd_ne hne] at z
      exact g.gw.free x z
  · exact (g.bag b m c ns nc hb).wr (fun z => aW (z ▸ m)) fun z => nu (z ▸ ⟨i, _, hi, hv⟩)
  · exact (Gw.wr (List.mem_singleton_self a) aT).tups x ys (g.gw.tups x ys ex)
theorem ST.app (hi : ρ[i]? = some (.own ⟨tg, .lst ds⟩)) (hz : ds.length < 16777216) (h : EV K te ρ fun d => ∀ ρ', ρ' = ρ.set i (.own ⟨tg, .lst (ds ++ [d])⟩) → P.nx ρ') : ST K (tDrop (tBM K "list" rAppend (tVar i) (tCons te tNil))) ρ P := fun F B W H σ e f E q1 q2 q3 q4 => by
  obtain ⟨a, e1, aB, aW, _, xs, hx, _⟩ := e.sl i _ hi
  refine ⟨_, e1, tyV_lst hx, h B W H σ e _ fun v d H1 g1 s1 p => ?_⟩
  obtain ⟨a', e1', _, _, _, xs', hx', r'⟩ := (e.gs g1).sl i _ hi
  rw [e1] at e1'
  cases e1'
  exact ⟨a, xs', v, rfl, rfl, hx', by rw [r'.length, sizeLine_eq]; exact hz, own_go e f g1 hi e1 (r'.append (.cons s1 .nil)) q1 (p _ rfl)⟩
/-- the rule of insert -/
abbrev rInsert : V → List V → Hp → VK → Prop := fun x vs H Q => ∃ (l : Addr) (xs : List V) (i : Int) (y : V), x = .ref l ∧ vs = [.int i, y] ∧ H l = some (.lst xs) ∧ xs.length < sizeLine ∧ 0 ≤ i ∧ i < 2 ^ 63 ∧ Q .non (upd H l (.lst (xs.take i.toNat ++ [y] ++ xs.drop i.toNat)))
theorem ST.ins (hi : ρ[i]? = some (.own ⟨tg, .lst ds⟩)) (hz : ds.length < 16777216) (h : EA K ta ρ fun es => ∃ k d, es = [.int k, d] ∧ 0 ≤ k ∧ k < 2 ^ 63 ∧ ∀ ρ', ρ' = ρ.set i (.own ⟨tg, .lst (ds.take k.toNat ++ [d] ++ ds.drop k.toNat)⟩) → P.nx ρ') : ST K (tDrop (tBM K "list" rInsert (tVar i) ta)) ρ P := fun F B W H σ e f E q1 q2 q3 q4 => by
  obtain ⟨a, e1, aB, aW, _, xs, hx, _⟩ := e.sl i _ hi
  refine ⟨_, e1, tyV_lst hx, h B W H σ e _ fun vs es H1 g1 s1 p => ?_⟩
  obtain ⟨k, d, rfl, k0, k1, p⟩ := p
  cases s1 with
  | cons s1 s2 =>
    cases s2 with
    | cons s2 s3 =>
      cases s3
      cases s1
      obtain ⟨a', e1', _, _, _, xs', hx', r'⟩ := (e.gs g1).sl i _ hi
      rw [e1] at e1'
      cases e1'
      exact ⟨a, xs', k, _, rfl, rfl, hx', by rw [r'.length, sizeLine_eq]; exact hz, k0, k1, own_go e f g1 hi e1 (((r'.take _).append (.cons s2 .nil)).append (r'.drop _)) q1 (p _ rfl)⟩
theorem ST.ext (hi : ρ[i]? = some (.own ⟨tg, .lst ds⟩)) (h : EV K te ρ fun d => ∃ es, d = .lst es ∧ ds.length + es.length ≤ 16777216 ∧ ∀ ρ', ρ' = ρ.set i (.own ⟨tg, .lst (ds ++ es)⟩) → P.nx ρ') : ST K (tDrop (tBM K "list" rExtend (tVar i) (tCons te tNil))) ρ P := fun F B W H σ e f E q1 q2 q3 q4 => by
  obtain ⟨a, e1, aB, aW, _, xs, hx, _⟩ := e.sl i _ hi
  refine ⟨_, e1, tyV_lst hx, h B W H σ e _ fun v d H1 g1 s1 p => ?_⟩
  obtain ⟨es, rfl, hz, p⟩ := p
  obtain ⟨a', e1', _, _, _, xs', hx', r'⟩ := (e.gs g1).sl i _ hi
  rw [e1] at e1'
  cases e1'
  cases s1 with
  | @lst b ys _ nB hb r => exact ⟨a, b, xs', ys, rfl, rfl, hx', hb, by rw [r'.length, r.length, sizeLine_eq]; exact hz, own_go e f g1 hi e1 (r'.append r) q1 (p _ rfl)⟩
theorem ST.clr (hi : ρ[i]? = some (.own ⟨tg, .lst ds⟩)) (h : ∀ ρ', ρ' = ρ.set i (.own ⟨tg, .lst []⟩) → P.nx ρ') : ST K (tDrop (tBM0 K "list" rClear (tVar i))) ρ P := fun F B W H σ e f E q1 q2 q3 q4 => by
  obtain ⟨a, e1, aB, aW, _, xs, hx, r⟩ := e.sl i _ hi
  exact ⟨_, e1, tyV_lst hx, a, xs, rfl, rfl, hx, own_go e f Gs.refl hi e1 .nil q1 (h _ rfl)⟩
theorem SgA.setAt {B : List Addr} {H : Hp} {v : V} {d : D} (s : Sg K B H v d) : ∀ {xs : List V} {ds : List D} (j : Nat), SgA K B H xs ds → SgA K B H (xs.set j v) (ds.set j d)
  | _, _, _, .nil => .nil
  | _, _, 0, .cons _ r => .cons s r
  | _, _, j + 1, .cons h r => .cons h (SgA.setAt s j r)
/-- xs[k] = e -/
theorem ST.item {tk : TE} (hi : ρ[i]? = some (.own ⟨tg, .lst ds⟩)) (h : EV K te ρ fun d => EV K tk ρ fun k => ∃ (z : Int) (j : Nat), k = .int z ∧ ixN ds.length z = some j ∧ ∀ ρ', ρ' = ρ.set i (.own ⟨tg, .lst (ds.set j d)⟩) → P.nx ρ') : ST K (tAsg te (gSub (tVar i) tk rSetL)) ρ P := fun F B W H σ e f E q1 q2 q3 q4 =>
  h B W H σ e _ fun v d H1 g1 s1 p => by
    obtain ⟨a, e1, aB, aW, _, xs, hx, _⟩ := e.sl i _ hi
    refine ⟨_, e1, p B W H1 σ (e.gs g1) _ fun u k H2 g2 s2 p => ?_⟩
    obtain ⟨z, j, rfl, hj, p⟩ := p
    cases s2
    obtain ⟨a', e1', _, _, _, xs', hx', r'⟩ := (e.gs (g1.trans g2)).sl i _ hi
    rw [e1] at e1'
    cases e1'
    exact ⟨a, xs', z, j, rfl, rfl, hx', by rw [r'.length]; exact hj, own_go e f (g1.trans g2) hi e1 (SgA.setAt (s1.gw ((e.gs g1).bw.gw g2)) j r') q1 (p _ rfl)⟩
end
/-- the answer is a new object that nothing else holds -/
def spN (K : PySem.W.Frag) {α : Type} (enc : α → List D) (dom : α → Prop) (post : α → D → Prop) : Sp := fun vs H Q _ => ∃ (B W : List Addr) (x : α), EnvOk K B W H (vs.map some) ((enc x).map D.en) ∧ dom x ∧ ∀ a d H', Gs W H H' → H a = none → OwAt K (a :: B) H' a d → post x d → Q (.ref a) H'
theorem EVN.call {K : PySem.W.Frag} {P : D → Prop} {ρ : List En} {α : Type} {enc : α → List D} {dom : α → Prop} {post : α → D → Prop} {E : XK} {ta : TA} (h : EA K ta ρ fun ds => ∃ x, ds = enc x ∧ (∀ b, D.raw b ∈ ds → En.bag b ∈ ρ) ∧ dom x ∧ ∀ d, post x d → P d) : EVN K (tCall (spN K enc dom post) [] E ta) ρ P := fun B W H σ e Q q =>
  h B W H σ e _ fun vs ds H1 g1 s1 p => by
    obtain ⟨x, rfl, hb, hd, p⟩ := p
    have e1 := e.gs g1
    refine ⟨B, W, x, ?_, hd, fun a d H2 g2 n k p2 => q a d H2 (g1.trans g2) (g1.gw.free a n) k (p d p2)⟩
    rw [List.append_nil]
    exact s1.ens e1 hb
end VB
namespace VB
open PySem PySem.Spec PyProof.Rows L2
abbrev LET : Str := "abcdefghijklmnopqrstuvwxyz"
def Lw (z : Str) : Prop := ∀ c ∈ z.cps.toList, c ∈ LET.cps.toList
def Wd (z : Str) : Prop := 1 ≤ z.length ∧ z.length ≤ 8 ∧ Lw z
def lwB (z : Str) : Bool := z.cps.toList.all fun c => decide (c ∈ LET.cps.toList)
theorem lwB_iff {z : Str} : lwB z = true ↔ Lw z := by
  unfold lwB Lw
  rw [List.all_eq_true]
  exact ⟨fun h c m => of_decide_eq_true (h c m), fun h c m => decide_eq_true (h c m)⟩
instance (z : Str) : Decidable (Wd z) := decidable_of_iff (1 ≤ z.length ∧ z.length ≤ 8 ∧ lwB z = true) (by unfold Wd; rw [lwB_iff])
theorem len_cps (z : Str) : z.cps.toList.length = z.length := by simp [Str.length]
theorem Lw.app {x y : Str} (h : Lw x) (k : Lw y) : Lw (x ++ y) := fun c m => by
  rw [Str.cps_append, Array.toList_append, List.mem_append] at m
  exact m.elim (h c) (k c)
theorem Lw.cut {x : Str} (h : Lw x) (lo hi : Option Int) : Lw (cutS x lo hi) := fun c m => by
  unfold cutS at m
  exact h c (List.mem_of_mem_drop (List.mem_of_mem_take (by simpa using m)))
theorem Lw.empty : Lw Str.empty := fun c m => by
  have : c ∈ ([] : List Nat) := m
  cases this
theorem foldl_mem (p : Nat → Prop) : ∀ (l : List (Array Nat)) (acc : Array Nat), (∀ c ∈ acc.toList, p c) → (∀ x ∈ l, ∀ c ∈ x.toList, p c) → ∀ c ∈ (l.foldl (· ++ ·) acc).toList, p c
  | [], acc, h, _ => h
  | x :: l, acc, h, k => foldl_mem p l (acc ++ x) (fun c m => by
    rw [Array.toList_append, List.mem_append] at m
    exact m.elim (h c) (k x List.mem_cons_self c)) fun y m => k y (List.mem_cons_of_mem _ m)
theorem foldl_len : ∀ (l : List (Array Nat)) (acc : Array Nat), (l.foldl (· ++ ·) acc).size = acc.size + (l.map (·.size)).sum
  | [], acc => by simp
  | x :: l, acc => by
    show (List.foldl (· ++ ·) (acc ++ x) l).size = _
    rw [foldl_len l (acc ++ x), Array.size_append, List.map_cons, List.sum_cons]
    omega
theorem Lw.mul {x : Str} (h : Lw x) (n : Int) : Lw (Txt.mul x n) := by
  unfold Txt.mul
  split
  · exact Lw.empty
  · split
    · exact h
    · exact fun c m => foldl_mem (fun c => c ∈ LET.cps.toList) _ #[] (fun c m => by cases m) (fun y my c mc => by
        rw [(List.mem_replicate.mp my).2] at mc
        exact h c mc) c m
theorem mul_len (x : Str) (n : Int) (h0 : 0 ≤ n) : (Txt.mul x n).length = n.toNat * x.length := by
  unfold Txt.mul
  split
  · have : n.toNat = 0 := by omega
    rw [this]
    simp [Str.empty, Str.length]
  · split
    · rename_i h1 h2
      rw [Bool.or_eq_true] at h2
      rcases h2 with h2 | h2
      · have : n = 1 := by simpa using h2
        rw [this]
        simp
      · have : x.length = 0 := by simpa using h2
        rw [this]
        simp
    · show (List.foldl (· ++ ·) #[] (List.replicate n.toNat x.cps)).size = _
      rw [foldl_len]
      simp [Str.length]
theorem joinR_empty : ∀ l : List Str, (Str.join "" l).cps.toList = (l.map fun z => z.cps.toList).flatten
  | [] => rfl
  | [x] => by simp [Str.join]
  | x :: y :: l => by
    show (x ++ "" ++ Str.join "" (y :: l)).cps.toList = _
    rw [Str.cps_append, Str.cps_append, Array.toList_append, Array.toList_append, joinR_empty (y :: l)]
    simp [show (("" : Str).cps.toList) = [] from by decide]
theorem join_empty (l : List Str) : (Txt.join "" l).cps.toList = (l.map fun z => z.cps.toList).flatten := by
  show (Builtin.Str.glued "" l).cps.toList = _
  rw [StrLaws.glued_eq_join]
  exact joinR_empty l
/-- a text cut in two -/
theorem cut_lo (z : Str) (k : Nat) (hk : k ≤ z.length) : (cutS z none (some (k : Int))).cps.toList = z.cps.toList.take k := by
  unfold cutS
  simp only [HT.sIx_none, HT.sIx_nat]
  rw [Nat.min_eq_left hk]
  simp
theorem cut_hi (z : Str) (k : Nat) (hk : k ≤ z.length) : (cutS z (some (k : Int)) none).cps.toList = z.cps.toList.drop k := by
  unfold cutS
  simp only [HT.sIx_none, HT.sIx_nat]
  rw [Nat.min_eq_left hk, ← len_cps, ← List.length_drop, List.take_length]
theorem cut_lo_len (z : Str) (k : Nat) (hk : k ≤ z.length) : (cutS z none (some (k : Int))).length = k := by
  rw [← len_cps, cut_lo z k hk, List.length_take, len_cps]
  omega
theorem cut_hi_len (z : Str) (k : Nat) (hk : k ≤ z.length) : (cutS z (some (k : Int)) none).length = z.length - k := by
  rw [← len_cps, cut_hi z k hk, List.length_drop, len_cps]
theorem cutG_len {α : Type} (xs : List α) (lo hi : Option Int) : (cutG xs lo hi).length ≤ xs.length := by
  unfold cutG
  rw [List.length_take, List.length_drop]
  omega
theorem cutG_mem {α : Type} {xs : List α} {lo hi : Option Int} {x : α} (h : x ∈ cutG xs lo hi) : x ∈ xs := List.mem_of_mem_drop (List.mem_of_mem_take h)
theorem cutG_map {α β : Type} (f : α → β) (xs : List α) (lo hi : Option Int) : cutG (xs.map f) lo hi = (cutG xs lo hi).map f := by
  unfold cutG
  rw [List.length_map, List.map_take, List.map_drop]
theorem cutG_lo {α : Type} (xs : List α) (k : Nat) : cutG xs none (some (k : Int)) = xs.take k := by
  unfold cutG
  simp only [HT.sIx_none, HT.sIx_nat, List.drop_zero, Nat.sub_zero]
  by_cases h : k ≤ xs.length
  · rw [Nat.min_eq_left h]
  · rw [Nat.min_eq_right (by omega), List.take_length, List.take_of_length_le (by omega)]
theorem cutG_hi {α : Type} (xs : List α) (k : Nat) : cutG xs (some (k : Int)) none = xs.drop k := by
  unfold cutG
  simp only [HT.sIx_none, HT.sIx_nat]
  by_cases h : k ≤ xs.length
  · rw [Nat.min_eq_left h, ← List.length_drop, List.take_length]
  · rw [Nat.min_eq_right (by omega), List.drop_length, List.drop_of_length_le (by omega)]
    simp
/-- an item by a place in bounds -/
theorem atI_of {α : Type} {xs : List α} {i : Int} (h0 : 0 ≤ i) (h1 : i < xs.length) : ∃ x ∈ xs, atI xs i = some x := by
  have hj : i.toNat < xs.length := by omega
  have e : i = ((i.toNat : Nat) : Int) := by omega
  refine ⟨xs[i.toNat], List.getElem_mem hj, ?_⟩
  have z := atI_nat (List.getElem?_eq_getElem hj)
  rw [← e] at z
  exact z
theorem LET_len : LET.cps.toList.length = 26 := by decide
/-- a letter of the alphabet -/
theorem let_at {i : Int} (h0 : 0 ≤ i) (h1 : i < 26) : ∃ c, atI LET.cps.toList i = some c ∧ Lw ⟨#[c]⟩ := by
  obtain ⟨c, hc, e⟩ := atI_of (xs := LET.cps.toList) h0 (by rw [LET_len]; exact h1)
  refine ⟨c, e, fun d m => ?_⟩
  have : d ∈ [c] := m
  rw [List.mem_singleton] at this
  rw [this]
  exact hc
theorem words_ok : (Txt.split ("lists paper anchor notice trust arrive renew back all none any named open shut soft strict ok root" ++ " a b ab zz ask days") " ").length = 24 ∧ ∀ x ∈ Txt.split ("lists paper anchor notice trust arrive renew back all none any named open shut soft strict ok root" ++ " a b ab zz ask days") " ", Wd x := by decide +kernel
theorem sum_ones (ws : List Str) (h : ∀ x ∈ ws, x.length = 1) : (ws.map (·.length)).sum = ws.length := by
  induction ws with
  | nil => rfl
  | cons x r ih =>
    rw [List.map_cons, List.sum_cons, h x List.mem_cons_self, ih fun y m => h y (List.mem_cons_of_mem _ m), List.length_cons]
    omega
theorem join_len (ws : List Str) : (Txt.join "" ws).length = (ws.map (·.length)).sum := by
  rw [← len_cps, join_empty, List.length_flatten, List.map_map]
  exact congrArg List.sum (List.map_congr_left fun z _ => len_cps z)
theorem join_lw (ws : List Str) (h : ∀ x ∈ ws, Lw x) : Lw (Txt.join "" ws) := fun c m => by
  rw [join_empty, List.mem_flatten] at m
  obtain ⟨l, hl, hc⟩ := m
  obtain ⟨z, hz, rfl⟩ := List.mem_map.mp hl
  exact h z hz c hc
theorem rot_mem {α : Type} {xs : List α} {t k : Option Int} {x : α} (h : x ∈ cutG (cutG xs t none ++ cutG xs none t) none k) : x ∈ xs := by
  rcases List.mem_append.mp (cutG_mem h) with m | m
  · exact cutG_mem m
  · exact cutG_mem m
theorem rot_len {α : Type} (xs : List α) (t k : Nat) (ht : t ≤ xs.length) (hk : k ≤ xs.length) : (cutG (cutG xs (some (t : Int)) none ++ cutG xs none (some (t : Int))) none (some (k : Int))).length = k := by
  rw [cutG_lo, cutG_lo, cutG_hi, List.length_take, List.length_append, List.length_drop, List.length_take]
  omega
theorem mul_one_lw {c : Nat} (h : Lw ⟨#[c]⟩) {k : Int} (h1 : 1 ≤ k) (h8 : k ≤ 8) : Wd (Txt.mul ⟨#[c]⟩ k) := by
  have e : (Txt.mul ⟨#[c]⟩ k).length = k.toNat := by
    rw [mul_len _ _ (by omega)]
    show k.toNat * 1 = _
    omega
  exact ⟨by omega, by omega, h.mul k⟩
theorem cutS_len (z : Str) (lo hi : Option Int) : (cutS z lo hi).length ≤ z.length := by
  rw [← len_cps, ← len_cps z]
  unfold cutS
  show (List.take _ (List.drop _ z.cps.toList)).toArray.toList.length ≤ _
  rw [List.length_take, List.length_drop]
  omega
theorem mul_zero' (z : Str) : (Txt.mul z 0).length = 0 := by rw [mul_len _ _ (by decide)]; simp
theorem mul_one' (z : Str) : Txt.mul z 1 = z := by
  unfold Txt.mul
  rw [if_neg (by decide), if_pos (by rfl)]
mutual
/-- data of the kinds that the words' tests meet, its texts and tuples below the line -/
def D.sz : D → Bool
  | .str z => decide (z.length ≤ 16777000)
  | .tup ds => decide (ds.length ≤ 16777000) && D.szA ds
  | .ty _ => false
  | .raw _ => false
  | .ins _ _ _ => false
  | .lst ds => D.szA ds
  | .dic _ ds => D.szA ds
  | .dit _ _ => false
  | .din _ _ _ _ => false
  | .etup => false
  | _ => true
def D.szA : List D → Bool
  | [] => true
  | d :: ds => D.sz d && D.szA ds
end
theorem pyA_strs : ∀ xs : List Str, D.pyA (xs.map D.str) = xs.map PyData.str
  | [] => rfl
  | x :: r => by
    show D.py (.str x) :: D.pyA (r.map D.str) = _
    rw [pyA_strs r]
    rfl
theorem puA_strs : ∀ xs : List Str, D.puA (xs.map D.str) = true
  | [] => rfl
  | x :: r => by
    show (true && D.puA (r.map D.str)) = true
    rw [puA_strs r]
    rfl
theorem wd_ok {x : Str} (h : Lw x) : PyData.strOk x = true := by
  unfold PyData.strOk
  rw [Array.all_eq_true]
  intro i hi
  have m : x.cps[i] ∈ x.cps.toList := by simp
  have c := h _ m
  have all : ∀ c ∈ LET.cps.toList, c < 0x110000 := by decide
  exact decide_eq_true (all _ c)
theorem lay_strs : ∀ xs : List Str, (∀ x ∈ xs, Lw x) → PyData.canLayAll0 (xs.map PyData.str) = true
  | [], _ => rfl
  | x :: r, h => by
    show (PyData.canLay0 (.str x) && PyData.canLayAll0 (r.map PyData.str)) = true
    rw [lay_strs r fun y m => h y (List.mem_cons_of_mem _ m), Bool.and_true]
    show PyData.canLay0 (.str x) = true
    unfold PyData.canLay0
    exact wd_ok (h x List.mem_cons_self)
theorem depth_strs : ∀ xs : List Str, PyData.depthAll (xs.map PyData.str) = 0
  | [] => rfl
  | x :: r => by
    show max (PyData.depth (.str x)) (PyData.depthAll (r.map PyData.str)) = 0
    rw [depth_strs r]
    rfl
theorem strs_shaped {xs ys : List Str} (hx : ∀ x ∈ xs, Wd x) (hy : ∀ x ∈ ys, Wd x) : (D.tup (xs.map D.str)).pu = true ∧ (D.tup (ys.map D.str)).pu = true ∧ SeqAt.shaped (D.tup (xs.map D.str)).py = true ∧ SeqAt.shaped (D.tup (ys.map D.str)).py = true := by
  have one : ∀ zs : List Str, (∀ x ∈ zs, Wd x) → SeqAt.shaped (D.tup (zs.map D.str)).py = true := fun zs hz => by
    unfold D.py SeqAt.shaped
    rw [pyA_strs]
    unfold PyData.canLay0 PyData.depth
    rw [lay_strs zs fun x m => (hz x m).2.2, depth_strs]
    rfl
  exact ⟨by unfold D.pu; exact puA_strs xs, by unfold D.pu; exact puA_strs ys, one xs hx, one ys hy⟩
theorem eqvAll_strs : ∀ xs ys : List Str, PyData.eqvAll (xs.map PyData.str) (ys.map PyData.str) = decide (xs = ys)
  | [], [] => rfl
  | [], _ :: _ => by simp [PyData.eqvAll]
  | _ :: _, [] => by simp [PyData.eqvAll]
  | x :: xs, y :: ys => by
    show (PyData.eqv (.str x) (.str y) && PyData.eqvAll (xs.map PyData.str) (ys.map PyData.str)) = _
    rw [eqvAll_strs xs ys]
    unfold PyData.eqv
    rw [Bool.eq_iff_iff]
    simp
theorem strs_eqv (xs ys : List Str) : PyData.eqv (D.tup (xs.map D.str)).py (D.tup (ys.map D.str)).py = decide (xs = ys) := by
  unfold D.py
  rw [pyA_strs, pyA_strs]
  unfold PyData.eqv
  exact eqvAll_strs xs ys
abbrev nm (xs : List Str) : D := .tup (xs.map D.str)
abbrev spBag (K : PySem.W.Frag) : Sp := fun vs H Q _ => ∃ (a : Addr) (ns : List Int), vs = [.ref a] ∧ SqL K H a (ns.map V.int) ∧ ns.length ≤ 63 ∧ ∀ H' b c ns', BagC H' b c ns' → b ≠ c → Q (.ref b) H'
abbrev spLaw (K : PySem.W.Frag) : Sp := fun vs H Q _ => ∃ (a : Addr) (ns : List Int), vs = [.ref a] ∧ SqL K H a (ns.map V.int) ∧ ns.length ≤ 63 ∧ ∀ H', Q (.bl true) H'
theorem law_start {K : PySem.W.Frag} {H : Hp} {a : Addr} {ns : List Int} {O : Prop} (hl : ns.length ≤ 63) (_ : O) (hS : SqL K H a (ns.map V.int)) : spLaw K [.ref a] H (fun v _ => v = .bl true) fun _ _ _ => False := ⟨a, ns, rfl, hS, hl, fun _ => rfl⟩
theorem law_body {K : PySem.W.Frag} {N : List Str} {u : TS} {vs : List V} {H : Hp} {Q : VK} {E E1 : XK} (h : spLaw K vs H Q E) (hN : 2 ≤ N.length)
    (hb : ∀ b, ∃ ρ, En.no :: En.bag b :: List.replicate (N.length - 2) En.no = ρ ∧ ST K u ρ ⟨fun _ => False, fun d => d = .bl true, fun _ => False, fun _ => False, false⟩) :
    tSeq (tAsg (tCall (spBag K) [] E1 (tCons (tVar 0) tNil)) (gName 1)) u ⟨fun _ H' => Q .non H', Q, fun _ _ => False, fun _ _ => False⟩ (start N vs) H := by
  obtain ⟨a, ns, rfl, hS, hl, q⟩ := h
  refine ⟨_, rfl, a, ns, rfl, hS, hl, fun H' b c ns' hB hbc => ?_⟩
  obtain ⟨ρ, rfl, hs⟩ := hb b
  have nO : (En.no :: En.bag b :: List.replicate (N.length - 2) En.no).all (fun e => !e.isOwn) = true := by
    rw [List.all_cons, List.all_cons, show (List.replicate (N.length - 2) En.no).all (fun e => !e.isOwn) = true from by
      rw [List.all_eq_true]
      intro e m
      rw [(List.mem_replicate.mp m).2]
      rfl]
    rfl
  refine hs [b] [b] [b] H' _ ⟨⟨fun _ m => m, fun x m => ?_⟩, ?_, fun i e hi => ?_, one_of nO, sep_of nO⟩ ⟨fun _ m => m, fun _ m => .inl m, fun a _ => not_own nO a, fun _ m => m⟩ _ (fun _ _ _ _ _ _ _ z => z.elim) (fun v d H2 g s p => ?_) (fun _ _ _ _ _ _ _ z => z.elim) fun _ _ _ _ _ _ _ z => z.elim
  · rw [List.mem_singleton.mp m]
    obtain ⟨⟨z, s, i, hz, _⟩, _, _⟩ := hB
    rw [hz]
    exact fun z => (nomatch z)
  · unfold L2.start
    simp
    omega
  · match i with
    | 0 =>
      cases hi
      trivial
    | 1 =>
      cases hi
      refine ⟨?_, List.mem_singleton_self _, c, ns', fun m => hbc (List.mem_singleton.mp m).symm, hB⟩
      unfold L2.start
      match N, hN with
      | _ :: _ :: _, _ => rfl
    | i + 2 =>
      have : e = .no := by
        have z : (List.replicate (N.length - 2) En.no)[i]? = some e := hi
        rw [List.getElem?_replicate] at z
        split at z
        · exact (Option.some.inj z).symm
        · cases z
      rw [this]
      trivial
  · rw [p] at s
    cases s
    exact q H2
end VB
namespace VB
open PySem PySem.Spec PyProof.Rows L2
section
variable {P : Program} {w : World} {κ : Type} [DecidableEq κ]
/-- the table's rows stand for the keys, in this order -/
inductive KM (knd : KeyKind P w κ) : List (Int × Value) → List κ → Prop
  | nil : KM knd [] []
  | cons {e : Int × Value} {k : κ} {es : List (Int × Value)} {ks : List κ} : knd.is k e.2 = true → e.1 = knd.hash k → e.2.scannable = true → KM knd es ks → KM knd (e :: es) (k :: ks)
variable {knd : KeyKind P w κ}
theorem KM.elems : ∀ {es : List (Int × Value)} {ks : List κ}, KM knd es ks → ElemsOf knd es
  | _, _, .nil => fun e m => nomatch m
  | _, _, @KM.cons _ _ _ _ _ e0 k es ks h1 h2 h3 r => fun e m => by
    rcases List.mem_cons.mp m with z | z
    · rw [z]
      exact ⟨⟨k, h1, h2⟩, h3⟩
    · exact KM.elems r e z
theorem KM.len : ∀ {es : List (Int × Value)} {ks : List κ}, KM knd es ks → es.length = ks.length
  | _, _, .nil => rfl
  | _, _, .cons _ _ _ r => congrArg (· + 1) (KM.len r)
theorem KM.mem : ∀ {es : List (Int × Value)} {ks : List κ} (k : κ), KM knd es ks → ((∃ e ∈ es, knd.is k e.2 = true) ↔ k ∈ ks)
  | _, _, k, .nil => ⟨fun ⟨_, m, _⟩ => (nomatch m), fun m => (nomatch m)⟩
  | _, _, k, @KM.cons _ _ _ _ _ e0 k0 es ks h1 h2 h3 r => by
    have ih := KM.mem k r
    have e := KeyKind.is_eq_decide h1 k
    constructor
    · rintro ⟨x, m, q⟩
      rcases List.mem_cons.mp m with z | z
      · rw [z, e] at q
        rw [of_decide_eq_true q]
        exact List.mem_cons_self ..
      · exact List.mem_cons_of_mem _ (ih.mp ⟨x, z, q⟩)
    · intro m
      rcases List.mem_cons.mp m with z | z
      · exact ⟨e0, List.mem_cons_self .., by rw [e]; exact decide_eq_true z⟩
      · obtain ⟨x, mx, q⟩ := ih.mpr z
        exact ⟨x, List.mem_cons_of_mem _ mx, q⟩
theorem KM.perm {es es' : List (Int × Value)} {ks : List κ} (p : es'.Perm es) (h : KM knd es ks) : ∃ ks', KM knd es' ks' ∧ ks'.Perm ks := by
  induction p generalizing ks with
  | nil => exact ⟨ks, h, .refl _⟩
  | @cons x l1 l2 _ ih =>
    cases h with
    | cons h1 h2 h3 r =>
      obtain ⟨ks', r', q⟩ := ih r
      exact ⟨_, .cons h1 h2 h3 r', q.cons _⟩
  | swap x y l =>
    cases h with
    | cons h1 h2 h3 r =>
      cases r with
      | cons g1 g2 g3 r => exact ⟨_, .cons g1 g2 g3 (.cons h1 h2 h3 r), .swap ..⟩
  | trans _ _ ih1 ih2 =>
    obtain ⟨k2, r2, q2⟩ := ih2 h
    obtain ⟨k1, r1, q1⟩ := ih1 r2
    exact ⟨k1, r1, q1.trans q2⟩
/-- the set at a holds ks, each once -/
def TabX (knd : KeyKind P w κ) (h : Heap) (a : Addr) (ks : List κ) : Prop :=
  ∃ (o : Obj) (es : Array (Int × Value)) (ep : Nat) (t : SetTable), h.get? a = some o ∧ (o.ExactSet ∧ o.data = .set es ep t) ∧ KM knd es.toList ks ∧ ks.Nodup ∧ (es.size < scanBound ∧ t.fits es.size = true) ∧ Ris t.place.toList ∧ (w.params.followText "set-order" = true ∨ t.led = true)
variable {A : Around} {E : Value → Shared → Prop} {s : Shared} {a : Addr} {ks : List κ}
theorem TabX.keep {h h' : Heap} (R : TabX knd h a ks) (k : ∀ o, h.get? a = some o → h'.get? a = some o) : TabX knd h' a ks := by
  obtain ⟨o, es, ep, t, ho, r⟩ := R
  exact ⟨o, es, ep, t, k o ho, r⟩
theorem giveWay {P : Program} {w : World} {A : Around} {E : Value → Shared → Prop} (b : Bool) (s1 : Shared) (Q : Unit → Shared → Prop) (q : Q () s1) : wpAny (model P w) A (match b with | true => rule "set.scan.the-table-gave-way" | false => pure ()) Q E s1 := by
  cases b
  · exact wpAny_pure q
  · exact wpAny_rule q
/-- what stands behind a new row: the table is stored, and laid anew where it is too full -/
theorem tab_tail {g : Bool → Sem Unit} (hg : ∀ (b : Bool) (s1 : Shared) (Q' : Unit → Shared → Prop), Q' () s1 → wpAny (model P w) A (g b) Q' E s1) {o : Obj} {es es1 : Array (Int × Value)} {ep : Nat} {t t2 : SetTable}
    (ho : s.heap.get? a = some o) (hx : o.ExactSet) (hd : o.data = .set es ep t) (m : KM knd es1.toList ks) (nd : ks.Nodup) (hb : es1.size < scanBound) (hf : t2.fits es1.size = true) (hr : Ris t2.place.toList)
    (hl : w.params.followText "set-order" = true ∨ t2.led = true) {dummy : Bool} {R : Option Bool → Shared → Prop} (k : ∀ h' ks', Heap.SameBut a s.heap h' → TabX knd h' a ks' → ks'.Perm ks → R (some true) { s with heap := h' }) :
    wpAny (model P w) A (do
      storeSet a es1 t2
      if (!dummy && t2.tooFull) = true then do
        g (relayAll t2 es1 (SetTable.grown es1.size)).2.2
        storeSet a (relayAll t2 es1 (SetTable.grown es1.size)).1 (relayAll t2 es1 (SetTable.grown es1.size)).2.1
        pure (some true)
      else pure (some true)) R E s := by
  have o1 : (s.heap.update a (Obj.putSet es1 t2)).get? a = some { o with data := .set es1 (ep + 1) t2 } := store_at ho hd
  have b1 : Heap.SameBut a s.heap (s.heap.update a (Obj.putSet es1 t2)) := Heap.SameBut.update ..
  refine wpAny_bind (wpAny_storeSet_of ho hd ?_ (fits_of_scanBound hb))
  by_cases full : (!dummy && t2.tooFull) = true
  · rw [if_pos full]
    have p3 := relayAll_perm t2 es1 (SetTable.grown es1.size)
    have f3 := relayAll_fits t2 es1 (SetTable.grown es1.size)
    have r3 := relayAll_ris t2 es1 (SetTable.grown es1.size)
    have l3 := relayAll_led t2 es1 (SetTable.grown es1.size)
    generalize relayAll t2 es1 (SetTable.grown es1.size) = Z at p3 f3 r3 l3 ⊢
    obtain ⟨es2, t3, gv⟩ := Z
    dsimp only at p3 f3 r3 l3 ⊢
    obtain ⟨ks3, m3, q3⟩ := m.perm p3
    have z2 : es2.size < scanBound := by
      have := p3.length_eq
      rw [Array.length_toList, Array.length_toList] at this
      omega
    refine wpAny_bind (hg _ _ _ ?_)
    refine wpAny_bind (wpAny_storeSet_of o1 rfl ?_ (fits_of_scanBound z2))
    have o2 := store_at (es' := es2) (t' := t3) o1 rfl
    exact wpAny_pure (k _ ks3 (b1.trans (Heap.SameBut.update ..)) ⟨_, es2, _, t3, o2, ⟨hx, rfl⟩, m3, q3.nodup_iff.mpr nd, ⟨z2, f3⟩, r3, hl.imp id fun z => by rw [l3]; exact z⟩ q3)
  · rw [if_neg full]
    exact wpAny_pure (k _ ks b1 ⟨_, es1, _, t2, o1, ⟨hx, rfl⟩, m, nd, ⟨hb, hf⟩, hr, hl⟩ (.refl _))
/-- one key more -/
theorem tab_add {k : κ} {v : Value} {Q : Bool → Shared → Prop} (hk : knd.is k v = true) (hs : v.scannable = true) (R : TabX knd s.heap a ks) (room : ks.length + 1 < scanBound)
    (hQ : ∀ b h' ks', Heap.SameBut a s.heap h' → TabX knd h' a ks' → (∀ j, j ∈ ks' ↔ j ∈ ks ∨ j = k) → ks'.length ≤ ks.length + 1 → Q b { s with heap := h' }) : wpAny (model P w) A (setAddHashed a v (knd.hash k)) Q E s := by
  obtain ⟨o, es, ep, t, ho, ⟨hx, hd⟩, m, nd, ⟨hb, hf⟩, hr, hl⟩ := id R
  have el := m.elems
  unfold setAddHashed setAddHashedIn
  refine wpAny_holding (wpAny_bind (wpAny_setState_of ho hd hf ?_))
  dsimp only
  rw [byScan_of hs hb el, if_pos rfl]
  unfold setAddByScan
  refine wpAny_bind (wpAny_bind (wpAny_rule (wpAny_bind (wpAny_setScan_of hk ho hd hf el ?_))))
  cases hfi : es.toList.findIdx? (fun e => knd.is k e.2) with
  | some j =>
    obtain ⟨hj, pj, _⟩ := List.findIdx?_eq_some_iff_getElem.mp hfi
    have kin : k ∈ ks := (m.mem k).mp ⟨_, List.getElem_mem hj, pj⟩
    exact wpAny_pure (wpAny_pure (hQ false s.heap ks (Heap.SameBut.refl ..) R (fun i => ⟨.inl, fun z => z.elim id fun e => e ▸ kin⟩) (Nat.le_succ _)))
  | none =>
    have kout : k ∉ ks := fun z => by
      obtain ⟨e, me, q⟩ := (m.mem k).mpr z
      have c := List.findIdx?_eq_none_iff.mp hfi e me
      rw [q] at c
      cases c
    dsimp only
    have pm := layNew_perm t es (knd.hash k) v
    have f1 := layNew_fits t es (knd.hash k) v
    have r1 := layNew_ris t es (knd.hash k) v hr
    have l1 := layNew_led t es (knd.hash k) v
    generalize layNew t es (knd.hash k) v = Z at pm f1 r1 l1 ⊢
    obtain ⟨es1, t1, dm, gv⟩ := Z
    dsimp only at pm f1 r1 l1 ⊢
    rw [Array.toList_push] at pm
    obtain ⟨ks1, m1, q1⟩ := KM.perm (pm.trans (List.perm_append_singleton _ _)) (KM.cons (e := (knd.hash k, v)) hk rfl hs m)
    have n1 : ks1.Nodup := q1.nodup_iff.mpr (List.nodup_cons.mpr ⟨kout, nd⟩)
    have z1 : es1.size < scanBound := by
      have h1 := m1.len
      rw [Array.length_toList, q1.length_eq, List.length_cons] at h1
      omega
    have fin : ∀ h' ks', Heap.SameBut a s.heap h' → TabX knd h' a ks' → ks'.Perm ks1 → Q true { s with heap := h' } := fun h' ks' sb r q => hQ true h' ks' sb r (fun j => by
      rw [(q.trans q1).mem_iff, List.mem_cons]
      exact Or.comm) (by rw [(q.trans q1).length_eq, List.length_cons] <;> exact Nat.le_refl _)
    have led : w.params.followText "set-order" = true ∨ t1.led = true := hl.imp id fun z => by rw [l1]; exact z
    refine wpAny_bind (giveWay _ _ _ ?_)
    split
    · refine wpAny_bind ?_
      rw [hashByValue_scannable 8 hs]
      refine wpAny_pure (tab_tail (fun b s1 Q' q => giveWay b s1 Q' q) ho hx hd m1 n1 z1 ?_ ?_ ?_ fun h' ks' sb r q => wpAny_pure (fin h' ks' sb r q))
      · split
        · exact f1
        · exact SetTable.fits_plain_off f1
      · split <;> exact r1
      · split <;> exact led
    · refine wpAny_bind (wpAny_pure ?_)
      rw [if_pos rfl]
      exact tab_tail (fun b s1 Q' q => giveWay b s1 Q' q) ho hx hd m1 n1 z1 f1 r1 led fun h' ks' sb r q => wpAny_pure (fin h' ks' sb r q)
/-- the walk that fills the set -/
theorem tab_loop {R : Result → Shared → Prop} {I S : Addr} {fp wr : List Addr} {G : Array GenState → Array GenState → Prop} {n : Nat} {Pv : Nat → Value → Prop} {St : Nat → Shared → Prop} (W : WalksS P w A.in1 I fp wr G n Pv St) (nS : S ∉ fp) (kf : Nat → κ)
    (hv : ∀ i v, Pv i v → knd.is (kf i) v = true ∧ v.scannable = true) (hb : n + 1 < scanBound) : ∀ (m i : Nat) (s : Shared) (ks : List κ), n - i = m → i ≤ n → St i s → TabX knd s.heap S ks → (∀ j, j ∈ ks ↔ ∃ x, x < i ∧ kf x = j) → ks.length ≤ i →
      (∀ s' ks', Moved (S :: wr) G s s' → TabX knd s'.heap S ks' → (∀ j, j ∈ ks' ↔ ∃ x, x < n ∧ kf x = j) → R (.ok (.ret .none)) s') → codeAny (model P w) A (.builtin "set.update.loop" ⟨[.ref S, .ref I], []⟩) R s := by
  have nW : S ∉ wr := fun m => nS (W.sub _ m)
  have wide : ∀ b, b ∈ wr → b ∈ S :: wr := fun b m => List.mem_cons_of_mem _ m
  intro m
  induction m with
  | zero =>
    intro i s ks hm hi st T mem len fin
    obtain rfl : i = n := by omega
    refine codeAny_builtin PyProof.Rows.F.entry_set_update_loop ?_
    rw [Around.under_plainId PyProof.Rows.F.plain_set_update_loop _]
    show wpAny _ A.in1 (pyNext (.ref I) >>= _) _ _ s
    refine wpAny_bind (W.done s _ _ st fun s' mv => ?_)
    show wpAny _ A.in1 (ret Value.none) _ _ s'
    exact wpAny_pure (fin s' ks (mv.mono wide) (T.keep fun o e => mv.heap S o nW e) mem)
  | succ m ih =>
    intro i s ks hm hi st T mem len fin
    have lt : i < n := by omega
    refine codeAny_builtin PyProof.Rows.F.entry_set_update_loop ?_
    rw [Around.under_plainId PyProof.Rows.F.plain_set_update_loop _]
    show wpAny _ A.in1 (pyNext (.ref I) >>= _) _ _ s
    refine wpAny_bind (W.item i s _ _ lt st fun v s' pv st' mv => ?_)
    obtain ⟨k1, k2⟩ := hv i v pv
    have T1 : TabX knd s'.heap S ks := T.keep fun o e => mv.heap S o nW e
    show wpAny _ A.in1 (holding [v] (setAdd S v) >>= _) _ _ s'
    refine wpAny_bind (wpAny_holding ?_)
    unfold setAdd
    refine wpAny_holding (wpAny_bind (knd.pyHash k1 ?_))
    refine tab_add (s := { s' with toks := s'.toks + 1 }) k1 k2 T1 (by omega) fun b h' ks' sb T2 mem2 len2 => ?_
    have far : ∀ b, b ≠ S → ∀ o, s'.heap.get? b = some o → h'.get? b = some o := fun b hb o e => by
      rw [sb.2 b hb]
      exact e
    refine wpAny_pure ⟨plainId_quiet PyProof.Rows.F.plain_set_update_loop _, ih (i + 1) _ ks' (by omega) lt (W.frame _ s' _ _ st' (Nat.le_succ _) fun b mb o e => far b (fun z => nS (z ▸ mb)) o e) T2 (fun j => ?_) (by omega) fun s2 ks2 mv2 T3 mem3 => ?_⟩
    · rw [mem2 j, mem j]
      constructor
      · rintro (⟨x, hx, e⟩ | e)
        · exact ⟨x, by omega, e⟩
        · exact ⟨i, by omega, e.symm⟩
      · rintro ⟨x, hx, e⟩
        by_cases z : x = i
        · exact .inr (by rw [← e, z])
        · exact .inl ⟨x, by omega, e⟩
    · exact fin s2 ks2 (Moved.trans W.gtrans ((mv.mono wide).then_heap (Nat.le_succ _) fun b o mb e => far b (fun z => mb (z ▸ List.mem_cons_self ..)) o e) mv2) T3 mem3
/-- a set that holds nothing yet -/
def set0 (w : World) : Obj := { cls := .type "set", dict := none, data := .set #[] 0 (.fresh 0 0 (!w.params.followText "set-order")) }
theorem tab0 {h : Heap} {a : Addr} (e : h.get? a = some (set0 w)) : TabX knd h a [] := by
  refine ⟨_, #[], 0, _, e, ⟨⟨rfl, rfl, rfl⟩, rfl⟩, .nil, List.nodup_nil, ⟨by decide, rfl⟩, List.Pairwise.nil, ?_⟩
  show _ ∨ (!w.params.followText "set-order") = true
  cases w.params.followText "set-order"
  · exact .inr rfl
  · exact .inl rfl
set_option maxHeartbeats 6400000 in
/-- set(xs), xs a list of such keys -/
theorem set_of_list {l : Addr} {items : Array Value} {Q : Value → Shared → Prop} (kf : Nat → κ) (hh : A.handled = none) (hl : s.heap.IsList l items) (hv : ∀ i v, items[i]? = some v → knd.is (kf i) v = true ∧ v.scannable = true) (hb : items.size + 1 < scanBound)
    (fin : ∀ (h' : Heap) (tk : Nat) (ks : List κ), TabX knd h' s.heap.objs.size ks → (∀ j, j ∈ ks ↔ ∃ x, x < items.size ∧ kf x = j) → (∀ b o, s.heap.get? b = some o → h'.get? b = some o) → Q (.ref s.heap.objs.size) { s with heap := h', toks := tk }) :
    wpAny (model P w) A (call (.type "set") [.ref l]) Q E s := by
  obtain ⟨c0, tl0, mro0⟩ := PySem.F.called_set.mro
  have made0 := PySem.F.called_set.made
  have sub0 := PySem.F.called_set.sub
  have nt0 := PySem.F.called_set.notType
  have cc0 := PySem.F.called_set.canCreate
  have tc0 := PySem.F.typeCall_set_1 (.ref l)
  refine wpAny_call (codeAny_of_tree ?_)
  show wpAny _ _ (callAny (.type "set") _) _ _ _
  refine wpAny_pure ⟨Code.quiet_builtin _ (by decide +kernel), codeAny_builtin PySem.F.entry_type_call ?_⟩
  rw [Around.under_plain (weight_type_call_type "set" [.ref l] []) rfl]
  repeat (any_goals (first | assumption | wp_step))
  refine codeAny_mono (code_set_led1 (.ref l) (E := E) (Q₁ := fun v s1 => v = .ref s.heap.objs.size ∧ s1 = { s with heap := s.heap.push (set0 w) }) ⟨rfl, rfl⟩) fun r1 s1 q1 => ?_
  cases r1 with
  | error e => exact q1
  | ok fl =>
    cases fl with
    | ret v =>
      obtain ⟨rfl, rfl⟩ := q1
      have gS : (s.heap.push (set0 w)).get? s.heap.objs.size = some (set0 w) := Heap.get?_push_size _ rfl
      have tS : Shared.TypeIs { s with heap := s.heap.push (set0 w) } (.ref s.heap.objs.size) "set" := ⟨_, gS, rfl⟩
      have li0 := PySem.F.called_set.init.lookup
      have bi0 := PySem.F.called_set.init.bind (.ref s.heap.objs.size)
      repeat (any_goals (first | assumption | wp_step))
      refine codeAny_mono (codeAny_call_builtin (R := wants (fun u s2 => u = .none ∧ ∃ h' tk ks, s2 = { s with heap := h', toks := tk } ∧ TabX knd h' s.heap.objs.size ks ∧ (∀ j, j ∈ ks ↔ ∃ x, x < items.size ∧ kf x = j) ∧ ∀ b o, s.heap.get? b = some o → h'.get? b = some o) E)
        PySem.F.called_set.init.plain PySem.F.entry_set_init (check_set_init_1 tS ?_)) fun r2 s2 q2 => ?_
      · obtain ⟨⟨oc, od, odt, osl⟩, gl, hc, nl, hd⟩ := hl
        simp only at hc hd
        subst hc
        subst hd
        have lS : l < s.heap.objs.size := Heap.lt_size gl
        have gl1 : (s.heap.push (set0 w)).get? l = some { cls := .type "list", dict := od, data := .seq items nl, slots := osl } := Heap.get?_push_of_some _ gl
        have hl1 : (s.heap.push (set0 w)).IsList l items := ⟨_, gl1, rfl, nl, rfl⟩
        have ss0 := PySem.F.sub_list_set
        have sf0 := PySem.F.sub_list_frozenset
        have nd0 : (Value.type "list" == Value.type "dict") = false := by decide
        unfold Builtin.«set.__init__» noKeywords Builtin.Frozenset.updateFrom
        generalize hit : pyIter = it0
        wp_walk
        subst hit
        refine wpAny_pyIter_list hl1 (wpAny_bind (wpAny_runValue ?_))
        have sz : (s.heap.push (set0 w)).objs.size = s.heap.objs.size + 1 := Heap.size_push ..
        have nI : l ≠ (s.heap.push (set0 w)).objs.size := by
          rw [sz]
          exact Nat.ne_of_lt (Nat.lt_succ_of_lt lS)
        have nS : s.heap.objs.size ∉ [(s.heap.push (set0 w)).objs.size, l] := fun m => by
          rw [sz] at m
          rcases List.mem_cons.mp m with z | z
          · exact absurd z (Nat.ne_of_lt (Nat.lt_succ_self _))
          · exact absurd (List.mem_singleton.mp z) (Nat.ne_of_gt lS)
        refine tab_loop ((Walks.list (by simp [hh]) _ l nI items).toS) nS kf hv hb (items.size - 0) 0 _ [] (by omega) (Nat.zero_le _) ⟨⟨_, Heap.get?_push_size _ rfl, rfl, rfl⟩, hl1.push _⟩ (tab0 (Heap.get?_push_of_some _ gS)) (fun j => ⟨fun m => (nomatch m), fun ⟨x, hx, _⟩ => absurd hx (Nat.not_lt_zero x)⟩) (Nat.le_refl _) fun s3 ks mv T mem => ?_
        obtain ⟨h3, g3, d3, t3, os3⟩ := s3
        have eg : g3 = s.gens := mv.gens
        have ed : d3 = s.drawn := mv.drawn
        have eo : os3 = s.os := mv.os
        subst eg
        subst ed
        subst eo
        show wpAny _ _ _ _ _ _
        refine wpAny_pure ?_
        show wpAny _ _ (ret Value.none) _ _ _
        refine wpAny_pure ⟨rfl, h3, t3, ks, rfl, T, mem, fun b o e => ?_⟩
        have lb := Heap.lt_size e
        refine mv.heap b o (fun m => ?_) (Heap.get?_push_of_some _ (Heap.get?_push_of_some _ e))
        rw [sz] at m
        rcases List.mem_cons.mp m with z | z
        · exact absurd z (Nat.ne_of_lt lb)
        · exact absurd (List.mem_singleton.mp z) (Nat.ne_of_lt (Nat.lt_succ_of_lt lb))
      · cases r2 with
        | error e => exact q2
        | ok fl2 =>
          cases fl2 with
          | ret u =>
            obtain ⟨rfl, h', tk, ks, rfl, T, mem, k⟩ := q2
            repeat (any_goals (first | assumption | wp_step))
            exact fin h' tk ks T mem k
          | _ => exact q2.elim
    | _ => exact q1.elim
set_option maxHeartbeats 6400000 in
/-- set(xs), xs a tuple of such keys -/
theorem set_of_tuple {l : Addr} {items : Array Value} {Q : Value → Shared → Prop} (kf : Nat → κ) (hh : A.handled = none) (hl : s.heap.IsTuple l items) (hv : ∀ i v, items[i]? = some v → knd.is (kf i) v = true ∧ v.scannable = true) (hb : items.size + 1 < scanBound)
    (fin : ∀ (h' : Heap) (tk : Nat) (ks : List κ), TabX knd h' s.heap.objs.size ks → (∀ j, j ∈ ks ↔ ∃ x, x < items.size ∧ kf x = j) → (∀ b o, s.heap.get? b = some o → h'.get? b = some o) → Q (.ref s.heap.objs.size) { s with heap := h', toks := tk }) :
    wpAny (model P w) A (call (.type "set") [.ref l]) Q E s := by
  obtain ⟨c0, tl0, mro0⟩ := PySem.F.called_set.mro
  have made0 := PySem.F.called_set.made
  have sub0 := PySem.F.called_set.sub
  have nt0 := PySem.F.called_set.notType
  have cc0 := PySem.F.called_set.canCreate
  have tc0 := PySem.F.typeCall_set_1 (.ref l)
  refine wpAny_call (codeAny_of_tree ?_)
  show wpAny _ _ (callAny (.type "set") _) _ _ _
  refine wpAny_pure ⟨Code.quiet_builtin _ (by decide +kernel), codeAny_builtin PySem.F.entry_type_call ?_⟩
  rw [Around.under_plain (weight_type_call_type "set" [.ref l] []) rfl]
  repeat (any_goals (first | assumption | wp_step))
  refine codeAny_mono (code_set_led1 (.ref l) (E := E) (Q₁ := fun v s1 => v = .ref s.heap.objs.size ∧ s1 = { s with heap := s.heap.push (set0 w) }) ⟨rfl, rfl⟩) fun r1 s1 q1 => ?_
  cases r1 with
  | error e => exact q1
  | ok fl =>
    cases fl with
    | ret v =>
      obtain ⟨rfl, rfl⟩ := q1
      have gS : (s.heap.push (set0 w)).get? s.heap.objs.size = some (set0 w) := Heap.get?_push_size _ rfl
      have tS : Shared.TypeIs { s with heap := s.heap.push (set0 w) } (.ref s.heap.objs.size) "set" := ⟨_, gS, rfl⟩
      have li0 := PySem.F.called_set.init.lookup
      have bi0 := PySem.F.called_set.init.bind (.ref s.heap.objs.size)
      repeat (any_goals (first | assumption | wp_step))
      refine codeAny_mono (codeAny_call_builtin (R := wants (fun u s2 => u = .none ∧ ∃ h' tk ks, s2 = { s with heap := h', toks := tk } ∧ TabX knd h' s.heap.objs.size ks ∧ (∀ j, j ∈ ks ↔ ∃ x, x < items.size ∧ kf x = j) ∧ ∀ b o, s.heap.get? b = some o → h'.get? b = some o) E)
        PySem.F.called_set.init.plain PySem.F.entry_set_init (check_set_init_1 tS ?_)) fun r2 s2 q2 => ?_
      · obtain ⟨⟨oc, od, odt, osl⟩, gl, hc, nl, hd⟩ := hl
        simp only at hc hd
        subst hc
        subst hd
        have lS : l < s.heap.objs.size := Heap.lt_size gl
        have gl1 : (s.heap.push (set0 w)).get? l = some { cls := .type "tuple", dict := od, data := .seq items nl, slots := osl } := Heap.get?_push_of_some _ gl
        have hl1 : (s.heap.push (set0 w)).IsTuple l items := ⟨_, gl1, rfl, nl, rfl⟩
        have ss0 := PySem.F.sub_tuple_set
        have sf0 := PySem.F.sub_tuple_frozenset
        have nd0 : (Value.type "tuple" == Value.type "dict") = false := by decide
        unfold Builtin.«set.__init__» noKeywords Builtin.Frozenset.updateFrom
        generalize hit : pyIter = it0
        wp_walk
        subst hit
        refine wpAny_pyIter_tuple hl1 (wpAny_bind (wpAny_runValue ?_))
        have sz : (s.heap.push (set0 w)).objs.size = s.heap.objs.size + 1 := Heap.size_push ..
        have nI : l ≠ (s.heap.push (set0 w)).objs.size := by
          rw [sz]
          exact Nat.ne_of_lt (Nat.lt_succ_of_lt lS)
        have nS : s.heap.objs.size ∉ [(s.heap.push (set0 w)).objs.size, l] := fun m => by
          rw [sz] at m
          rcases List.mem_cons.mp m with z | z
          · exact absurd z (Nat.ne_of_lt (Nat.lt_succ_self _))
          · exact absurd (List.mem_singleton.mp z) (Nat.ne_of_gt lS)
        refine tab_loop ((Walks.tuple (by simp [hh]) _ l nI items).toS) nS kf hv hb (items.size - 0) 0 _ [] (by omega) (Nat.zero_le _) ⟨⟨_, Heap.get?_push_size _ rfl, rfl, rfl⟩, hl1.push _⟩ (tab0 (Heap.get?_push_of_some _ gS)) (fun j => ⟨fun m => (nomatch m), fun ⟨x, hx, _⟩ => absurd hx (Nat.not_lt_zero x)⟩) (Nat.le_refl _) fun s3 ks mv T mem => ?_
        obtain ⟨h3, g3, d3, t3, os3⟩ := s3
        have eg : g3 = s.gens := mv.gens
        have ed : d3 = s.drawn := mv.drawn
        have eo : os3 = s.os := mv.os
        subst eg
        subst ed
        subst eo
        show wpAny _ _ _ _ _ _
        refine wpAny_pure ?_
        show wpAny _ _ (ret Value.none) _ _ _
        refine wpAny_pure ⟨rfl, h3, t3, ks, rfl, T, mem, fun b o e => ?_⟩
        have lb := Heap.lt_size e
        refine mv.heap b o (fun m => ?_) (Heap.get?_push_of_some _ (Heap.get?_push_of_some _ e))
        rw [sz] at m
        rcases List.mem_cons.mp m with z | z
        · exact absurd z (Nat.ne_of_lt lb)
        · exact absurd (List.mem_singleton.mp z) (Nat.ne_of_lt (Nat.lt_succ_of_lt lb))
      · cases r2 with
        | error e => exact q2
        | ok fl2 =>
          cases fl2 with
          | ret u =>
            obtain ⟨rfl, h', tk, ks, rfl, T, mem, k⟩ := q2
            repeat (any_goals (first | assumption | wp_step))
            exact fin h' tk ks T mem k
          | _ => exact q2.elim
    | _ => exact q1.elim
end
/-- the set of the texts ys, at a -/
def SetXO (P : Program) (w : World) (a : Addr) (ys : List Str) : HO := .ext fun h => TabX (mixKind P w) h a (ys.map Sum.inr)
theorem setXO_new {P : Program} {w : World} {H : Hp} {h : Heap} {a : Addr} {ys : List Str} (R : TabX (mixKind P w) h a (ys.map Sum.inr)) : ObjOk P w H h a (SetXO P w a ys) := by
  have ⟨o, _, _, _, ho, _⟩ := R
  exact ⟨R, ⟨o, ho⟩, fun _ _ p k => TabX.keep p k⟩
theorem inrs : ∀ ks : List Key, (∀ k ∈ ks, ∃ z : Str, k = Sum.inr z) → ∃ ys : List Str, ks = ys.map Sum.inr
  | [], _ => ⟨[], rfl⟩
  | k :: ks, h => by
    obtain ⟨z, rfl⟩ := h k (List.mem_cons_self ..)
    obtain ⟨ys, rfl⟩ := inrs ks fun x m => h x (List.mem_cons_of_mem _ m)
    exact ⟨z :: ys, rfl⟩
/-- set(xs), xs a list or a tuple of texts -/
def rSetX (K : PySem.W.Frag) (P : Program) (w : World) : List V → Hp → VK → Prop := fun xs H Q => ∃ (l : Addr) (zs : List Str), xs = [.ref l] ∧ (SqL K H l (zs.map V.str) ∨ SqT K H l (zs.map V.str)) ∧ zs.length < 4000 ∧
  ∀ (p : Addr) (ys : List Str), H p = none → (∀ z, z ∈ ys ↔ z ∈ zs) → ys.Nodup → Q (.ref p) (upd H p (SetXO P w p ys))
theorem cr_setX {X : Cx} {K : PySem.W.Frag} {P : Program} {w : World} (hK : X.K = K) (hP : X.prog = P) (hw : X.w = w) (hc : X.calm = true) : CallR X (.type "set") (rSetX K P w) := by
  subst hK
  subst hP
  subst hw
  intro pins s σ H xs us Q I r h
  obtain ⟨l, zs, rfl, hq, hz, q⟩ := h
  rw [Vals.ref1 r]
  have val : ∀ (its : List Value), Vals (zs.map V.str) its → ∀ (i : Nat) (v : Value), its.toArray[i]? = some v → (mixKind X.prog X.w).is (Sum.inr (zs.getD i Str.empty)) v = true ∧ v.scannable = true := fun its rv i v hv => by
    have hl := rv.length
    rw [List.length_map] at hl
    have hi : i < its.length := by
      have := (Array.getElem?_eq_some_iff.mp hv).1
      simpa using this
    have hz : i < zs.length := by omega
    obtain ⟨u, hu, t, e⟩ := rv.get (i := i) (x := .str zs[i]) (by simp [hz])
    have : v = Value.str zs[i] t := by
      rw [← e]
      have z : its.toArray[i]? = its[i]? := by simp
      rw [z, hu] at hv
      exact (Option.some.inj hv).symm
    rw [this, show zs.getD i Str.empty = zs[i] by simp [hz]]
    exact ⟨keyIs_str _ t, rfl⟩
  have fin : ∀ (its : List Value), Vals (zs.map V.str) its → ∀ (h' : Heap) (tk : Nat) (ks : List Key), TabX (mixKind X.prog X.w) h' s.heap.objs.size ks → (∀ j, j ∈ ks ↔ ∃ x, x < its.toArray.size ∧ (Sum.inr (zs.getD x Str.empty) : Key) = j) →
      (∀ b o, s.heap.get? b = some o → h'.get? b = some o) → EP X pins σ Q (.ref s.heap.objs.size) { s with heap := h', toks := tk } := fun its rv h' tk ks T mem k => by
    have hl := rv.length
    rw [List.length_map] at hl
    obtain ⟨ys, rfl⟩ := inrs ks fun j m => by
      obtain ⟨x, _, e⟩ := (mem j).mp m
      exact ⟨_, e.symm⟩
    have nd : ys.Nodup := by
      obtain ⟨_, _, _, _, _, _, _, nd, _⟩ := id T
      exact List.Pairwise.of_map _ (fun a b hne e => hne (congrArg Sum.inr e)) nd
    refine ⟨.ref _, _, I.laid (a := s.heap.objs.size) (o := SetXO X.prog X.w s.heap.objs.size ys) (t' := tk) k (Nat.le_refl _) (setXO_new T), rfl, q _ ys (I.hok.fresh (Nat.le_refl _)) (fun z => ?_) nd⟩
    have hm : z ∈ ys ↔ (Sum.inr z : Key) ∈ ys.map Sum.inr := by
      rw [List.mem_map]
      exact ⟨fun m => ⟨z, m, rfl⟩, fun ⟨y, m, e⟩ => by cases e; exact m⟩
    rw [hm, mem]
    constructor
    · rintro ⟨x, hx, e⟩
      have hx' : x < zs.length := by
        rw [List.size_toArray] at hx
        omega
      have : zs.getD x Str.empty = z := Sum.inr.inj e
      rw [← this, show zs.getD x Str.empty = zs[x] by simp [hx']]
      exact List.getElem_mem hx'
    · intro m
      obtain ⟨x, hx, e⟩ := List.mem_iff_getElem.mp m
      refine ⟨x, by rw [List.size_toArray]; omega, ?_⟩
      rw [show zs.getD x Str.empty = zs[x] by simp [hx], e]
  have room : ∀ (its : List Value), Vals (zs.map V.str) its → its.toArray.size + 1 < scanBound := fun its rv => by
    have hl := rv.length
    rw [List.length_map] at hl
    have : scanBound = 4096 := rfl
    rw [List.size_toArray]
    omega
  rcases hq with hq | hq
  · obtain ⟨its, rv, pl, _⟩ := I.list hq
    exact set_of_list (knd := mixKind X.prog X.w) (fun i => Sum.inr (zs.getD i Str.empty)) (I.ok.hd hc) pl.isList (val its rv) (room its rv) (fin its rv)
  · obtain ⟨its, rv, pl, _⟩ := I.tuple hq
    exact set_of_tuple (knd := mixKind X.prog X.w) (fun i => Sum.inr (zs.getD i Str.empty)) (I.ok.hd hc) pl (val its rv) (room its rv) (fin its rv)
/-- sorted(s), s a set of fewer than 64 texts -/
def rSortedX (P : Program) (w : World) : List V → Hp → VK → Prop := fun vs H Q => ∃ (a : Addr) (ys : List Str), vs = [.ref a] ∧ H a = some (SetXO P w a ys) ∧ ys.length < 64 ∧ ∀ (out : List Str) (p : Addr), out.Perm ys → sortedS out = true → H p = none → Q (.ref p) (upd H p (.lst (out.map V.str)))
theorem strs_of_tab {P : Program} {w : World} : ∀ {es : List (Int × Value)} {ys : List Str}, KM (mixKind P w) es (ys.map Sum.inr) → StrsAre (es.map (·.2)) ys
  | [], [], _ => .nil
  | e :: es, y :: ys, h => by
    rw [List.map_cons] at h
    cases h with
    | cons h1 _ _ r =>
      rcases keyIs_shape (show keyIs (Sum.inr y) e.2 = true from h1) with ⟨i, t, z, _⟩ | ⟨x, t, z, ev⟩
      · cases z
      · cases z
        rw [List.map_cons, ev]
        exact .cons _ _ (strs_of_tab r)
theorem strs_perm : ∀ {us vs : List Value}, us.Perm vs → ∀ {ys : List Str}, StrsAre vs ys → ∃ zs, StrsAre us zs ∧ zs.Perm ys := by
  intro us vs p
  induction p with
  | nil => exact fun h => ⟨_, h, .refl _⟩
  | cons x _ ih =>
    intro ys h
    cases h with
    | cons y t r =>
      obtain ⟨zs, a, b⟩ := ih r
      exact ⟨y :: zs, .cons y t a, b.cons y⟩
  | swap x y l =>
    intro ys h
    cases h with
    | cons y1 t1 r =>
      cases r with
      | cons y2 t2 r => exact ⟨_, .cons y2 t2 (.cons y1 t1 r), .swap ..⟩
  | trans _ _ ih1 ih2 =>
    intro ys h
    obtain ⟨z2, a2, b2⟩ := ih2 h
    obtain ⟨z1, a1, b1⟩ := ih1 a2
    exact ⟨z1, a1, b1.trans b2⟩
theorem cr_sortedX {X : Cx} {P : Program} {w : World} (hP : X.prog = P) (hw : X.w = w) (hc : X.calm = true) : CallR X (.builtin "sorted") (rSortedX P w) := by
  subst hP
  subst hw
  intro pins s σ H vs us Q I r h
  obtain ⟨a, ys, rfl, ha, h64, q⟩ := h
  rw [Vals.ref1 r]
  obtain ⟨o, es, ep, t, ho, ⟨hx, hd⟩, m, nd, ⟨hb, hf⟩, hr, hl⟩ : TabX (mixKind X.prog X.w) s.heap a (ys.map Sum.inr) := (I.hok a _ ha).1
  refine Calls.call_function_entry PyProof.Rows.kind_sorted PyProof.Rows.plain_sorted PyProof.Rows.entry_sorted (PyProof.Rows.args_sorted1 _) ?_
  unfold Builtin.«sorted»
  refine wpAny_bind (m := checkCount "sorted" 1 1 _) (wpAny_pure ?_)
  refine wpAny_bind (collect_set (A := X.A.in1) (I.ok.hd hc) ⟨o, ho, hx.1, hd⟩ hf hb hr hl fun s1 vs k1 z1 g1 o1 pm => ?_)
  obtain ⟨zs, hS, pz⟩ := strs_perm pm (strs_of_tab m)
  have vl : vs.length = zs.length := StrsAre.len_eq hS
  have v64 : vs.length < 64 := by
    rw [vl, pz.length_eq]
    exact h64
  refine wpAny_bind (wpAny_newList ?_ (by rw [sizeLine_eq]; omega))
  have hoL : (s1.heap.push (seqObj "list" vs.toArray 0)).get? s1.heap.objs.size = some (seqObj "list" vs.toArray 0) := Heap.get?_push_size _ rfl
  refine wpAny_bind (wpAny_holding (wpAny_call_entry PyProof.Rows.slot_list_sort ⟨_, hoL, rfl⟩ PyProof.Rows.entry_list_sort
    (list_sort_treeK strKind_oneLt (s := { s1 with heap := s1.heap.push (seqObj "list" vs.toArray 0) }) hoL hS.keysOf (fun _ _ _ e => keyKind_strs (by rw [← e]; exact hS)) v64 fun st' hp hs => ⟨_, rfl, ?_⟩) (PyProof.Rows.args_list_sort _)))
  obtain ⟨out, u1, u2, u3⟩ := sorted_out_str hS hp hs
  obtain ⟨e', he'⟩ := PyProof.Rows.sortedHeap_at (vs := vs) (out := (arrOf st').map (·.2)) hoL
  have len : (out.map V.str).length ≤ sizeLine := by
    rw [List.length_map, u2.length_eq, ← vl, sizeLine_eq]
    omega
  have fr : H s1.heap.objs.size = none := I.hok.fresh z1
  have kp : ∀ b u, s.heap.get? b = some u → (PyProof.Rows.sortedHeap (s1.heap.push (seqObj "list" vs.toArray 0)) s1.heap.objs.size vs ((arrOf st').map (·.2))).get? b = some u := fun b u e => by
    have e1 := k1 b u e
    have lt := Heap.lt_size e1
    rw [PyProof.Rows.sortedHeap_old (Nat.ne_of_lt lt) (by rw [size_push']; exact Nat.lt_succ_of_lt lt)]
    exact Heap.get?_push_of_some _ e1
  have J : Inv X pins σ (upd H s1.heap.objs.size (.lst (out.map V.str))) { s with heap := PyProof.Rows.sortedHeap (s1.heap.push (seqObj "list" vs.toArray 0)) s1.heap.objs.size vs ((arrOf st').map (·.2)), gens := s1.gens, drawn := s1.drawn, toks := s1.toks } :=
    I.call (ch := []) (Un.laid kp z1 fr) (I.hok.laid kp z1 ⟨len, ((arrOf st').map (·.2)).toList, e', vals_of_strs u1, by rw [Array.toArray_toList]; exact he'⟩) (by rw [g1]; exact I.bare) (fun _ z => nomatch z)
  obtain ⟨h1, g', d', t', os'⟩ := s1
  have o2 : os' = s.os := o1
  subst o2
  exact wpAny_pure ⟨_, rfl, .ref _, _, J, rfl, q out _ (u2.trans pz) u3 fr⟩
/-- len(s) -/
def rLenX (P : Program) (w : World) : List V → Hp → VK → Prop := fun vs H Q => ∃ (a : Addr) (ys : List Str), vs = [.ref a] ∧ H a = some (SetXO P w a ys) ∧ Q (.int ys.length) H
theorem cr_lenX {X : Cx} {P : Program} {w : World} (hP : X.prog = P) (hw : X.w = w) : CallR X (.builtin "len") (rLenX P w) := by
  subst hP
  subst hw
  intro pins s σ H vs us Q I r h
  obtain ⟨a, ys, rfl, ha, q⟩ := h
  rw [Vals.ref1 r]
  obtain ⟨o, es, ep, t, ho, ⟨hx, hd⟩, m, nd, ⟨hb, hf⟩, hr, hl⟩ : TabX (mixKind X.prog X.w) s.heap a (ys.map Sum.inr) := (I.hok a _ ha).1
  have hn : es.size = ys.length := by
    have := m.len
    rw [Array.length_toList, List.length_map] at this
    exact this
  have b4 : scanBound = 4096 := rfl
  refine call_len_set ho hx hd hf (by rw [b4] at hb; omega) ⟨.int ys.length, H, I.tok _, ⟨_, by rw [hn]⟩, q⟩
theorem nodup_le : ∀ {ys zs : List Str}, ys.Nodup → (∀ z, z ∈ ys → z ∈ zs) → ys.length ≤ zs.length
  | [], _, _, _ => Nat.zero_le _
  | y :: ys, zs, nd, sub => by
    obtain ⟨n1, n2⟩ := List.nodup_cons.mp nd
    have m := sub y (List.mem_cons_self ..)
    have ih := nodup_le (ys := ys) (zs := zs.erase y) n2 fun z mz => (List.mem_erase_of_ne (fun e : z = y => n1 (by rw [← e]; exact mz))).mpr (sub z (List.mem_cons_of_mem _ mz))
    rw [List.length_erase_of_mem m] at ih
    have : 0 < zs.length := List.length_pos_of_mem m
    rw [List.length_cons]
    omega
section
variable {K : PySem.W.Frag} {P : Program} {w : World} {ρ : List En} {PD : D → Prop} {te : TE}
theorem setX_of {B : List Addr} {H : Hp} {v : V} {d : D} {zs : List Str} {Q : VK} (s : Sg K B H v d) (hd : d = .lst (zs.map D.str) ∨ d = .tup (zs.map D.str)) (hz : zs.length < 4000)
    (q : ∀ (p : Addr) (ys : List Str), H p = none → (∀ z, z ∈ ys ↔ z ∈ zs) → ys.Nodup → Q (.ref p) (upd H p (SetXO P w p ys))) : rSetX K P w [v] H Q := by
  rcases hd with rfl | rfl
  · cases s with
    | lst n h r => exact ⟨_, zs, rfl, .inl (by rw [← r.strs]; exact SqL.of h), hz, q⟩
  · cases s with
    | tup n h r => exact ⟨_, zs, rfl, .inr (by rw [← r.strs]; exact .inl (Rd.of h)), hz, q⟩
/-- sorted(set(xs)) of texts -/
theorem EVN.sortedSet (h : EV K te ρ fun d => ∃ zs : List Str, (d = .lst (zs.map D.str) ∨ d = .tup (zs.map D.str)) ∧ zs.length < 64 ∧ ∀ out : List Str, sortedS out = true → (∀ z, z ∈ out ↔ z ∈ zs) → out.Nodup → PD (.lst (out.map D.str))) :
    EVN K (tCB (rSortedX P w) (tCons (tCB (rSetX K P w) (tCons te tNil)) tNil)) ρ PD := fun B W H σ e Q q =>
  h B W H σ e _ fun v d H1 g1 s1 p => by
    obtain ⟨zs, hd, hz, p⟩ := p
    show rSetX K P w [v] H1 fun x H2 => rSortedX P w [x] H2 Q
    refine setX_of s1 hd (by omega) fun a ys na mem nd => ?_
    refine ⟨a, ys, rfl, upd_same, Nat.lt_of_le_of_lt (nodup_le nd fun z m => (mem z).mp m) hz, fun out b perm so nb => ?_⟩
    have nb1 : H1 b = none := by
      by_cases z : b = a
      · rw [z, upd_same] at nb
        cases nb
      · rw [upd_ne z] at nb
        exact nb
    exact q b (.lst (out.map D.str)) _ ((g1.trans (Gs.new na)).trans (Gs.new nb)) (g1.gw.free b nb1) ⟨_, upd_same, SgA.ofStrs⟩ (p out so (fun z => perm.mem_iff.trans (mem z)) (perm.nodup_iff.mpr nd))
theorem EV.sortedSet (h : EV K te ρ fun d => ∃ zs : List Str, (d = .lst (zs.map D.str) ∨ d = .tup (zs.map D.str)) ∧ zs.length < 64 ∧ ∀ out : List Str, sortedS out = true → (∀ z, z ∈ out ↔ z ∈ zs) → out.Nodup → PD (.lst (out.map D.str))) :
    EV K (tCB (rSortedX P w) (tCons (tCB (rSetX K P w) (tCons te tNil)) tNil)) ρ PD := (EVN.sortedSet h).ev
/-- len(set(xs)) of texts -/
theorem EV.lenSet (h : EV K te ρ fun d => ∃ zs : List Str, (d = .lst (zs.map D.str) ∨ d = .tup (zs.map D.str)) ∧ zs.length < 4000 ∧ ∀ ys : List Str, (∀ z, z ∈ ys ↔ z ∈ zs) → ys.Nodup → PD (.int ys.length)) :
    EV K (tCB (rLenX P w) (tCons (tCB (rSetX K P w) (tCons te tNil)) tNil)) ρ PD := fun B W H σ e Q q =>
  h B W H σ e _ fun v d H1 g1 s1 p => by
    obtain ⟨zs, hd, hz, p⟩ := p
    show rSetX K P w [v] H1 fun x H2 => rLenX P w [x] H2 Q
    exact setX_of s1 hd hz fun a ys na mem nd => ⟨a, ys, rfl, upd_same, q _ _ _ (g1.trans (Gs.new na)) (.int _) (p ys mem nd)⟩
end
end VB
namespace VB
open PySem PySem.Spec PyProof.Rows L2
section
variable {K : PySem.W.Frag} {B W : List Addr} {H : Hp} {P : D → Prop} {ρ : List En}
theorem fld_get {f : Str} {d : D} : ∀ {fs : List (Str × V)} {ks : List Str} {ds : List D}, fs.map (·.1) = ks → SgA K B H (fs.map (·.2)) ds → (ks.zip ds).lookup f = some d → ∃ v, fs.lookup f = some v ∧ Sg K B H v d
  | [], _, _, e, r, h => by
    subst e
    cases h
  | (g, v) :: fs, _, _, e, r, h => by
    subst e
    cases r with
    | @cons _ _ d0 ds0 s r =>
      rw [List.map_cons, List.zip_cons_cons, List.lookup_cons] at h
      rw [List.lookup_cons]
      cases q : f == g with
      | true =>
        simp only [q] at h ⊢
        cases h
        exact ⟨v, rfl, s⟩
      | false =>
        simp only [q] at h ⊢
        exact fld_get rfl r h
theorem fld_none {f : Str} : ∀ {fs : List (Str × V)} {ks : List Str}, fs.map (·.1) = ks → f ∉ ks → fs.lookup f = none
  | [], _, _, _ => rfl
  | (g, v) :: fs, _, e, n => by
    subst e
    rw [List.lookup_cons]
    have h1 : (f == g) = false := beq_eq_false_iff_ne.mpr fun z => n (z ▸ List.mem_cons_self ..)
    simp only [h1]
    exact fld_none rfl fun m => n (List.mem_cons_of_mem _ m)
theorem putF_new {f : Str} {v : V} : ∀ {fs : List (Str × V)}, f ∉ fs.map (·.1) → putF f v fs = fs ++ [(f, v)]
  | [], _ => rfl
  | (g, x) :: fs, n => by
    have h1 : ¬ g = f := fun z => n (z ▸ List.mem_cons_self ..)
    show (if g = f then _ else _) = _
    rw [if_neg h1, putF_new fun m => n (List.mem_cons_of_mem _ m)]
    rfl
/-- o.f -/
theorem EV.fld {te : TE} {f : Str} (h : EV K te ρ fun x => ∃ C ks ds d, x = .ins C ks ds ∧ Cls K C ∧ NoAttr K C f ∧ (ks.zip ds).lookup f = some d ∧ P d) : EV K (tFld K te f) ρ P := fun B W H σ e Q q =>
  h B W H σ e _ fun v x H1 g1 s1 p => by
    obtain ⟨C, ks, ds, d, rfl, hc, hn, hl, p⟩ := p
    cases s1 with
    | ins n h ek r =>
      obtain ⟨u, lu, su⟩ := fld_get ek r hl
      exact ⟨_, C, _, _, u, rfl, h, hc, hn, lu, q u d H1 g1 su p⟩
/-- o.m(..) -/
theorem EV.meth {ta : TE} {t : TA} {C : Addr} {m : Str} {E : XK} {α : Type} {enc : α → List D} {dom : α → Prop} {post : α → D → Prop} (h : EV K ta ρ fun x => ∃ ks ds, x = .ins C ks ds ∧ m ∉ ks ∧ EA K t ρ fun es => ∃ y, .ins C ks ds :: es = enc y ∧ (∀ b, D.raw b ∈ es → En.bag b ∈ ρ) ∧ dom y ∧ ∀ d, post y d → P d) :
    EV K (tMeth C m (spA K enc dom post) [] E ta t) ρ P := fun B W H σ e Q q =>
  h B W H σ e _ fun v x H1 g1 s1 p => by
    obtain ⟨ks, ds, rfl, nm, p⟩ := p
    have e1 := e.gs g1
    have s1' := s1
    cases s1 with
    | ins n h ek r =>
      refine ⟨_, _, _, rfl, h, fld_none ek nm, p B W H1 σ e1 _ fun vs es H2 g2 s2 p => ?_⟩
      obtain ⟨y, ey, hb, hd, p⟩ := p
      have e2 := e1.gs g2
      refine ⟨B, W, y, ?_, hd, fun u d H3 g3 s3 p3 => q u d H3 ((g1.trans g2).trans g3) s3 (p d p3)⟩
      rw [List.append_nil, ← ey]
      exact (SgA.cons (s1'.gw (e1.bw.gw g2)) s2).ens e2 fun b m => hb b ((List.mem_cons.mp m).elim (fun z => nomatch z) id)
/-- self.f = e, a field not there yet -/
theorem ST.fld {Po : Po} {tv : TE} {f : Str} {i : Nat} {C : Addr} {tg : Option Addr} {ks : List Str} {ds : List D} (hi : ρ[i]? = some (.own ⟨tg, .ins C ks ds⟩)) (hc : Cls K C) (hn : NoAttr K C f) (nf : f ∉ ks) (hz : ks.length < 1000)
    (h : EV K tv ρ fun d => ∀ ρ', ρ' = ρ.set i (.own ⟨tg, .ins C (ks ++ [f]) (ds ++ [d])⟩) → Po.nx ρ') : ST K (sFld K (tVar i) tv f) ρ Po := fun F B W H σ e fr E q1 q2 q3 q4 =>
  h B W H σ e _ fun v d H1 g1 s1 p => by
    have e1 := e.gs g1
    obtain ⟨a, ea, aB, aW, _, dx, fs, ha, ek, r⟩ := e1.sl i _ hi
    have fl : fs.length = ks.length := by
      rw [← ek, List.length_map]
    refine ⟨_, ea, a, C, dx, fs, rfl, ha, hc, hn, by omega, ?_⟩
    rw [putF_new (by rw [ek]; exact nf)]
    have aK : H1 a ≠ none := by
      rw [ha]
      exact fun z => nomatch z
    have e2 : EnvOk K B W (upd H1 a (.ins C dx (fs ++ [(f, v)]))) σ (ρ.set i (.own ⟨tg, .ins C (ks ++ [f]) (ds ++ [d])⟩)) := e1.upO hi ea
      ⟨dx, fs ++ [(f, v)], upd_same, by rw [List.map_append, ek]; rfl, by
        rw [List.map_append]
        exact (r.append (.cons s1 .nil)).gw (Gw.wr aB ⟨_, ha, fun _ z => nomatch z⟩)⟩
    have os : ∀ x, Own σ (ρ.set i (.own ⟨tg, .ins C (ks ++ [f]) (ds ++ [d])⟩)) x → Own σ ρ x := fun x ⟨j, dj, h1, h2⟩ => by
      by_cases z : i = j
      · subst z
        exact ⟨i, _, hi, h2⟩
      · rw [List.getElem?_set_ne z] at h1
        exact ⟨j, dj, h1, h2⟩
    obtain ⟨B2, e3, f3⟩ := e2.fix (F := F) fr.fb (fun x m o => fr.no x m (os x o)) fr.wf
    refine q1 _ _ _ B2 ⟨fun x o nw nu ex => ?_, fun x z => ?_, fun b m c ns nc nu hb => ?_, fun x o => .inl (os x o), fun x ys ex => ?_⟩ e3 f3 (p _ rfl)
    · rw [upd_ne (fun z => nu (by rw [z]; exact ⟨i, _, hi, ea⟩))]
      exact g1.gw.keep x o nw ex
    · by_cases hne : x = a
      · rw [hne, upd_same] at z
        cases z
      · rw [upd_ne hne] at z
        exact g1.gw.free x z
    · exact (g1.bag b m c ns nc hb).wr (fun z => aW (z ▸ m)) fun z => nu (z ▸ ⟨i, _, hi, ea⟩)
    · exact (Gw.wr (List.mem_singleton_self a) ⟨_, ha, fun _ z => nomatch z⟩).tups x ys (g1.gw.tups x ys ex)
end
def tNever : TS := fun _ _ _ => False
theorem ST.never {K : PySem.W.Frag} {ρ : List En} {P : Po} (h : False) : ST K tNever ρ P := h.elim
end VB
namespace VB
open PySem PySem.Spec PyProof.Rows L2
def sysOk (K : PySem.W.Frag) : Bool := match K.lookup sysModules with
  | some o => decide (o.cls = .type "dict")
  | none => false
theorem sysOk_at {K : PySem.W.Frag} (h : sysOk K = true) : ∃ o, K.lookup sysModules = some o ∧ o.cls = .type "dict" := by
  unfold sysOk at h
  cases e : K.lookup sysModules with
  | none =>
    rw [e] at h
    cases h
  | some o =>
    rw [e] at h
    exact ⟨o, rfl, of_decide_eq_true h⟩
mutual
inductive Dq (K : PySem.W.Frag) (H : Hp) : V → PyData → Prop
  | non : Dq K H .non .none
  | bl (b : Bool) : Dq K H (.bl b) (.bool b)
  | int (i : Int) : Dq K H (.int i) (.int i)
  | str (x : Str) : Dq K H (.str x) (.str x)
  | lst {a : Addr} {xs : List V} {ds : List PyData} : SqL K H a xs → DqA K H xs ds → Dq K H (.ref a) (.list ds)
  | tup {a : Addr} {xs : List V} {ds : List PyData} : SqT K H a xs → DqA K H xs ds → Dq K H (.ref a) (.tuple ds)
  | dic {a : Addr} {kvs : List (Key × V)} {ks : List Key} {es : List PyData} : Rd H a (.dK kvs) → kvs.map (·.1) = ks → DqA K H (kvs.map (·.2)) es → Dq K H (.ref a) (.dict ((ks.map kD).zip es))
inductive DqA (K : PySem.W.Frag) (H : Hp) : List V → List PyData → Prop
  | nil : DqA K H [] []
  | cons {v : V} {vs : List V} {d : PyData} {ds : List PyData} : Dq K H v d → DqA K H vs ds → DqA K H (v :: vs) (d :: ds)
end
theorem DqA.length {K : PySem.W.Frag} {H : Hp} : ∀ {vs : List V} {ds : List PyData}, DqA K H vs ds → vs.length = ds.length
  | _, _, .nil => rfl
  | _, _, .cons _ r => congrArg (· + 1) (DqA.length r)
theorem reads_keys {h : Heap} {P : Program} {w : World} : ∀ {es : List DictEntry} {vs : List (Key × Value)}, Pairs (mixKind P w) es vs → ReadsAll h (es.map (·.key)) ((vs.map (·.1)).map kD) []
  | _, _, .nil => ReadsAll.nil
  | _, _, @Pairs.cons _ _ _ _ _ e kv es kvs h1 _ r => by
    have one : Reads h e.key (kD kv.1) [] := by
      rcases keyIs_shape h1 with ⟨i, t, e1, e2⟩ | ⟨x, t, e1, e2⟩
      · rw [e1, e2]
        exact Reads.int i t
      · rw [e1, e2]
        exact Reads.str x t
    exact ReadsAll.cons one (reads_keys r)
theorem pairs_vals {P : Program} {w : World} : ∀ {es : List DictEntry} {vs : List (Key × Value)}, Pairs (mixKind P w) es vs → es.map (·.val) = vs.map (·.2)
  | _, _, .nil => rfl
  | _, _, .cons _ h2 r => by
    rw [List.map_cons, List.map_cons, h2, pairs_vals r]
theorem kv_split : ∀ {kvs : List (Key × V)} {vs : List (Key × Value)}, KV kvs vs → kvs.map (·.1) = vs.map (·.1) ∧ Vals (kvs.map (·.2)) (vs.map (·.2)) := by
  intro kvs vs r
  unfold KV at r
  induction r with
  | nil => exact ⟨rfl, .nil⟩
  | @cons p q ps qs h t ih =>
    refine ⟨?_, .cons h.2 ih.2⟩
    rw [List.map_cons, List.map_cons, ih.1, h.1]
section
variable {X : Cx} {pins : List (Addr × Obj)} {σ : L2.St} {H : Hp} {s : Shared}
theorem no_sys (I : Inv X pins σ H s) (hs : sysOk X.K = true) {a : Addr} {o : Obj} (e : s.heap.get? a = some o) (c : o.cls ≠ .type "dict") : a ≠ sysModules := by
  rintro rfl
  obtain ⟨o', e1, e2⟩ := sysOk_at hs
  have := I.kIn _ _ e1
  rw [e] at this
  cases this
  exact c e2
mutual
theorem Dq.reads (I : Inv X pins σ H s) (hs : sysOk X.K = true) : ∀ {v : V} {d : PyData}, Dq X.K H v d → ∀ u, RelV v u → ∃ as, Reads s.heap u d as ∧ sysModules ∉ as
  | _, _, .non, _, r => by
    cases r
    exact ⟨_, Reads.none, by simp⟩
  | _, _, .bl b, _, r => by
    cases r
    exact ⟨_, Reads.bool b, by simp⟩
  | _, _, .int i, _, r => by
    obtain ⟨t, rfl⟩ := r
    exact ⟨_, Reads.int i t, by simp⟩
  | _, _, .str x, _, r => by
    obtain ⟨t, rfl⟩ := r
    exact ⟨_, Reads.str x t, by simp⟩
  | _, _, .lst hl ha, _, r => by
    cases r
    obtain ⟨its, rv, ⟨o, n, ho, hc, _, hd⟩, _⟩ := I.list hl
    obtain ⟨as, hr, na⟩ := DqA.reads I hs ha _ rv
    refine ⟨_, Reads.list ho hc hd hr, fun m => ?_⟩
    rcases List.mem_cons.mp m with m | m
    · exact no_sys I hs ho (by rw [hc]; decide) m.symm
    · exact na m
  | _, _, .tup hl ha, _, r => by
    cases r
    obtain ⟨its, rv, ⟨o, ho, hc, n, hd⟩, _⟩ := I.tuple hl
    obtain ⟨as, hr, na⟩ := DqA.reads I hs ha _ rv
    exact ⟨_, Reads.tuple ho hc hd hr, na⟩
  | _, _, .dic (kvs := kvs) (es := ds) hl ek ha, _, r => by
    cases r
    obtain ⟨_, hn, vs, kv, o, es, ep, ho, hx, hd, _, hp, _⟩ := dk_rd I.hok hl
    obtain ⟨k1, k2⟩ := kv_split kv
    obtain ⟨as, hr, na⟩ := DqA.reads I hs ha _ k2
    have len := ha.length
    rw [List.length_map] at len
    subst ek
    have zl : ((kvs.map (·.1)).map kD).length = ds.length := by
      rw [List.length_map, List.length_map]
      exact len
    have e1 : (((kvs.map (·.1)).map kD).zip ds).map (·.1) = (kvs.map (·.1)).map kD := List.map_fst_zip (Nat.le_of_eq zl)
    have e2 : (((kvs.map (·.1)).map kD).zip ds).map (·.2) = ds := List.map_snd_zip (Nat.le_of_eq zl.symm)
    refine ⟨_, Reads.dict (as := []) (bs := as) ho hx.1 hd ?_ ?_, fun m => ?_⟩
    · rw [e1, k1]
      exact reads_keys hp
    · rw [e2, pairs_vals hp]
      exact hr
    · rcases List.mem_append.mp m with m | m
      · rw [← List.mem_singleton.mp m] at hn
        simp at hn
      · exact na m
theorem DqA.reads (I : Inv X pins σ H s) (hs : sysOk X.K = true) : ∀ {vs : List V} {ds : List PyData}, DqA X.K H vs ds → ∀ us, Vals vs us → ∃ as, ReadsAll s.heap us ds as ∧ sysModules ∉ as
  | _, _, .nil, _, r => by
    cases r
    exact ⟨_, ReadsAll.nil, by simp⟩
  | _, _, .cons h1 h2, _, r => by
    cases r with
    | cons r1 r2 =>
      obtain ⟨as, q1, n1⟩ := Dq.reads I hs h1 _ r1
      obtain ⟨bs, q2, n2⟩ := DqA.reads I hs h2 _ r2
      exact ⟨_, ReadsAll.cons q1 q2, fun m => (List.mem_append.mp m).elim n1 n2⟩
end
end
def rReprX (K : PySem.W.Frag) : List V → Hp → VK → Prop := fun vs H Q => ∃ (x : V) (d : PyData), vs = [x] ∧ Dq K H x d ∧ d.showable = true ∧ d.depth ≤ 60 ∧ d.shown.length ≤ sizeLine ∧ Q (.str d.shown) H
theorem call_reprX {X : Cx} {K : PySem.W.Frag} (hK : X.K = K) (hs : sysOk K = true) (hg : X.A.guards = some []) (hu : X.A.units + 64 < cLine) : CallR X (.builtin "repr") (rReprX K) := by
  subst hK
  intro pins s σ H xs us Q I r h
  obtain ⟨x, d, rfl, hd, h1, h3, h4, q⟩ := h
  cases r with
  | cons r0 rn =>
    cases rn
    obtain ⟨as, hr, na⟩ := Dq.reads I hs hd _ r0
    have leaf : ∀ {h' : Heap} {tk : Nat} {t : Tok}, (∀ b o, s.heap.get? b = some o → h'.get? b = some o) → EP X pins σ Q (.str d.shown t) { s with heap := h', toks := tk } :=
      fun hk => ⟨.str d.shown, H, I.kept hk, ⟨_, rfl⟩, q⟩
    cases hd with
    | non => cases r0; exact P.repr_of_none (leaf fun _ _ e => e)
    | bl b => cases r0; exact P.repr_of_bool (leaf fun _ _ e => e)
    | int i => obtain ⟨_, rfl⟩ := r0; exact P.repr_of_int (by simpa [PyData.showable] using h1) (leaf fun _ _ e => e)
    | str z => obtain ⟨_, rfl⟩ := r0; exact P.repr_of_str (leaf fun _ _ e => e) (hsz := h4)
    | lst hs ha => cases r0; exact repr_of_reads' hr h1 (fun _ => na) hg (by omega) (fun _ _ e => e) (fun h' u tk hk => leaf hk) h4
    | tup hs ha => cases r0; exact repr_of_reads' hr h1 (fun _ => na) hg (by omega) (fun _ _ e => e) (fun h' u tk hk => leaf hk) h4
    | dic hs ek ha => cases r0; exact repr_of_reads' hr h1 (fun _ => na) hg (by omega) (fun _ _ e => e) (fun h' u tk hk => leaf hk) h4
mutual
/-- plain data: no own objects -/
def D.pl : D → Bool
  | .tup ds => D.plA ds
  | .lst ds => D.plA ds
  | .dic _ ds => D.plA ds
  | .ty _ => false
  | .raw _ => false
  | .ins _ _ _ => false
  | .dit _ _ => false
  | .din _ _ _ _ => false
  | .etup => false
  | _ => true
def D.plA : List D → Bool
  | [] => true
  | d :: ds => D.pl d && D.plA ds
end
section
variable {K : PySem.W.Frag} {B : List Addr} {H : Hp}
mutual
theorem Sg.dq : ∀ {v : V} {d : D}, Sg K B H v d → d.pl = true → Dq K H v d.py
  | _, _, .non, _ => .non
  | _, _, .bl b, _ => .bl b
  | _, _, .int i, _ => .int i
  | _, _, .str x, _ => .str x
  | _, _, .ty n, p => by simp [D.pl] at p
  | _, _, .raw a, p => by simp [D.pl] at p
  | _, _, .ins _ _ _ _, p => by simp [D.pl] at p
  | _, _, .tup n h r, p => by
    unfold D.py
    exact .tup (Or.inl (Rd.of h)) (SgA.dq r (by simpa [D.pl] using p))
  | _, _, .etup _, p => by simp [D.pl] at p
  | _, _, .dit _ _ _ _, p => by simp [D.pl] at p
  | _, _, .din _ _ _ _ _, p => by simp [D.pl] at p
  | _, _, .lst n h r, p => by
    unfold D.py
    exact .lst (SqL.of h) (SgA.dq r (by simpa [D.pl] using p))
  | _, _, .dic n h e r, p => by
    unfold D.py
    exact .dic h e (SgA.dq r (by simpa [D.pl] using p))
theorem SgA.dq : ∀ {vs : List V} {ds : List D}, SgA K B H vs ds → D.plA ds = true → DqA K H vs (D.pyA ds)
  | _, _, .nil, _ => .nil
  | _, _, .cons h r, p => by
    have q := Bool.and_eq_true_iff.mp (show (_ && _) = true from p)
    exact .cons (Sg.dq h q.1) (SgA.dq r q.2)
end
end
theorem tup_mulS (l : Addr) (items : Array Value) (n : Nat) (dd : Option Addr) (sl : Array (Option Value)) (x : Int) (u : Tok) (c0 : (decide (x < -(2 ^ 63)) || decide (x ≥ 2 ^ 63)) = false) (c1 : (items.isEmpty || x == 1) = true) :
    Meets (Builtin.«tuple.__mul__» ⟨[.ref l, .int x u], []⟩) (fun _ R s => s.heap.get? l = some { cls := .type "tuple", dict := dd, data := .seq items n, slots := sl } ∧ R (.ok (.ret (Value.ref l))) s) :=
  .of_wp fun prog w A R s h => by
    obtain ⟨hp, g, d, tk, os⟩ := s
    obtain ⟨hl, h⟩ := h
    have f1 := AutoSeq1.idx_int
    wp_walk using wpAny_loadPart' hl
    repeat (first
      | (refine wpAny_ite_false (decide_eq_false (by rw [c0]; exact Bool.false_ne_true)) ?_; wp_walk using wpAny_loadPart' hl)
      | (refine wpAny_ite_true (decide_eq_true (by rw [c1])) ?_; wp_walk using wpAny_loadPart' hl))
    exact ⟨_, rfl, h⟩
theorem tup_mulZ (l : Addr) (items : Array Value) (n : Nat) (dd : Option Addr) (sl : Array (Option Value)) (x : Int) (u : Tok) (c0 : (decide (x < -(2 ^ 63)) || decide (x ≥ 2 ^ 63)) = false) (c1 : (items.isEmpty || x == 1) = false) (c2 : (decide (x ≤ 0) || items.isEmpty) = true) :
    Meets (Builtin.«tuple.__mul__» ⟨[.ref l, .int x u], []⟩) (fun _ R s => s.heap.get? l = some { cls := .type "tuple", dict := dd, data := .seq items n, slots := sl } ∧
      R (.ok (.ret (Value.ref s.heap.objs.size))) { s with heap := s.heap.push { cls := Value.type "tuple", data := Data.seq #[] }, toks := s.toks }) :=
  .of_wp fun prog w A R s h => by
    obtain ⟨hp, g, d, tk, os⟩ := s
    obtain ⟨hl, h⟩ := h
    have f1 := AutoSeq1.idx_int
    wp_walk using wpAny_loadPart' hl
    repeat (first
      | (refine wpAny_ite_false (decide_eq_false (by rw [c0]; exact Bool.false_ne_true)) ?_; wp_walk using wpAny_loadPart' hl)
      | (refine wpAny_ite_false (decide_eq_false (by rw [c1]; exact Bool.false_ne_true)) ?_; wp_walk using wpAny_loadPart' hl)
      | (refine wpAny_ite_true (decide_eq_true (by rw [c2])) ?_; wp_walk using wpAny_loadPart' hl))
    exact ⟨_, rfl, h⟩
def rRepA (K : PySem.W.Frag) : R2 := fun x y H Q => ∃ l k xs, x = .ref l ∧ y = .int k ∧ SqT K H l xs ∧ xs ≠ [] ∧ 0 ≤ k ∧ k ≤ 1000 ∧ xs.length ≤ 1000 ∧ (k = 1 → Q (.ref l) H) ∧ (k ≠ 1 → ∀ p, H p = none → Q (.ref p) (upd H p (.tup (List.replicate k.toNat xs).flatten)))
theorem op_repA {X : Cx} {K : PySem.W.Frag} (hK : X.K = K) : OpR X (binaryOp .Mult) (rRepA K) := by
  subst hK
  intro pins s σ H x y v u Q I rx ry h
  obtain ⟨l, k, xs, rfl, rfl, hT, hne, h1, h2, hz, q1, q2⟩ := h
  by_cases hk : 2 ≤ k
  · exact op_repT pins s σ H _ _ v u Q I rx ry ⟨l, k, xs, rfl, rfl, hT, hne, hk, h2, hz, q2 (by omega)⟩
  · cases rx
    obtain ⟨t, rfl⟩ := ry
    obtain ⟨its, r, ⟨⟨cls, dd, data, sl⟩, ho, hc, n, hd⟩, hs⟩ := I.tuple hT
    simp only at hc hd
    subst hc hd
    have hle : its.length = xs.length := r.length.symm
    have hn : its ≠ [] := fun e => hne (List.eq_nil_of_length_eq_zero (by rw [← hle, e]; rfl))
    have hi : its.toArray.isEmpty = false := by
      cases its with
      | nil => exact absurd rfl hn
      | cons a b => rfl
    have c0 : (decide (k < -(2 ^ 63)) || decide (k ≥ 2 ^ 63)) = false := by
      rw [decide_eq_false (by omega), decide_eq_false (by omega)]
      rfl
    have go : ∀ {R : Prop}, R → R := fun r => r
    by_cases h1k : k = 1
    · have c1 : (its.toArray.isEmpty || k == 1) = true := by
        rw [h1k, hi]
        rfl
      refine wpAny_binaryOp_repeat_ref (T := "tuple") (U := "int") (by decide) ⟨_, ho, rfl⟩ (fun s' => typeIs_int s' k t) noFill_tuple_mul F.fills_int_mul F.slot_int_rmul repeat_tuple F.slot_int_index.lookup
        (call_meets F.slot_int_rmul (typeIs_int s k t) F.entry_int_rmul (F.args_int_rmul_2 _ _) (int_rmul_tuple k t l its.toArray n dd sl)
          ⟨ho, rfl, ⟨_, ho, rfl⟩, call_meets F.slot_tuple_mul ⟨_, ho, rfl⟩ F.entry_tuple_mul (F.args_tuple_mul_2 _ _) (tup_mulS l its.toArray n dd sl k t c0 c1) ⟨ho, ?_⟩⟩)
      exact ⟨.ref l, H, I, rfl, q1 h1k⟩
    · have k0 : k = 0 := by omega
      have c1 : (its.toArray.isEmpty || k == 1) = false := by
        rw [k0, hi]
        rfl
      have c2 : (decide (k ≤ 0) || its.toArray.isEmpty) = true := by
        rw [k0]
        rfl
      refine wpAny_binaryOp_repeat_ref (T := "tuple") (U := "int") (by decide) ⟨_, ho, rfl⟩ (fun s' => typeIs_int s' k t) noFill_tuple_mul F.fills_int_mul F.slot_int_rmul repeat_tuple F.slot_int_index.lookup
        (call_meets F.slot_int_rmul (typeIs_int s k t) F.entry_int_rmul (F.args_int_rmul_2 _ _) (int_rmul_tuple k t l its.toArray n dd sl)
          ⟨ho, rfl, ⟨_, ho, rfl⟩, call_meets F.slot_tuple_mul ⟨_, ho, rfl⟩ F.entry_tuple_mul (F.args_tuple_mul_2 _ _) (tup_mulZ l its.toArray n dd sl k t c0 c1 c2) ⟨ho, ?_⟩⟩)
      have qq := q2 h1k
      rw [k0] at qq
      refine ⟨.ref s.heap.objs.size, _, I.laid (t' := s.toks) (o := .tup []) (fun b ob q => Heap.get?_push_of_some _ q) (Nat.le_refl _) ?_, rfl, qq _ (I.hok.fresh (Nat.le_refl _))⟩
      exact ⟨Nat.zero_le _, [], .nil, IsTup.new _ _⟩
theorem SgA.rep {K : PySem.W.Frag} {B : List Addr} {H : Hp} {xs : List V} {ds : List D} (r : SgA K B H xs ds) : ∀ n : Nat, SgA K B H (List.replicate n xs).flatten (List.replicate n ds).flatten
  | 0 => .nil
  | n + 1 => by
    rw [List.replicate_succ, List.replicate_succ, List.flatten_cons, List.flatten_cons]
    exact r.append (SgA.rep r n)
def rEqNil : R2 := fun x y H Q => ∃ a b xs, x = .ref a ∧ y = .ref b ∧ H a = some (.lst xs) ∧ H b = some (.lst []) ∧ Q (.bl xs.isEmpty) H
theorem op_eqNil {X : Cx} (hu : X.A.units + 64 < cLine) : OpR X (compareOp .Eq) rEqNil := by
  intro pins s σ H x y v u Q I rx ry h
  obtain ⟨a, b, xs, rfl, rfl, h1, h2, q⟩ := h
  cases rx
  cases ry
  cases xs with
  | nil =>
    refine op_eqD hu pins s σ H (.ref a) (.ref b) _ _ Q I rfl rfl ⟨.list [], .list [], .lst (SqL.of h1) .nil, .lst (SqL.of h2) .nil, by decide +kernel, by decide +kernel, q⟩
  | cons x r =>
    obtain ⟨z, its, n, r1, hl, e⟩ := I.lstM h1
    obtain ⟨z2, its2, n2, r2, hl2, e2⟩ := I.lstM h2
    refine P.eq_list_lengths e e2 ?_ (by omega) ⟨.bl false, H, I, rfl, q⟩
    rw [List.size_toArray, List.size_toArray, ← hl, ← hl2]
    simp
end VB
namespace VB
open PySem PySem.Spec PyProof.Rows L2
def Sm (z : Str) : Prop := ∀ c ∈ z.cps.toList, c < 65536
def smB (z : Str) : Bool := decide (z.length ≤ 5000) && z.cps.toList.all fun c => decide (c < 65536)
def kft : Key → Bool
  | .inl i => decide (i.natAbs < 10 ^ 45)
  | .inr z => smB z
mutual
def D.ft : D → Bool
  | .non => true
  | .bl _ => true
  | .int i => decide (i.natAbs < 10 ^ 45)
  | .str z => smB z
  | .tup ds => decide (ds.length ≤ 100000) && D.ftA ds
  | .lst ds => D.ftA ds
  | .dic ks ds => ks.all kft && D.ftA ds
  | .ty _ => false
  | .raw _ => false
  | .ins _ _ _ => false
  | .dit _ _ => false
  | .din _ _ _ _ => false
  | .etup => false
def D.ftA : List D → Bool
  | [] => true
  | d :: ds => D.ft d && D.ftA ds
end
theorem smB_iff {z : Str} : smB z = true ↔ z.length ≤ 5000 ∧ Sm z := by
  unfold smB Sm
  rw [Bool.and_eq_true_iff, decide_eq_true_iff, List.all_eq_true]
  constructor
  · rintro ⟨h1, h2⟩
    exact ⟨h1, fun c m => of_decide_eq_true (h2 c m)⟩
  · rintro ⟨h1, h2⟩
    exact ⟨h1, fun c m => decide_eq_true (h2 c m)⟩
theorem int_short {i : Int} (h : i.natAbs < 10 ^ 45) : (PyData.shown (.int i)).length ≤ 60 := by
  have e := PySem.int_text_length_le10 (k := 45) (by decide) h
  show (Str.ofString (toString i)).length ≤ 60
  rw [PySem.ofString_length]
  omega
theorem nat_log {n : Nat} (h : n < 10 ^ 45) : n.log2 < 150 := by
  by_cases h0 : n = 0
  · rw [h0]
    decide
  · rw [Nat.log2_lt h0]
    exact Nat.lt_of_lt_of_le h (by decide +kernel)
theorem sm_short {z : Str} (h : Sm z) : (PyData.str z).leavesShort 60 = true := by
  show (z.cps.toList.all fun c => decide (c < 16 ^ 8)) = true
  rw [List.all_eq_true]
  intro c m
  exact decide_eq_true (Nat.lt_trans (h c m) (by decide))
theorem kD_ok {k : Key} (h : kft k = true) : (kD k).showable = true ∧ (kD k).leavesShort 60 = true := by
  cases k with
  | inl i =>
    have hi : i.natAbs < 10 ^ 45 := of_decide_eq_true h
    exact ⟨decide_eq_true (Nat.lt_trans (nat_log hi) (by decide)), decide_eq_true (int_short hi)⟩
  | inr z => exact ⟨rfl, sm_short (smB_iff.mp h).2⟩
mutual
theorem D.ft_ok : ∀ {d : D}, d.ft = true → d.sz = true ∧ d.pl = true ∧ d.py.showable = true ∧ d.py.leavesShort 60 = true
  | .non, _ => ⟨rfl, rfl, rfl, rfl⟩
  | .bl _, _ => ⟨rfl, rfl, rfl, rfl⟩
  | .int i, h => by
    have hi : i.natAbs < 10 ^ 45 := of_decide_eq_true h
    exact ⟨rfl, rfl, decide_eq_true (Nat.lt_trans (nat_log hi) (by decide)), decide_eq_true (int_short hi)⟩
  | .str z, h => by
    obtain ⟨h1, h2⟩ := smB_iff.mp (show smB z = true from h)
    exact ⟨decide_eq_true (by omega), rfl, rfl, sm_short h2⟩
  | .tup ds, h => by
    obtain ⟨h1, h2⟩ := Bool.and_eq_true_iff.mp (show (decide (ds.length ≤ 100000) && D.ftA ds) = true from h)
    obtain ⟨a, b, c, e⟩ := D.ftA_ok h2
    have h1 := of_decide_eq_true h1
    refine ⟨?_, b, c, e⟩
    show (decide (ds.length ≤ 16777000) && D.szA ds) = true
    rw [a, decide_eq_true (by omega)]
    rfl
  | .lst ds, h => D.ftA_ok (show D.ftA ds = true from h)
  | .dic ks ds, h => by
    obtain ⟨h1, h2⟩ := Bool.and_eq_true_iff.mp (show (ks.all kft && D.ftA ds) = true from h)
    obtain ⟨a, b, c, e⟩ := D.ftA_ok h2
    have go : ∀ (ks : List Key) (es : List PyData), ks.all kft = true → PyData.showableAll es = true → PyData.leavesShortAll 60 es = true → PyData.showableKv ((ks.map kD).zip es) = true ∧ PyData.leavesShortKv 60 ((ks.map kD).zip es) = true := by
      intro ks
      induction ks with
      | nil => exact fun _ _ _ _ => ⟨rfl, rfl⟩
      | cons k r ih =>
        intro es hk hs hl
        cases es with
        | nil => exact ⟨rfl, rfl⟩
        | cons y q =>
          rw [List.all_cons] at hk
          obtain ⟨k1, k2⟩ := Bool.and_eq_true_iff.mp hk
          obtain ⟨s1, s2⟩ := Bool.and_eq_true_iff.mp (show (PyData.showable y && PyData.showableAll q) = true from hs)
          obtain ⟨l1, l2⟩ := Bool.and_eq_true_iff.mp (show (PyData.leavesShort 60 y && PyData.leavesShortAll 60 q) = true from hl)
          obtain ⟨i1, i2⟩ := ih q k2 s2 l2
          obtain ⟨q1, q2⟩ := kD_ok k1
          constructor
          · show (PyData.showable (kD k) && PyData.showable y && PyData.showableKv ((r.map kD).zip q)) = true
            rw [q1, s1, i1]
            rfl
          · show (PyData.leavesShort 60 (kD k) && PyData.leavesShort 60 y && PyData.leavesShortKv 60 ((r.map kD).zip q)) = true
            rw [q2, l1, i2]
            rfl
    obtain ⟨g1, g2⟩ := go ks (D.pyA ds) h1 c e
    exact ⟨a, b, g1, g2⟩
  | .ty _, h => by cases h
  | .raw _, h => by cases h
  | .ins _ _ _, h => by cases h
theorem D.ftA_ok : ∀ {ds : List D}, D.ftA ds = true → D.szA ds = true ∧ D.plA ds = true ∧ PyData.showableAll (D.pyA ds) = true ∧ PyData.leavesShortAll 60 (D.pyA ds) = true
  | [], _ => ⟨rfl, rfl, rfl, rfl⟩
  | d :: ds, h => by
    obtain ⟨h1, h2⟩ := Bool.and_eq_true_iff.mp (show (D.ft d && D.ftA ds) = true from h)
    obtain ⟨a1, b1, c1, e1⟩ := D.ft_ok h1
    obtain ⟨a2, b2, c2, e2⟩ := D.ftA_ok h2
    refine ⟨?_, ?_, ?_, ?_⟩
    · show (_ && _) = true
      rw [a1, a2]
      rfl
    · show (_ && _) = true
      rw [b1, b2]
      rfl
    · show (PyData.showable _ && PyData.showableAll _) = true
      rw [c1, c2]
      rfl
    · show (PyData.leavesShort _ _ && PyData.leavesShortAll _ _) = true
      rw [e1, e2]
      rfl
end
structure Fit (w k : Nat) (d : D) : Prop where
  ft : d.ft = true
  wt : d.py.weight ≤ w
  dp : d.py.depth ≤ k
theorem Fit.mono {w k w' k' : Nat} {d : D} (h : Fit w k d) (hw : w ≤ w') (hk : k ≤ k') : Fit w' k' d := ⟨h.ft, Nat.le_trans h.wt hw, Nat.le_trans h.dp hk⟩
theorem fitA {w k : Nat} : ∀ {ds : List D}, (∀ d ∈ ds, Fit w k d) → D.ftA ds = true ∧ PyData.weightAll (D.pyA ds) ≤ ds.length * (w + 1) ∧ PyData.depthAll (D.pyA ds) ≤ k
  | [], _ => ⟨rfl, Nat.zero_le _, Nat.zero_le _⟩
  | d :: ds, h => by
    have h1 := h d (List.mem_cons_self ..)
    obtain ⟨a, b, c⟩ := fitA (ds := ds) fun x m => h x (List.mem_cons_of_mem _ m)
    refine ⟨?_, ?_, ?_⟩
    · show (_ && _) = true
      rw [h1.ft, a]
      rfl
    · show PyData.weight _ + 1 + PyData.weightAll _ ≤ (ds.length + 1) * (w + 1)
      have := h1.wt
      rw [Nat.succ_mul]
      omega
    · show max (PyData.depth _) (PyData.depthAll _) ≤ k
      have := h1.dp
      omega
theorem Fit.tup {w k l : Nat} {ds : List D} (h : ∀ d ∈ ds, Fit w k d) (hl : ds.length ≤ l) (hs : l ≤ 100000) : Fit (l * (w + 1)) (k + 1) (.tup ds) := by
  obtain ⟨a, b, c⟩ := fitA h
  refine ⟨?_, Nat.le_trans b (Nat.mul_le_mul_right _ hl), Nat.succ_le_succ c⟩
  show (decide (ds.length ≤ 100000) && D.ftA ds) = true
  rw [a, decide_eq_true (by omega)]
  rfl
theorem Fit.lst {w k l : Nat} {ds : List D} (h : ∀ d ∈ ds, Fit w k d) (hl : ds.length ≤ l) : Fit (l * (w + 1)) (k + 1) (.lst ds) := by
  obtain ⟨a, b, c⟩ := fitA h
  exact ⟨a, Nat.le_trans b (Nat.mul_le_mul_right _ hl), Nat.succ_le_succ c⟩
theorem Fit.str {n : Nat} {z : Str} (h : z.length ≤ n) (hn : n ≤ 5000) (s : Sm z) : Fit n 0 (.str z) := ⟨smB_iff.mpr ⟨Nat.le_trans h hn, s⟩, h, Nat.le_refl _⟩
theorem Fit.int {i : Int} (h : i.natAbs < 10 ^ 45) : Fit 150 0 (.int i) := by
  refine ⟨decide_eq_true h, ?_, Nat.le_refl _⟩
  show (if (i == 0) = true then 0 else i.natAbs.log2 + 1) ≤ 150
  have := nat_log h
  split <;> omega
theorem Fit.sz {w k : Nat} {d : D} (h : Fit w k d) : d.sz = true := (D.ft_ok h.ft).1
theorem Fit.rp {d : D} (h : Fit 200000 20 d) : d.pl = true ∧ d.py.showable = true ∧ d.py.depth ≤ 60 ∧ d.py.shown.length ≤ sizeLine := by
  obtain ⟨_, b, c, e⟩ := D.ft_ok h.ft
  refine ⟨b, c, Nat.le_trans h.dp (by decide), ?_⟩
  have := PyData.shown_le 60 (by decide) _ e
  have := h.wt
  rw [sizeLine_eq]
  omega
theorem Sm.app {x y : Str} (h : Sm x) (k : Sm y) : Sm (x ++ y) := fun c m => by
  rw [Str.cps_append, Array.toList_append, List.mem_append] at m
  exact m.elim (h c) (k c)
theorem Sm.cut {x : Str} (h : Sm x) (lo hi : Option Int) : Sm (cutS x lo hi) := fun c m => by
  unfold cutS at m
  exact h c (List.mem_of_mem_drop (List.mem_of_mem_take (by simpa using m)))
theorem Lw.sm {x : Str} (h : Lw x) : Sm x := fun c m => by
  have : ∀ c ∈ LET.cps.toList, c < 65536 := by decide +kernel
  exact this c (h c m)
end VB
namespace VB
open PySem PySem.Spec PyProof.Rows L2
inductive M (α : Type) where
  | ret (a : α) | fail | exc (e : D) | draw (n : Int) (k : Int → M α)
namespace M
variable {α β γ : Type}
def bind : M α → (α → M β) → M β
  | .ret a, f => f a
  | .fail, _ => .fail
  | .exc e, _ => .exc e
  | .draw n k, f => .draw n fun r => (k r).bind f
theorem ret_bind (a : α) (f : α → M β) : (M.ret a).bind f = f a := rfl
theorem assoc (m : M α) (f : α → M β) (g : β → M γ) : (m.bind f).bind g = m.bind fun a => (f a).bind g := by
  induction m with
  | ret a => rfl
  | fail => rfl
  | exc e => rfl
  | draw n k ih =>
    show M.draw n _ = M.draw n _
    congr 1
    funext r
    exact ih r
end M
def wp {α : Type} : M α → (α → Prop) → Prop
  | .ret a, P => P a
  | .fail, _ => False
  | .exc _, _ => False
  | .draw n k, P => 0 < n ∧ ∀ r, 0 ≤ r → r < n → wp (k r) P
section
variable {α β : Type}
theorem wp_mono {P P' : α → Prop} : ∀ {m : M α}, wp m P → (∀ a, P a → P' a) → wp m P'
  | .ret _, h, k => k _ h
  | .fail, h, _ => h.elim
  | .exc _, h, _ => h.elim
  | .draw _ _, h, k => ⟨h.1, fun r h0 h1 => wp_mono (h.2 r h0 h1) k⟩
theorem wp_bind {f : α → M β} {P : β → Prop} : ∀ {m : M α}, wp (m.bind f) P ↔ wp m fun a => wp (f a) P
  | .ret _ => Iff.rfl
  | .fail => Iff.rfl
  | .exc _ => Iff.rfl
  | .draw _ _ => ⟨fun h => ⟨h.1, fun r h0 h1 => wp_bind.mp (h.2 r h0 h1)⟩, fun h => ⟨h.1, fun r h0 h1 => wp_bind.mpr (h.2 r h0 h1)⟩⟩
theorem wp_bind_of {f : α → M β} {P : β → Prop} {Q : α → Prop} {m : M α} (h : wp m Q) (k : ∀ a, Q a → wp (f a) P) : wp (m.bind f) P := wp_bind.mpr (wp_mono h k)
theorem wp_false : ∀ {m : M α}, wp m (fun _ => False) → False
  | .ret _, h => h
  | .fail, h => h
  | .exc _, h => h
  | .draw _ _, h => wp_false (h.2 0 (Int.le_refl _) h.1)
end
/-- what is read: the root may be a place left out -/
def ER (K : PySem.W.Frag) (te : TE) (ρ : List En) (P : D → Prop) : Prop := ∀ (B W : List Addr) (H : Hp) (σ : L2.St), EnvOk K B W H σ ρ → ∀ Q : VK, (∀ v d H', Gs W H H' → Sr K B W H' v d → P d → Q v H') → te σ H Q
inductive SrA (K : PySem.W.Frag) (B W : List Addr) (H : Hp) : List V → List D → Prop
  | nil : SrA K B W H [] []
  | cons {v : V} {vs : List V} {d : D} {ds : List D} : Sr K B W H v d → SrA K B W H vs ds → SrA K B W H (v :: vs) (d :: ds)
theorem SrA.gs {K : PySem.W.Frag} {B W : List Addr} {H H' : Hp} (w : ∀ a ∈ W, a ∈ B) (g : Gs W H H') : ∀ {vs ds}, SrA K B W H vs ds → SrA K B W H' vs ds
  | _, _, .nil => .nil
  | _, _, .cons h r => .cons (h.gs w g) (SrA.gs w g r)
def EAr (K : PySem.W.Frag) (ta : TA) (ρ : List En) (P : List D → Prop) : Prop := ∀ (B W : List Addr) (H : Hp) (σ : L2.St), EnvOk K B W H σ ρ → ∀ Q : List V → Hp → Prop, (∀ vs ds H', Gs W H H' → SrA K B W H' vs ds → P ds → Q vs H') → ta σ H Q
section
variable {K : PySem.W.Frag} {ρ : List En} {te : TE} {P P' : D → Prop}
theorem EV.er (h : EV K te ρ P) : ER K te ρ P := fun B W H σ e Q q => h B W H σ e Q fun v d H' g s p => q v d H' g (s.sr e.bw.sub) p
theorem ER.imp (h : ER K te ρ P) (k : ∀ d, P d → P' d) : ER K te ρ P' := fun B W H σ e Q q => h B W H σ e Q fun v d H' g s p => q v d H' g s (k d p)
end
/-- te is worth what m says: as data, as what is read, as a new object -/
def RE (K : PySem.W.Frag) (te : TE) (ρ : List En) (m : M D) : Prop := ∀ P, wp m P → EV K te ρ P
def RR (K : PySem.W.Frag) (te : TE) (ρ : List En) (m : M D) : Prop := ∀ P, wp m P → ER K te ρ P
def RN (K : PySem.W.Frag) (te : TE) (ρ : List En) (m : M D) : Prop := ∀ P, wp m P → EVN K te ρ P
def RT (K : PySem.W.Frag) (tt : TT) (ρ : List En) (m : M Bool) : Prop := ∀ P, wp m P → ET K tt ρ P
/-- arguments: what goes on with them is handed in -/
abbrev MA := (α : Type) → (List D → M α) → M α
def RAs (K : PySem.W.Frag) (ta : TA) (ρ : List En) (A : MA) : Prop := ∀ (α : Type) (k : List D → M α) (P : α → Prop), wp (A α k) P → EA K ta ρ fun ds => wp (k ds) P
def RAr (K : PySem.W.Frag) (ta : TA) (ρ : List En) (A : MA) : Prop := ∀ (α : Type) (k : List D → M α) (P : α → Prop), wp (A α k) P → EAr K ta ρ fun ds => wp (k ds) P
/-- an operation by values -/
def OpD (K : PySem.W.Frag) (r : R2) (f : D → D → M D) : Prop := ∀ (x y : D) (P : D → Prop), wp (f x y) P → ∀ (B W : List Addr) (H : Hp) (v u : V), BW B W H → Sr K B W H v x → Sr K B W H u y →
  ∀ Q : VK, (∀ z d H', Gs W H H' → Sg K B H' z d → P d → Q z H') → r v u H Q
/-- a call on values -/
def CaD (K : PySem.W.Frag) (r : List V → Hp → VK → Prop) (f : List D → M D) : Prop := ∀ (ds : List D) (P : D → Prop), wp (f ds) P → ∀ (B W : List Addr) (H : Hp) (vs : List V), BW B W H → SrA K B W H vs ds →
  ∀ Q : VK, (∀ z d H', Gs W H H' → Sg K B H' z d → P d → Q z H') → r vs H Q
/-- the same, the answer a new object -/
def CaN (K : PySem.W.Frag) (r : List V → Hp → VK → Prop) (f : List D → M D) : Prop := ∀ (ds : List D) (P : D → Prop), wp (f ds) P → ∀ (B W : List Addr) (H : Hp) (vs : List V), BW B W H → SrA K B W H vs ds →
  ∀ Q : VK, (∀ a d H', Gs W H H' → H a = none → OwAt K (a :: B) H' a d → P d → Q (.ref a) H') → r vs H Q
theorem CaN.ca {K : PySem.W.Frag} {r : List V → Hp → VK → Prop} {f : List D → M D} (h : CaN K r f) : CaD K r f := fun ds P w B W H vs b s Q q => h ds P w B W H vs b s Q fun a d H' g n k p => q _ d H' g (k.sg (fun x m => List.mem_cons_of_mem _ m) fun m => b.kn a m n) p
section
variable {K : PySem.W.Frag} {ρ : List En} {te ta tb tc : TE} {tt tu : TT} {m ma mb mc : M D} {mt mu : M Bool} {i : Nat} {d : D}
theorem RE.rr (h : RE K te ρ m) : RR K te ρ m := fun P w => (h P w).er
theorem RN.re (h : RN K te ρ m) : RE K te ρ m := fun P w => (h P w).ev
theorem RN.rr (h : RN K te ρ m) : RR K te ρ m := h.re.rr
theorem RE.var (h : ρ[i]? = some (.dat d)) : RE K (tVar i) ρ (.ret d) := fun P p => EV.var h p
theorem RR.var (h : ρ[i]? = some (.dat d)) : RR K (tVar i) ρ (.ret d) := (RE.var h).rr
theorem RR.bor (h : ρ[i]? = some (.bor d)) : RR K (tVar i) ρ (.ret d) := fun P p B W H σ e Q q => by
  obtain ⟨v, e1, s⟩ := e.sl i _ h
  exact ⟨v, e1, q v d H Gs.refl s p⟩
theorem OwAt.sr {B W : List Addr} {H : Hp} {a : Addr} (n : a ∉ W) (h : OwAt K B H a d) : Sr K B W H (.ref a) d := by
  cases d with
  | lst ds =>
    obtain ⟨xs, h, r⟩ := h
    exact ⟨a, xs, rfl, n, h, r⟩
  | dic ks ds =>
    obtain ⟨xs, h, k, r⟩ := h
    exact ⟨a, xs, rfl, n, Rd.of h, k, r⟩
  | dit ks ds =>
    obtain ⟨xs, h, k, r⟩ := h
    exact ⟨a, xs, rfl, n, Rd.of h, k, r⟩
  | din w kk ks ds =>
    obtain ⟨xs, h, k, q, r⟩ := h
    exact ⟨a, xs, rfl, n, Rd.of h, k, q, r⟩
  | ins C ks ds =>
    obtain ⟨dx, xs, h, k, r⟩ := h
    exact ⟨a, dx, xs, rfl, n, h, k, r⟩
  | _ => exact h.elim
theorem RR.own {t : Option Addr} (h : ρ[i]? = some (.own ⟨t, d⟩)) : RR K (tVar i) ρ (.ret d) := fun P p B W H σ e Q q => by
  obtain ⟨a, e1, _, aW, _, k⟩ := e.sl i _ h
  exact ⟨_, e1, q _ d H Gs.refl (OwAt.sr aW k) p⟩
theorem RE.int {i : Int} : RE K (tC (.int i)) ρ (.ret (.int i)) := fun P p => EV.int p
theorem RE.str {x : Str} : RE K (tC (.str x)) ρ (.ret (.str x)) := fun P p => EV.str p
theorem RE.bl {b : Bool} : RE K (tC (.bl b)) ρ (.ret (.bl b)) := fun P p => EV.bl p
theorem RE.ty {n : String} : RE K (tC (.ty n)) ρ (.ret (.ty n)) := fun P p => EV.ty p
theorem RE.non : RE K (tC .non) ρ (.ret .non) := fun P p => EV.non p
theorem RE.op {r : R2} {f : D → D → M D} (o : OpD K r f) (ha : RR K ta ρ ma) (hb : RR K tb ρ mb) : RE K (tOp r ta tb) ρ (ma.bind fun x => mb.bind fun y => f x y) := fun P w B W H σ e Q q =>
  ha _ (wp_bind.mp w) B W H σ e _ fun v x H1 g1 s1 w1 => hb _ (wp_bind.mp w1) B W H1 σ (e.gs g1) _ fun u y H2 g2 s2 w2 =>
    o x y P w2 B W H2 v u ((e.gs g1).gs g2).bw (s1.gs e.bw.sub g2) s2 Q fun z d H3 g3 s3 p => q z d H3 ((g1.trans g2).trans g3) s3 p
theorem RE.cb {rc : List V → Hp → VK → Prop} {f : List D → M D} {t : TA} {mA : MA} (c : CaD K rc f) (h : RAr K t ρ mA) : RE K (tCB rc t) ρ (mA D f) := fun P w B W H σ e Q q =>
  h _ _ _ w B W H σ e _ fun vs ds H1 g1 s1 w1 => c ds P w1 B W H1 vs (e.gs g1).bw s1 Q fun z d H2 g2 s2 p => q z d H2 (g1.trans g2) s2 p
theorem RN.cb {rc : List V → Hp → VK → Prop} {f : List D → M D} {t : TA} {mA : MA} (c : CaN K rc f) (h : RAr K t ρ mA) : RN K (tCB rc t) ρ (mA D f) := fun P w B W H σ e Q q =>
  h _ _ _ w B W H σ e _ fun vs ds H1 g1 s1 w1 => c ds P w1 B W H1 vs (e.gs g1).bw s1 Q fun a d H2 g2 n k p => q a d H2 (g1.trans g2) (g1.gw.free a n) k p
theorem RAs.nil : RAs K tNil ρ fun _ k => k [] := fun α k P p => EA.nil p
theorem RAs.cons {tr : TA} {mr : MA} (ha : RE K ta ρ ma) (hr : RAs K tr ρ mr) : RAs K (tCons ta tr) ρ fun α k => ma.bind fun x => mr α fun xs => k (x :: xs) := fun α k P w =>
  EA.cons (EV.imp (ha _ (wp_bind.mp w)) fun x w1 => hr α _ P w1)
theorem RAr.nil : RAr K tNil ρ fun _ k => k [] := fun α k P p B W H σ e Q q => q _ _ H Gs.refl .nil p
theorem RAr.cons {tr : TA} {mr : MA} (ha : RR K ta ρ ma) (hr : RAr K tr ρ mr) : RAr K (tCons ta tr) ρ fun α k => ma.bind fun x => mr α fun xs => k (x :: xs) := fun α k P w B W H σ e Q q =>
  ha _ (wp_bind.mp w) B W H σ e _ fun v x H1 g1 s1 w1 => hr α _ P w1 B W H1 σ (e.gs g1) _ fun vs ds H2 g2 s2 w2 => q _ _ H2 (g1.trans g2) (.cons (s1.gs e.bw.sub g2) s2) w2
/-- displays -/
def D.tupM (ds : List D) : M D := if ds.length ≤ 16777216 then .ret (.tup ds) else .fail
def D.lstM (ds : List D) : M D := if ds.length ≤ 16777216 then .ret (.lst ds) else .fail
theorem wp_ite {α : Type} {c : Prop} [Decidable c] {m : M α} {P : α → Prop} (w : wp (if c then m else .fail) P) : c ∧ wp m P := by
  by_cases h : c
  · rw [if_pos h] at w
    exact ⟨h, w⟩
  · rw [if_neg h] at w
    exact w.elim
theorem RE.tup {t : TA} {mA : MA} (h : RAs K t ρ mA) : RE K (tTup t) ρ (mA D D.tupM) := fun P w => EV.tup fun B W H σ e Q q => h _ _ _ w B W H σ e Q fun vs ds H' g s w1 => q vs ds H' g s (by
  obtain ⟨h1, h2⟩ := wp_ite w1
  exact ⟨by rw [sizeLine_eq]; exact h1, h2⟩)
theorem RN.lst {t : TA} {mA : MA} (h : RAs K t ρ mA) : RN K (tLst t) ρ (mA D D.lstM) := fun P w => EVN.lst fun B W H σ e Q q => h _ _ _ w B W H σ e Q fun vs ds H' g s w1 => q vs ds H' g s (by
  obtain ⟨h1, h2⟩ := wp_ite w1
  exact ⟨by rw [sizeLine_eq]; exact h1, h2⟩)
theorem RN.dnew : RN K tDNewK ρ (.ret (.dic [] [])) := fun P p => EVN.dnew p
def D.truth : D → M Bool
  | .non => .ret false
  | .bl b => .ret b
  | .int i => .ret (i != 0)
  | .str z => if z.length ≤ 16777216 then .ret (z.length != 0) else .fail
  | .lst ds => .ret (!ds.isEmpty)
  | .tup ds => .ret (!ds.isEmpty)
  | _ => .fail
theorem SgA.isEmpty {B : List Addr} {H : Hp} {xs : List V} {ds : List D} (r : SgA K B H xs ds) : xs.isEmpty = ds.isEmpty := by
  cases r <;> rfl
theorem truth_ok {B W : List Addr} {H : Hp} {v : V} {d : D} {P : Bool → Prop} (w : wp d.truth P) (s : Sr K B W H v d) : ∃ k, TruV K v H k ∧ P k := by
  cases d with
  | non => cases s; exact ⟨_, rfl, w⟩
  | bl b => cases s; exact ⟨_, rfl, w⟩
  | int i => cases s; exact ⟨_, rfl, w⟩
  | str z =>
    cases s
    obtain ⟨h1, h2⟩ := wp_ite w
    refine ⟨_, ⟨by rw [sizeLine_eq]; exact h1, rfl⟩, ?_⟩
    have e : ((z.length : Int) != 0) = (z.length != 0) := by
      rw [Bool.eq_iff_iff]
      simp
    rw [e]
    exact h2
  | lst ds =>
    obtain ⟨a, xs, rfl, _, h, r⟩ := s
    exact ⟨_, .inl ⟨xs, SqL.of h, rfl⟩, by rw [r.isEmpty]; exact w⟩
  | tup ds =>
    have go : ∀ {a : Addr}, Sg K B H (.ref a) (.tup ds) → ∃ k, TruV K (.ref a) H k ∧ P k := fun {a} s => by
      obtain ⟨xs, h, r⟩ := s.sqT
      exact ⟨_, .inr (.inl ⟨xs, h, rfl⟩), by rw [r.isEmpty]; exact w⟩
    cases s with
    | tup n h r => exact go (.tup n h r)
  | dic ks ds => exact w.elim
  | dit ks ds => exact w.elim
  | din _ _ _ _ => exact w.elim
  | etup => exact w.elim
  | ty n => exact w.elim
  | raw a => exact w.elim
  | ins C ks ds => exact w.elim
theorem RE.ifx (ht : RT K tt ρ mt) (ha : RE K ta ρ ma) (hb : RE K tb ρ mb) : RE K (tIf tt ta tb) ρ (mt.bind fun k => if k = true then ma else mb) := fun P w => EV.ifx (ET.imp (ht _ (wp_bind.mp w)) fun b w1 => by
  cases b with
  | true => exact ha P w1
  | false => exact hb P w1)
/-- the reading of a test by truth -/
def tTruth (K : PySem.W.Frag) (ta : TE) : TT := fun σ H Q => ta σ H fun x H' => ∃ k, TruV K x H' k ∧ Q k H'
theorem RT.truth (ha : RR K ta ρ ma) : RT K (tTruth K ta) ρ (ma.bind D.truth) := fun P w B W H σ e Q q =>
  ha _ (wp_bind.mp w) B W H σ e _ fun v x H1 g1 s1 w1 => by
    obtain ⟨k, hk, p⟩ := truth_ok w1 s1
    exact ⟨k, hk, q k H1 g1 p⟩
/-- a value that is a truth -/
def D.asB : D → M Bool
  | .bl b => .ret b
  | _ => .fail
theorem asB_at {d : D} {P : Bool → Prop} (w : wp d.asB P) : ∃ b, d = .bl b ∧ P b := by
  cases d with
  | bl b => exact ⟨b, rfl, w⟩
  | _ => exact w.elim
theorem RT.test (ha : RR K ta ρ ma) : RT K (tTest ta) ρ (ma.bind D.asB) := fun P w B W H σ e Q q =>
  ha _ (wp_bind.mp w) B W H σ e _ fun v x H1 g1 s1 w1 => by
    obtain ⟨b, rfl, p⟩ := asB_at w1
    cases s1
    exact ⟨b, rfl, q b H1 g1 p⟩
theorem RT.b (ha : RR K ta ρ ma) : RT K (tB ta) ρ (ma.bind D.asB) := fun P w B W H σ e Q q =>
  ha _ (wp_bind.mp w) B W H σ e _ fun v x H1 g1 s1 w1 => by
    obtain ⟨b, rfl, p⟩ := asB_at w1
    cases s1
    exact ⟨b, rfl, q b H1 g1 p⟩
def M.and2 (mt mu : M Bool) : M Bool := mt.bind fun k => if k = true then mu else .ret false
def M.or2 (mt mu : M Bool) : M Bool := mt.bind fun k => if k = true then .ret true else mu
def M.not1 (mt : M Bool) : M Bool := mt.bind fun k => .ret (!k)
theorem RT.and (h : RT K tt ρ mt) (k : RT K tu ρ mu) : RT K (tAnd tt tu) ρ (M.and2 mt mu) := fun P w => ET.and (ET.imp (h _ (wp_bind.mp w)) fun b w1 => by
  cases b with
  | true => exact k P w1
  | false => exact w1)
theorem RT.or (h : RT K tt ρ mt) (k : RT K tu ρ mu) : RT K (tOr tt tu) ρ (M.or2 mt mu) := fun P w => ET.or (ET.imp (h _ (wp_bind.mp w)) fun b w1 => by
  cases b with
  | true => exact w1
  | false => exact k P w1)
theorem RT.not (h : RT K tt ρ mt) : RT K (tNot tt) ρ (M.not1 mt) := fun P w => ET.not (h _ (wp_bind.mp w))
theorem RT.yes : RT K tYes ρ (.ret true) := fun P p => ET.yes p
/-- a < b < c -/
def M.chain (f g : D → D → M D) (ma mb mc : M D) : M D := ma.bind fun x => mb.bind fun y => (f x y).bind fun z => z.asB.bind fun k => if k = true then mc.bind fun w => g y w else .ret (.bl false)
theorem RE.chain {r r2 : R2} {f g : D → D → M D} (o : OpD K r f) (o2 : OpD K r2 g) (ha : RR K ta ρ ma) (hb : RR K tb ρ mb) (hc : RR K tc ρ mc) : RE K (tChain r r2 ta tb tc) ρ (M.chain f g ma mb mc) := fun P w B W H σ e Q q =>
  ha _ (wp_bind.mp w) B W H σ e _ fun v x H1 g1 s1 w1 => hb _ (wp_bind.mp w1) B W H1 σ (e.gs g1) _ fun u y H2 g2 s2 w2 =>
    o x y _ (wp_bind.mp w2) B W H2 v u ((e.gs g1).gs g2).bw (s1.gs e.bw.sub g2) s2 _ fun z d H3 g3 s3 w3 => by
      obtain ⟨k, rfl, w4⟩ := asB_at (wp_bind.mp w3)
      cases s3
      have e3 := ((e.gs g1).gs g2).gs g3
      refine ⟨k, rfl, ?_⟩
      cases k with
      | true => exact hc _ (wp_bind.mp w4) B W H3 σ e3 _ fun t d H4 g4 s4 w5 => o2 y d P w5 B W H4 u t (e3.gs g4).bw (s2.gs e.bw.sub (g3.trans g4)) s4 Q fun z d H5 g5 s5 p => q z d H5 ((((g1.trans g2).trans g3).trans g4).trans g5) s5 p
      | false => exact q _ _ H3 ((g1.trans g2).trans g3) (.bl false) w4
/-- own truths by and, or, not (all but the last one truths) -/
def M.andB (ma mb : M D) : M D := ma.bind fun x => x.asB.bind fun k => if k = true then mb else .ret (.bl false)
theorem RE.andV (ha : RE K ta ρ ma) (hb : RE K tb ρ mb) : RE K (tAndV ta tb) ρ (M.andB ma mb) := fun P w => EV.andV (EV.imp (ha _ (wp_bind.mp w)) fun x w1 => by
  obtain ⟨k, rfl, w2⟩ := asB_at (wp_bind.mp w1)
  refine ⟨k, rfl, ?_⟩
  cases k with
  | true => exact hb P w2
  | false => exact w2)
theorem RE.notV (ha : RE K ta ρ ma) : RE K (tNotV ta) ρ (ma.bind fun x => x.asB.bind fun k => .ret (.bl (!k))) := fun P w => EV.notV (EV.imp (ha _ (wp_bind.mp w)) fun x w1 => by
  obtain ⟨k, rfl, w2⟩ := asB_at (wp_bind.mp w1)
  exact ⟨k, rfl, w2⟩)
/-- parts of a slice -/
def RO (K : PySem.W.Frag) (to : L2.St → Hp → (Option Int → Hp → Prop) → Prop) (ρ : List En) (m : M (Option Int)) : Prop := ∀ P, wp m P → EO K to ρ P
def D.asI : D → M Int
  | .int i => .ret i
  | _ => .fail
theorem asI_at {d : D} {P : Int → Prop} (w : wp d.asI P) : ∃ i, d = .int i ∧ P i := by
  cases d with
  | int i => exact ⟨i, rfl, w⟩
  | _ => exact w.elim
theorem RO.none : RO K tNoPart ρ (.ret none) := fun P p => EO.none p
theorem RO.some (ha : RE K ta ρ ma) : RO K (tPart ta) ρ (ma.bind fun x => x.asI.bind fun i => .ret (some i)) := fun P w => EO.some (EV.imp (ha _ (wp_bind.mp w)) fun x w1 => asI_at (wp_bind.mp w1))
/-- a slice by values -/
def SlD (K : PySem.W.Frag) (r : V → Option Int → Option Int → Hp → VK → Prop) (f : D → Option Int → Option Int → M D) : Prop := ∀ (x : D) (lo hi : Option Int) (P : D → Prop), wp (f x lo hi) P → ∀ (B W : List Addr) (H : Hp) (v : V), BW B W H → Sr K B W H v x →
  ∀ Q : VK, (∀ z d H', Gs W H H' → Sg K B H' z d → P d → Q z H') → r v lo hi H Q
theorem RE.sl {r : V → Option Int → Option Int → Hp → VK → Prop} {f : D → Option Int → Option Int → M D} {tl th : L2.St → Hp → (Option Int → Hp → Prop) → Prop} {ml mh : M (Option Int)} (o : SlD K r f) (ha : RR K ta ρ ma) (hl : RO K tl ρ ml) (hh : RO K th ρ mh) :
    RE K (tSl r ta tl th) ρ (ma.bind fun x => ml.bind fun lo => mh.bind fun hi => f x lo hi) := fun P w B W H σ e Q q =>
  ha _ (wp_bind.mp w) B W H σ e _ fun v x H1 g1 s1 w1 => hl _ (wp_bind.mp w1) B W H1 σ (e.gs g1) _ fun lo H2 g2 w2 => hh _ (wp_bind.mp w2) B W H2 σ ((e.gs g1).gs g2) _ fun hi H3 g3 w3 =>
    o x lo hi P w3 B W H3 v (((e.gs g1).gs g2).gs g3).bw (s1.gs e.bw.sub (g2.trans g3)) Q fun z d H4 g4 s4 p => q z d H4 (((g1.trans g2).trans g3).trans g4) s4 p
end
end VB
namespace VB
open PySem PySem.Spec PyProof.Rows L2
section
variable {X : Cx} {K : PySem.W.Frag} {r1 r2 : R2}
def rOr (r1 r2 : R2) : R2 := fun x y H Q => r1 x y H Q ∨ r2 x y H Q
theorem opr_or {f : Value → Value → Sem Value} (h1 : OpR X f r1) (h2 : OpR X f r2) : OpR X f (rOr r1 r2) := by
  intro pins s σ H x y v u Q I rx ry h
  rcases h with h | h
  · exact h1 pins s σ H x y v u Q I rx ry h
  · exact h2 pins s σ H x y v u Q I rx ry h
theorem ixr_or (h1 : IxR X r1) (h2 : IxR X r2) : IxR X (rOr r1 r2) := by
  intro value slice pins s σ H x y v u Q I rx ry h
  rcases h with h | h
  · exact h1 value slice pins s σ H x y v u Q I rx ry h
  · exact h2 value slice pins s σ H x y v u Q I rx ry h
def rOr3 (r1 r2 : V → Option Int → Option Int → Hp → VK → Prop) : V → Option Int → Option Int → Hp → VK → Prop := fun x a b H Q => r1 x a b H Q ∨ r2 x a b H Q
theorem slr_or {r1 r2 : V → Option Int → Option Int → Hp → VK → Prop} (h1 : SlR X r1) (h2 : SlR X r2) : SlR X (rOr3 r1 r2) := h1.or h2
def rOrC (r1 r2 : List V → Hp → VK → Prop) : List V → Hp → VK → Prop := fun xs H Q => r1 xs H Q ∨ r2 xs H Q
theorem cr_or {f : Value} {r1 r2 : List V → Hp → VK → Prop} (h1 : CallR X f r1) (h2 : CallR X f r2) : CallR X f (rOrC r1 r2) := by
  intro pins s σ H xs us Q I r h
  rcases h with h | h
  · exact h1 pins s σ H xs us Q I r h
  · exact h2 pins s σ H xs us Q I r h
end
section
variable {K : PySem.W.Frag}
theorem Sr.sqT {B W : List Addr} {H : Hp} {v : V} {ds : List D} (s : Sr K B W H v (.tup ds)) : ∃ a xs, v = .ref a ∧ SqT K H a xs ∧ SgA K B H xs ds ∧ Sg K B H (.ref a) (.tup ds) := by
  cases (show Sg K B H v (.tup ds) from s) with
  | tup n h r => exact ⟨_, _, rfl, Or.inl (Rd.of h), r, .tup n h r⟩
/-- + -/
abbrev rAdd (K : PySem.W.Frag) : R2 := rOr (rI0 fun i j => .int (i + j)) (rOr (fun x y H Q => ∃ i j, x = .str i ∧ y = .str j ∧ i.length + j.length ≤ sizeLine ∧ Q (.str (i ++ j)) H) (rOr rCat (rCatA K)))
theorem op_addX {X : Cx} (h : X.K = K) : OpR X (binaryOp .Add) (rAdd K) := by
  subst h
  exact opr_or op_add (opr_or op_add_str (opr_or op_cat op_catA))
def D.add : D → D → M D
  | .int i, .int j => .ret (.int (i + j))
  | .str x, .str y => if x.length + y.length ≤ 16777216 then .ret (.str (x ++ y)) else .fail
  | .lst xs, .lst ys => if xs.length + ys.length ≤ 16777216 then .ret (.lst (xs ++ ys)) else .fail
  | .tup xs, .tup ys => if xs.length + ys.length ≤ 16777216 then .ret (.tup (xs ++ ys)) else .fail
  | _, _ => .fail
theorem add_d : OpD K (rAdd K) D.add := by
  intro x y P w B W H v u b sv su Q q
  cases x with
  | int i =>
    cases y with
    | int j =>
      cases sv
      cases su
      exact .inl ⟨i, j, rfl, rfl, q _ _ H Gs.refl (.int _) w⟩
    | _ => exact w.elim
  | str i =>
    cases y with
    | str j =>
      cases sv
      cases su
      obtain ⟨h1, h2⟩ := wp_ite w
      exact .inr (.inl ⟨i, j, rfl, rfl, by rw [sizeLine_eq]; exact h1, q _ _ H Gs.refl (.str _) h2⟩)
    | _ => exact w.elim
  | lst xs =>
    cases y with
    | lst ys =>
      obtain ⟨a, vs, rfl, _, h, r⟩ := sv
      obtain ⟨c, us, rfl, _, h', r'⟩ := su
      obtain ⟨h1, h2⟩ := wp_ite w
      exact .inr (.inr (.inl ⟨a, c, vs, us, rfl, rfl, h, h', by rw [r.length, r'.length, sizeLine_eq]; exact h1, fun p n => q _ _ _ (Gs.new n) (.lst (b.notNew n) upd_same ((r.append r').gw (Gw.new n))) h2⟩))
    | _ => exact w.elim
  | tup xs =>
    cases y with
    | tup ys =>
      obtain ⟨a, vs, rfl, h, r, s1⟩ := sv.sqT
      obtain ⟨c, us, rfl, h', r', s2⟩ := su.sqT
      obtain ⟨h1, h2⟩ := wp_ite w
      refine .inr (.inr (.inr ⟨a, c, vs, us, rfl, rfl, h, h', by rw [r.length, r'.length, sizeLine_eq]; exact h1, fun e => ?_, fun _ e => ?_, fun _ _ p n => ?_⟩))
      · subst e
        cases r
        exact q _ _ H Gs.refl s2 h2
      · subst e
        cases r'
        rw [List.append_nil] at h2
        exact q _ _ H Gs.refl s1 h2
      · exact q _ _ _ (Gs.new n) (.tup trivial upd_same ((r.append r').gw (Gw.new n))) h2
    | _ => exact w.elim
  | _ => exact w.elim
/-- an operation on two ints, with a condition -/
theorem OpD.int {C : Int → Int → Prop} {g : Int → Int → Int} {f : D → D → M D} (h : ∀ x y P, wp (f x y) P → ∃ i j, x = .int i ∧ y = .int j ∧ C i j ∧ P (.int (g i j))) : OpD K (rI C fun i j => .int (g i j)) f := by
  intro x y P w B W H v u b sv su Q q
  obtain ⟨i, j, rfl, rfl, c, p⟩ := h x y P w
  cases sv
  cases su
  exact ⟨i, j, rfl, rfl, c, q _ _ H Gs.refl (.int _) p⟩
theorem OpD.int0 {g : Int → Int → Int} {f : D → D → M D} (h : ∀ x y P, wp (f x y) P → ∃ i j, x = .int i ∧ y = .int j ∧ P (.int (g i j))) : OpD K (rI0 fun i j => .int (g i j)) f := by
  intro x y P w B W H v u b sv su Q q
  obtain ⟨i, j, rfl, rfl, p⟩ := h x y P w
  cases sv
  cases su
  exact ⟨i, j, rfl, rfl, q _ _ H Gs.refl (.int _) p⟩
/-- two ints -/
def D.int2 (x y : D) (k : Int → Int → M D) : M D := match x, y with
  | .int i, .int j => k i j
  | _, _ => .fail
theorem int2_at {x y : D} {k : Int → Int → M D} {P : D → Prop} (w : wp (D.int2 x y k) P) : ∃ i j, x = .int i ∧ y = .int j ∧ wp (k i j) P := by
  cases x with
  | int i =>
    cases y with
    | int j => exact ⟨i, j, rfl, rfl, w⟩
    | _ => exact w.elim
  | _ => exact w.elim
def D.sub (x y : D) : M D := D.int2 x y fun i j => .ret (.int (i - j))
theorem sub_d : OpD K (rI0 fun i j => .int (i - j)) D.sub := .int0 fun x y P w => int2_at w
def D.fdiv (x y : D) : M D := D.int2 x y fun i j => if 0 < j ∧ j.natAbs.log2 < 9000 then .ret (.int (i / j)) else .fail
theorem fdiv_d : OpD K (rI CDivW fun i j => .int (i / j)) D.fdiv := .int fun x y P w => by
  obtain ⟨i, j, h1, h2, w⟩ := int2_at w
  obtain ⟨h, w⟩ := wp_ite w
  exact ⟨i, j, h1, h2, h, w⟩
def D.mod (x y : D) : M D := D.int2 x y fun i j => if 0 < j then .ret (.int (i % j)) else .fail
theorem mod_d : OpD K (rI (fun _ j => 0 < j) fun i j => .int (i % j)) D.mod := .int fun x y P w => by
  obtain ⟨i, j, h1, h2, w⟩ := int2_at w
  obtain ⟨h, w⟩ := wp_ite w
  exact ⟨i, j, h1, h2, h, w⟩
def D.pow (x y : D) : M D := D.int2 x y fun i j => if 0 ≤ j ∧ j ≤ 1000000 ∧ i.natAbs < 18446744073709551616 then .ret (.int (i ^ j.toNat)) else .fail
theorem pow_d : OpD K (rI CPow fun i j => .int (i ^ j.toNat)) D.pow := .int fun x y P w => by
  obtain ⟨i, j, h1, h2, w⟩ := int2_at w
  obtain ⟨h, w⟩ := wp_ite w
  exact ⟨i, j, h1, h2, ⟨h.1, h.2.1, h.2.2⟩, w⟩
/-- * -/
abbrev rMul (K : PySem.W.Frag) : R2 := rOr (rI CMulW fun i j => .int (i * j)) (rOr rMulS (rOr rRep (rRepA K)))
theorem op_mulX {X : Cx} (h : X.K = K) : OpR X (binaryOp .Mult) (rMul K) := by
  subst h
  exact opr_or op_mulW (opr_or op_mul_str (opr_or op_rep (op_repA rfl)))
def D.mul : D → D → M D
  | .int i, .int j => if i.natAbs.log2 + j.natAbs.log2 < 1000000 then .ret (.int (i * j)) else .fail
  | .str z, .int k => if 0 ≤ k ∧ k ≤ 5000 ∧ z.length ≤ 1000 then .ret (.str (Txt.mul z k)) else .fail
  | .lst xs, .int k => if 0 ≤ k ∧ k ≤ 100000 ∧ xs.length ≤ 100 then .ret (.lst (List.replicate k.toNat xs).flatten) else .fail
  | .tup xs, .int k => if (!xs.isEmpty) = true ∧ 0 ≤ k ∧ k ≤ 1000 ∧ xs.length ≤ 1000 then .ret (.tup (List.replicate k.toNat xs).flatten) else .fail
  | _, _ => .fail
theorem mul_d : OpD K (rMul K) D.mul := by
  intro x y P w B W H v u b sv su Q q
  cases y with
  | int k =>
    cases su
    cases x with
    | int i =>
      cases sv
      obtain ⟨h1, h2⟩ := wp_ite w
      exact .inl ⟨i, k, rfl, rfl, h1, q _ _ H Gs.refl (.int _) h2⟩
    | str z =>
      cases sv
      obtain ⟨h1, h2⟩ := wp_ite w
      exact .inr (.inl ⟨z, k, rfl, rfl, h1.1, h1.2.1, h1.2.2, q _ _ H Gs.refl (.str _) h2⟩)
    | lst xs =>
      obtain ⟨a, vs, rfl, _, h, r⟩ := sv
      obtain ⟨h1, h2⟩ := wp_ite w
      refine .inr (.inr (.inl ⟨a, k, vs, rfl, rfl, h, by omega, by omega, ?_, fun p n => q _ _ _ (Gs.new n) (.lst (b.notNew n) upd_same ((r.rep _).gw (Gw.new n))) h2⟩))
      rw [r.length, sizeLine_eq]
      have : xs.length * k.toNat ≤ 100 * 100000 := Nat.mul_le_mul h1.2.2 (by omega)
      omega
    | tup xs =>
      obtain ⟨a, vs, rfl, h, r, s1⟩ := sv.sqT
      obtain ⟨h1, h2⟩ := wp_ite w
      have hl := r.length
      refine .inr (.inr (.inr ⟨a, k, vs, rfl, rfl, h, fun z => ?_, h1.2.1, h1.2.2.1, by rw [hl]; exact h1.2.2.2, fun k1 => ?_, fun _ p n => q _ _ _ (Gs.new n) (.tup trivial upd_same ((r.rep _).gw (Gw.new n))) h2⟩))
      · subst z
        cases r
        cases h1.1
      · have e : (List.replicate k.toNat xs).flatten = xs := by
          rw [k1]
          show (List.replicate 1 xs).flatten = xs
          simp
        rw [e] at h2
        exact q _ _ H Gs.refl s1 h2
    | _ => exact w.elim
  | _ => cases x <;> exact w.elim
abbrev rStrB (f : Str → Str → Bool) : R2 := fun x y H Q => ∃ i j, x = .str i ∧ y = .str j ∧ Q (.bl (f i j)) H
def D.cmpM (f : Int → Int → Bool) (g : Str → Str → Bool) : D → D → M D
  | .int i, .int j => .ret (.bl (f i j))
  | .str i, .str j => .ret (.bl (g i j))
  | _, _ => .fail
theorem cmp_d {f : Int → Int → Bool} {g : Str → Str → Bool} : OpD K (rOr (rI0 fun i j => .bl (f i j)) (rStrB g)) (D.cmpM f g) := by
  intro x y P w B W H v u b sv su Q q
  cases x with
  | int i =>
    cases y with
    | int j =>
      cases sv
      cases su
      exact .inl ⟨i, j, rfl, rfl, q _ _ H Gs.refl (.bl _) w⟩
    | _ => exact w.elim
  | str i =>
    cases y with
    | str j =>
      cases sv
      cases su
      exact .inr ⟨i, j, rfl, rfl, q _ _ H Gs.refl (.bl _) w⟩
    | _ => exact w.elim
  | _ => exact w.elim
abbrev rLt : R2 := rOr (rI0 fun i j => .bl (decide (i < j))) (rStrB fun i j => decide (i.cps.toList < j.cps.toList))
abbrev rLe : R2 := rOr (rI0 fun i j => .bl (decide (i ≤ j))) (rStrB fun i j => !decide (j.cps.toList < i.cps.toList))
abbrev rGt : R2 := rOr (rI0 fun i j => .bl (decide (j < i))) (rStrB fun i j => decide (j.cps.toList < i.cps.toList))
theorem op_ltX {X : Cx} : OpR X (compareOp .Lt) rLt := opr_or op_lt op_lt_str
theorem op_leX {X : Cx} : OpR X (compareOp .LtE) rLe := opr_or op_le op_le_str
theorem op_gtX {X : Cx} : OpR X (compareOp .Gt) rGt := opr_or op_gt op_gt_str
abbrev D.lt : D → D → M D := D.cmpM (fun i j => decide (i < j)) fun i j => decide (i.cps.toList < j.cps.toList)
abbrev D.le : D → D → M D := D.cmpM (fun i j => decide (i ≤ j)) fun i j => !decide (j.cps.toList < i.cps.toList)
abbrev D.gt : D → D → M D := D.cmpM (fun i j => decide (j < i)) fun i j => decide (j.cps.toList < i.cps.toList)
theorem lt_d : OpD K rLt D.lt := cmp_d
theorem le_d : OpD K rLe D.le := cmp_d
theorem gt_d : OpD K rGt D.gt := cmp_d
/-- what == tells: of scalars, else of shaped data -/
def D.eqb (x y : D) : Option Bool :=
  match x, y with
  | .int i, .int j => some (decide (i = j))
  | .str i, .str j => some (decide (i = j))
  | .bl i, .bl j => some (decide (i = j))
  | .non, .non => some true
  | .non, .int _ => some false
  | .int _, .non => some false
  | .non, .bl _ => some false
  | .bl _, .non => some false
  | .non, .str _ => some false
  | .str _, .non => some false
  | .int _, .str _ => some false
  | .str _, .int _ => some false
  | .bl _, .str _ => some false
  | .str _, .bl _ => some false
  | .lst xs, .lst [] => some xs.isEmpty
  | x, y => if (x.pu && y.pu && (SeqAt.shaped x.py && SeqAt.shaped y.py)) = true then some (PyData.eqv x.py y.py) else none
def M.ofO : Option Bool → M D
  | some b => .ret (.bl b)
  | none => .fail
def M.ofOn : Option Bool → M D
  | some b => .ret (.bl (!b))
  | none => .fail
def D.eq (x y : D) : M D := M.ofO (x.eqb y)
def D.ne (x y : D) : M D := M.ofOn (x.eqb y)
theorem Sr.dp {B W : List Addr} {H : Hp} {v : V} {d : D} (s : Sr K B W H v d) (p : d.pu = true) : Dp K H v d.py := by
  cases d with
  | lst ds =>
    obtain ⟨a, xs, rfl, _, h, r⟩ := s
    unfold D.py
    exact .lst (SqL.of h) (SgA.dp r (by simpa [D.pu] using p))
  | dic ks ds => simp [D.pu] at p
  | dit ks ds => simp [D.pu] at p
  | din _ _ _ _ => simp [D.pu] at p
  | etup => simp [D.pu] at p
  | ins C ks ds => simp [D.pu] at p
  | non => exact Sg.dp s p
  | bl b => exact Sg.dp s p
  | int b => exact Sg.dp s p
  | str b => exact Sg.dp s p
  | ty b => exact Sg.dp s p
  | raw b => exact Sg.dp s p
  | tup b => exact Sg.dp s p
/-- what eqb says, by values -/
def eqCase (K : PySem.W.Frag) (v u : V) (H : Hp) (b : Bool) : Prop := (scal v u = true ∧ decide (v = u) = b) ∨ (∃ d e, Dp K H v d ∧ Dp K H u e ∧ SeqAt.shaped d = true ∧ SeqAt.shaped e = true ∧ PyData.eqv d e = b) ∨
  ∃ a c xs, v = .ref a ∧ u = .ref c ∧ H a = some (.lst xs) ∧ H c = some (.lst []) ∧ xs.isEmpty = b
theorem eqb_case {B W : List Addr} {H : Hp} {v u : V} {x y : D} {b : Bool} (e : x.eqb y = some b) (sv : Sr K B W H v x) (su : Sr K B W H u y) : eqCase K v u H b := by
  have gen : (if (x.pu && y.pu && (SeqAt.shaped x.py && SeqAt.shaped y.py)) = true then some (PyData.eqv x.py y.py) else none) = some b → eqCase K v u H b := fun e => by
    by_cases h : (x.pu && y.pu && (SeqAt.shaped x.py && SeqAt.shaped y.py)) = true
    · rw [if_pos h] at e
      simp only [Bool.and_eq_true] at h
      exact .inr (.inl ⟨_, _, sv.dp h.1.1, su.dp h.1.2, h.2.1, h.2.2, Option.some.inj e⟩)
    · rw [if_neg h] at e
      cases e
  unfold D.eqb at e
  split at e <;> first
    | (cases sv; cases su; cases e; exact .inl ⟨rfl, by simp⟩)
    | (obtain ⟨a, xs, rfl, _, h, r⟩ := sv
       obtain ⟨c, ys, rfl, _, h', r'⟩ := su
       cases r'
       cases e
       exact .inr (.inr ⟨a, c, xs, rfl, rfl, h, h', r.isEmpty⟩))
    | exact gen e
abbrev rEqX (K : PySem.W.Frag) : R2 := rOr rEq (rOr (rEqD K) rEqNil)
theorem op_eqX {X : Cx} (h : X.K = K) (hu : X.A.units + 64 < cLine) : OpR X (compareOp .Eq) (rEqX K) := by
  subst h
  exact opr_or op_eq (opr_or (op_eqD hu) (op_eqNil hu))
theorem eq_d : OpD K (rEqX K) D.eq := by
  intro x y P w B W H v u b sv su Q q
  unfold D.eq at w
  cases e : x.eqb y with
  | none =>
    rw [e] at w
    exact w.elim
  | some k =>
    rw [e] at w
    have q1 : Q (.bl k) H := q _ _ H Gs.refl (.bl _) w
    rcases eqb_case e sv su with ⟨h1, h2⟩ | ⟨d1, d2, h1, h2, h3, h4, h5⟩ | ⟨a, c, xs, h1, h2, h3, h4, h5⟩
    · exact .inl ⟨h1, by rw [h2]; exact q1⟩
    · exact .inr (.inl ⟨d1, d2, h1, h2, h3, h4, by rw [h5]; exact q1⟩)
    · exact .inr (.inr ⟨a, c, xs, h1, h2, h3, h4, by rw [h5]; exact q1⟩)
/-- list != [] -/
def rNeNil : R2 := fun x y H Q => ∃ a b xs, x = .ref a ∧ y = .ref b ∧ H a = some (.lst xs) ∧ H b = some (.lst []) ∧ Q (.bl (!xs.isEmpty)) H
theorem op_neNil {X : Cx} (hu : X.A.units + 64 < cLine) : OpR X (compareOp .NotEq) rNeNil := by
  intro pins s σ H x y v u Q I rx ry h
  obtain ⟨a, b, xs, rfl, rfl, h1, h2, q⟩ := h
  cases rx
  cases ry
  cases xs with
  | nil => exact op_neD hu pins s σ H (.ref a) (.ref b) _ _ Q I rfl rfl ⟨.list [], .list [], .lst (SqL.of h1) .nil, .lst (SqL.of h2) .nil, by decide +kernel, by decide +kernel, q⟩
  | cons x r =>
    obtain ⟨z, its, n, r1, hl, e⟩ := I.lstM h1
    obtain ⟨z2, its2, n2, r2, hl2, e2⟩ := I.lstM h2
    refine PySem.SeqAt.RcNeAt.lists_lengths ⟨_, e, rfl, _, rfl⟩ ⟨_, e2, rfl, _, rfl⟩ ?_ (by omega) X.prog X.w X.xe _ ⟨.bl true, H, I, rfl, q⟩
    rw [List.size_toArray, List.size_toArray, ← hl, ← hl2]
    simp
abbrev rNeX (K : PySem.W.Frag) : R2 := rOr rNe (rOr (rNeD K) rNeNil)
theorem op_neX {X : Cx} (h : X.K = K) (hu : X.A.units + 64 < cLine) : OpR X (compareOp .NotEq) (rNeX K) := by
  subst h
  exact opr_or op_ne (opr_or (op_neD hu) (op_neNil hu))
theorem ne_d : OpD K (rNeX K) D.ne := by
  intro x y P w B W H v u b sv su Q q
  unfold D.ne at w
  cases e : x.eqb y with
  | none =>
    rw [e] at w
    exact w.elim
  | some k =>
    rw [e] at w
    have q1 : Q (.bl (!k)) H := q _ _ H Gs.refl (.bl _) w
    rcases eqb_case e sv su with ⟨h1, h2⟩ | ⟨d1, d2, h1, h2, h3, h4, h5⟩ | ⟨a, c, xs, h1, h2, h3, h4, h5⟩
    · exact .inl ⟨h1, by rw [h2]; exact q1⟩
    · exact .inr (.inl ⟨d1, d2, h1, h2, h3, h4, by rw [h5]; exact q1⟩)
    · exact .inr (.inr ⟨a, c, xs, h1, h2, h3, h4, by rw [h5]; exact q1⟩)
theorem Sr.isN {B W : List Addr} {H : Hp} {v : V} {d : D} (s : Sr K B W H v d) : decide (v = .non) = d.isN := by
  cases d with
  | lst ds =>
    obtain ⟨a, xs, rfl, _⟩ := s
    rfl
  | dic ks ds =>
    obtain ⟨a, xs, rfl, _⟩ := s
    rfl
  | dit ks ds =>
    obtain ⟨a, xs, rfl, _⟩ := s
    rfl
  | din w kk ks ds =>
    obtain ⟨a, xs, rfl, _⟩ := s
    rfl
  | ins C ks ds =>
    obtain ⟨a, dx, xs, rfl, _⟩ := s
    rfl
  | etup => exact Sg.isN s
  | non => exact Sg.isN s
  | bl b => exact Sg.isN s
  | int b => exact Sg.isN s
  | str b => exact Sg.isN s
  | ty b => exact Sg.isN s
  | raw b => exact Sg.isN s
  | tup b => exact Sg.isN s
/-- x is None, x is True -/
def D.is1 (neg : Bool) (x y : D) : M D := match y with
  | .non => .ret (.bl (neg != x.isN))
  | .bl j => match x with
    | .bl i => .ret (.bl (neg != decide (i = j)))
    | _ => .fail
  | _ => .fail
abbrev rIs1 : R2 := rOr (fun x y H Q => y = .non ∧ Q (.bl (decide (x = .non))) H) rIsB
theorem op_isX {X : Cx} : OpR X (compareOp .Is) rIs1 := opr_or op_isN op_isBl
theorem is_d : OpD K rIs1 (D.is1 false) := by
  intro x y P w B W H v u b sv su Q q
  cases y with
  | non =>
    cases su
    refine .inl ⟨rfl, ?_⟩
    rw [sv.isN]
    refine q _ _ H Gs.refl (.bl _) ?_
    have w : P (.bl (false != x.isN)) := w
    rwa [Bool.false_bne] at w
  | bl j =>
    cases su
    cases x with
    | bl i =>
      cases sv
      refine .inr ⟨i, j, rfl, rfl, q _ _ H Gs.refl (.bl _) ?_⟩
      have w : P (.bl (false != decide (i = j))) := w
      rwa [Bool.false_bne] at w
    | _ => exact w.elim
  | _ => exact w.elim
/-- a sign in a text, data in a list of data -/
def D.inb (x y : D) : Option Bool := match y with
  | .str z => match x with
    | .str c => match c.cps.toList with
      | [c] => some (decide (c ∈ z.cps.toList))
      | _ => none
    | _ => none
  | .lst ds => if (x.pu && D.puA ds && (SeqAt.shaped x.py && SeqAt.shaped (D.lst ds).py)) = true then some ((D.pyA ds).any fun z => PyData.eqv z x.py) else none
  | _ => none
abbrev rInSg : R2 := fun x y H Q => ∃ (c : Nat) (z : Str), x = .str ⟨#[c]⟩ ∧ y = .str z ∧ Q (.bl (decide (c ∈ z.cps.toList))) H
abbrev rNinSg : R2 := fun x y H Q => ∃ (c : Nat) (z : Str), x = .str ⟨#[c]⟩ ∧ y = .str z ∧ Q (.bl (!decide (c ∈ z.cps.toList))) H
abbrev rInX (K : PySem.W.Frag) : R2 := rOr rInSg (rInD K)
abbrev rNinX (K : PySem.W.Frag) : R2 := rOr rNinSg (rNotInD K)
theorem op_inX {X : Cx} (h : X.K = K) (hu : X.A.units + 65 < cLine) : OpR X (compareOp .In) (rInX K) := by
  subst h
  exact opr_or op_in_sign (op_inD hu)
theorem op_ninX {X : Cx} (h : X.K = K) (hu : X.A.units + 65 < cLine) : OpR X (compareOp .NotIn) (rNinX K) := by
  subst h
  exact opr_or op_notIn_sign (op_notInD hu)
theorem inb_case {B W : List Addr} {H : Hp} {v u : V} {x y : D} {b : Bool} (e : x.inb y = some b) (sv : Sr K B W H v x) (su : Sr K B W H u y) : (∃ (c : Nat) (z : Str), v = .str ⟨#[c]⟩ ∧ u = .str z ∧ decide (c ∈ z.cps.toList) = b) ∨
    ∃ d ds, Dp K H v d ∧ Dp K H u (.list ds) ∧ SeqAt.shaped d = true ∧ SeqAt.shaped (.list ds) = true ∧ (ds.any fun z => PyData.eqv z d) = b := by
  cases y with
  | str z =>
    cases x with
    | str c =>
      have e : (match c.cps.toList with | [c] => some (decide (c ∈ z.cps.toList)) | _ => none) = some b := e
      split at e
      · rename_i c' ec
        cases sv
        cases su
        refine .inl ⟨c', z, ?_, rfl, Option.some.inj e⟩
        have : c = ⟨#[c']⟩ := by
          cases c
          congr 1
          exact Array.toList_inj.mp ec
        rw [this]
      · cases e
    | _ => cases e
  | lst ds =>
    have e : (if (x.pu && D.puA ds && (SeqAt.shaped x.py && SeqAt.shaped (D.lst ds).py)) = true then some ((D.pyA ds).any fun z => PyData.eqv z x.py) else none) = some b := e
    by_cases h : (x.pu && D.puA ds && (SeqAt.shaped x.py && SeqAt.shaped (D.lst ds).py)) = true
    · rw [if_pos h] at e
      simp only [Bool.and_eq_true] at h
      have z := su.dp (show (D.lst ds).pu = true from h.1.2)
      exact .inr ⟨x.py, D.pyA ds, sv.dp h.1.1, z, h.2.1, h.2.2, Option.some.inj e⟩
    · rw [if_neg h] at e
      cases e
  | _ => cases e
def D.inM (x y : D) : M D := M.ofO (x.inb y)
def D.ninM (x y : D) : M D := M.ofOn (x.inb y)
theorem in_d : OpD K (rInX K) D.inM := by
  intro x y P w B W H v u b sv su Q q
  unfold D.inM at w
  cases e : x.inb y with
  | none =>
    rw [e] at w
    exact w.elim
  | some k =>
    rw [e] at w
    have q1 : Q (.bl k) H := q _ _ H Gs.refl (.bl _) w
    rcases inb_case e sv su with ⟨c, z, h1, h2, h3⟩ | ⟨d1, d2, h1, h2, h3, h4, h5⟩
    · exact .inl ⟨c, z, h1, h2, by rw [h3]; exact q1⟩
    · exact .inr ⟨d1, d2, h1, h2, h3, h4, by rw [h5]; exact q1⟩
theorem nin_d : OpD K (rNinX K) D.ninM := by
  intro x y P w B W H v u b sv su Q q
  unfold D.ninM at w
  cases e : x.inb y with
  | none =>
    rw [e] at w
    exact w.elim
  | some k =>
    rw [e] at w
    have q1 : Q (.bl (!k)) H := q _ _ H Gs.refl (.bl _) w
    rcases inb_case e sv su with ⟨c, z, h1, h2, h3⟩ | ⟨d1, d2, h1, h2, h3, h4, h5⟩
    · exact .inl ⟨c, z, h1, h2, by rw [h3]; exact q1⟩
    · exact .inr ⟨d1, d2, h1, h2, h3, h4, by rw [h5]; exact q1⟩
abbrev rIx (K : PySem.W.Frag) : R2 := rOr (rIxL K) (rOr (rIxT K) rIxS)
theorem ixX {X : Cx} (h : X.K = K) : IxR X (rIx K) := by
  subst h
  exact ixr_or ix_list (ixr_or ix_tup ix_str)
def M.ofD : Option D → M D
  | some d => .ret d
  | none => .fail
def D.ix (x y : D) : M D := match x, y with
  | .lst ds, .int i => M.ofD (atI ds i)
  | .tup ds, .int i => M.ofD (atI ds i)
  | .str z, .int i => if z.length ≤ 16777216 then M.ofD ((atI z.cps.toList i).map fun c => .str ⟨#[c]⟩) else .fail
  | _, _ => .fail
theorem ofD_at {o : Option D} {P : D → Prop} (w : wp (M.ofD o) P) : ∃ d, o = some d ∧ P d := by
  cases o with
  | none => exact w.elim
  | some d => exact ⟨d, rfl, w⟩
theorem ix_d : OpD K (rIx K) D.ix := by
  intro x y P w B W H v u b sv su Q q
  cases y with
  | int i =>
    cases su
    cases x with
    | lst ds =>
      obtain ⟨a, xs, rfl, _, h, r⟩ := sv
      obtain ⟨d, e, p⟩ := ofD_at w
      obtain ⟨z, e1, s⟩ := r.atI e
      exact .inl ⟨a, xs, i, z, rfl, rfl, SqL.of h, e1, q _ _ H Gs.refl s p⟩
    | tup ds =>
      obtain ⟨a, xs, rfl, h, r, _⟩ := sv.sqT
      obtain ⟨d, e, p⟩ := ofD_at w
      obtain ⟨z, e1, s⟩ := r.atI e
      exact .inr (.inl ⟨a, xs, i, z, rfl, rfl, h, e1, q _ _ H Gs.refl s p⟩)
    | str z =>
      cases sv
      obtain ⟨h1, w⟩ := wp_ite w
      obtain ⟨d, e, p⟩ := ofD_at w
      cases ea : atI z.cps.toList i with
      | none =>
        rw [ea] at e
        cases e
      | some c =>
        rw [ea] at e
        cases e
        exact .inr (.inr ⟨z, i, c, rfl, rfl, by rw [sizeLine_eq]; exact h1, ea, q _ _ H Gs.refl (.str _) p⟩)
    | _ => exact w.elim
  | _ => cases x <;> exact w.elim
abbrev rSl (K : PySem.W.Frag) : V → Option Int → Option Int → Hp → VK → Prop := rOr3 (rSlL K) (rOr3 (rSlA K) rSlS)
theorem slX {X : Cx} (h : X.K = K) : SlR X (rSl K) := by
  subst h
  exact slr_or sl_list (slr_or sl_tupA sl_str)
def D.sl (x : D) (lo hi : Option Int) : M D := match x with
  | .lst ds => .ret (.lst (cutG ds lo hi))
  | .tup ds => .ret (.tup (cutG ds lo hi))
  | .str z => if z.length ≤ 16777216 then .ret (.str (cutS z lo hi)) else .fail
  | _ => .fail
theorem sl_d : SlD K (rSl K) D.sl := by
  intro x lo hi P w B W H v b sv Q q
  cases x with
  | lst ds =>
    obtain ⟨a, xs, rfl, _, h, r⟩ := sv
    exact .inl ⟨_, _, rfl, SqL.of h, fun a na => q _ _ _ (Gs.new na) (.lst (b.notNew na) upd_same ((r.cut lo hi).gw (Gw.new na))) w⟩
  | tup ds => exact .inr (.inl (SD.slA (P := P) w B W H v b sv Q q))
  | str z =>
    cases sv
    obtain ⟨h1, w⟩ := wp_ite w
    exact .inr (.inr ⟨z, rfl, by rw [sizeLine_eq]; exact h1, q _ _ H Gs.refl (.str _) w⟩)
  | _ => exact w.elim
def M.one (k : D → M D) : List D → M D
  | [x] => k x
  | _ => .fail
def M.two (k : D → D → M D) : List D → M D
  | [x, y] => k x y
  | _ => .fail
theorem one_at {k : D → M D} {ds : List D} {P : D → Prop} (w : wp (M.one k ds) P) : ∃ x, ds = [x] ∧ wp (k x) P := by
  match ds, w with
  | [x], w => exact ⟨x, rfl, w⟩
theorem two_at {k : D → D → M D} {ds : List D} {P : D → Prop} (w : wp (M.two k ds) P) : ∃ x y, ds = [x, y] ∧ wp (k x y) P := by
  match ds, w with
  | [x, y], w => exact ⟨x, y, rfl, w⟩
theorem CaD.one {r : List V → Hp → VK → Prop} {k : D → M D} (h : ∀ (x : D) (P : D → Prop), wp (k x) P → ∀ (B W : List Addr) (H : Hp) (v : V), BW B W H → Sr K B W H v x → ∀ Q : VK, (∀ z d H', Gs W H H' → Sg K B H' z d → P d → Q z H') → r [v] H Q) : CaD K r (M.one k) := by
  intro ds P w B W H vs b s Q q
  obtain ⟨x, rfl, w⟩ := one_at w
  cases s with
  | cons s1 s2 =>
    cases s2
    exact h x P w B W H _ b s1 Q q
theorem CaN.one {r : List V → Hp → VK → Prop} {k : D → M D} (h : ∀ (x : D) (P : D → Prop), wp (k x) P → ∀ (B W : List Addr) (H : Hp) (v : V), BW B W H → Sr K B W H v x → ∀ Q : VK, (∀ a d H', Gs W H H' → H a = none → OwAt K (a :: B) H' a d → P d → Q (.ref a) H') → r [v] H Q) : CaN K r (M.one k) := by
  intro ds P w B W H vs b s Q q
  obtain ⟨x, rfl, w⟩ := one_at w
  cases s with
  | cons s1 s2 =>
    cases s2
    exact h x P w B W H _ b s1 Q q
def D.len : D → M D
  | .lst ds => .ret (.int ds.length)
  | .tup ds => .ret (.int ds.length)
  | .str z => if z.length ≤ 16777216 then .ret (.int z.length) else .fail
  | _ => .fail
theorem len_c : CaD K (rLenK K) (M.one D.len) := .one fun x P w B W H v b s Q q => by
  cases x with
  | lst ds =>
    obtain ⟨a, xs, rfl, _, h, r⟩ := s
    refine ⟨_, _, rfl, Or.inl ⟨_, SqL.of h, rfl⟩, ?_⟩
    rw [r.length]
    exact q _ _ H Gs.refl (.int _) w
  | tup ds =>
    obtain ⟨a, xs, rfl, h, r, _⟩ := s.sqT
    refine ⟨_, _, rfl, Or.inr ⟨_, h, rfl⟩, ?_⟩
    rw [r.length]
    exact q _ _ H Gs.refl (.int _) w
  | str z =>
    cases s
    obtain ⟨h1, w⟩ := wp_ite w
    exact ⟨_, _, rfl, ⟨by rw [sizeLine_eq]; exact h1, rfl⟩, q _ _ H Gs.refl (.int _) w⟩
  | _ => exact w.elim
def D.abs : D → M D
  | .int i => .ret (.int (if i < 0 then -i else i))
  | _ => .fail
def D.toInt : D → M D
  | .int i => .ret (.int i)
  | .bl k => .ret (.int (if k then 1 else 0))
  | _ => .fail
theorem int_c : CaD K (fun xs H Q => (∃ i, xs = [.int i] ∧ Q (.int i) H) ∨ ∃ k, xs = [.bl k] ∧ Q (.int (if k then 1 else 0)) H) (M.one D.toInt) := .one fun x P w B W H v b s Q q => by
  cases x with
  | int i =>
    cases s
    exact .inl ⟨i, rfl, q _ _ H Gs.refl (.int _) w⟩
  | bl k =>
    cases s
    exact .inr ⟨k, rfl, q _ _ H Gs.refl (.int _) w⟩
  | _ => exact w.elim
/-- all truths -/
def D.bls : List D → Option (List Bool)
  | [] => some []
  | .bl b :: ds => (D.bls ds).map fun bs => b :: bs
  | _ :: _ => none
theorem bls_at : ∀ {ds : List D} {bs : List Bool}, D.bls ds = some bs → ds = bs.map D.bl
  | [], _, e => by cases e; rfl
  | .bl b :: ds, bs, e => by
    unfold D.bls at e
    cases h : D.bls ds with
    | none =>
      rw [h] at e
      cases e
    | some cs =>
      rw [h] at e
      cases e
      rw [bls_at h]
      rfl
theorem bls_map (bs : List Bool) : D.bls (bs.map D.bl) = some bs := by
  induction bs with
  | nil => rfl
  | cons b bs ih =>
    show (D.bls (bs.map D.bl)).map _ = _
    rw [ih]
    rfl
def D.all : D → M D
  | .lst ds => match D.bls ds with
    | some bs => .ret (.bl (bs.all id))
    | none => .fail
  | _ => .fail
def D.any : D → M D
  | .lst ds => match D.bls ds with
    | some bs => .ret (.bl (bs.any id))
    | none => .fail
  | _ => .fail
theorem all_c : CaD K (rAll K) (M.one D.all) := .one fun x P w B W H v b s Q q => by
  cases x with
  | lst ds =>
    obtain ⟨a, xs, rfl, _, h, r⟩ := s
    have w : wp (match D.bls ds with | some bs => .ret (.bl (bs.all id)) | none => .fail) P := w
    cases e : D.bls ds with
    | none =>
      rw [e] at w
      exact w.elim
    | some bs =>
      rw [e] at w
      rw [bls_at e] at r
      rw [r.bls] at h
      exact ⟨a, bs, rfl, SqL.of h, q _ _ H Gs.refl (.bl _) w⟩
  | _ => exact w.elim
theorem any_c : CaD K (rAny K) (M.one D.any) := .one fun x P w B W H v b s Q q => by
  cases x with
  | lst ds =>
    obtain ⟨a, xs, rfl, _, h, r⟩ := s
    have w : wp (match D.bls ds with | some bs => .ret (.bl (bs.any id)) | none => .fail) P := w
    cases e : D.bls ds with
    | none =>
      rw [e] at w
      exact w.elim
    | some bs =>
      rw [e] at w
      rw [bls_at e] at r
      rw [r.bls] at h
      exact ⟨a, bs, rfl, SqL.of h, q _ _ H Gs.refl (.bl _) w⟩
  | _ => exact w.elim
def D.toTup : D → M D
  | .lst ds => .ret (.tup ds)
  | .tup ds => .ret (.tup ds)
  | _ => .fail
theorem tup_c : CaD K (rTupK K) (M.one D.toTup) := .one fun x P w B W H v b s Q q => by
  cases x with
  | lst ds =>
    obtain ⟨a, xs, rfl, _, h, r⟩ := s
    exact ⟨_, _, rfl, Or.inl ⟨SqL.of h, fun a na => q _ _ _ (Gs.new na) (.tup trivial upd_same (r.gw (Gw.new na))) w⟩⟩
  | tup ds =>
    obtain ⟨a, xs, rfl, h, r, s1⟩ := s.sqT
    exact ⟨_, _, rfl, Or.inr ⟨h, q _ _ H Gs.refl s1 w⟩⟩
  | _ => exact w.elim
def D.toLst : D → M D
  | .lst ds => .ret (.lst ds)
  | .tup ds => .ret (.lst ds)
  | _ => .fail
theorem lst_c : CaN K (rLstK K) (M.one D.toLst) := .one fun x P w B W H v b s Q q => by
  cases x with
  | lst ds =>
    obtain ⟨a, xs, rfl, _, h, r⟩ := s
    exact ⟨_, _, rfl, Or.inl (SqL.of h), fun a na => q a (.lst ds) _ (Gs.new na) na ⟨xs, upd_same, r.out na⟩ w⟩
  | tup ds =>
    obtain ⟨a, xs, rfl, h, r, s1⟩ := s.sqT
    exact ⟨_, _, rfl, Or.inr h, fun a na => q a (.lst ds) _ (Gs.new na) na ⟨xs, upd_same, r.out na⟩ w⟩
  | _ => exact w.elim
/-- repr of plain data of bounded size -/
def D.reprM (d : D) : M D := if (d.pl && d.py.showable && (decide (d.py.depth ≤ 60) && decide (d.py.shown.length ≤ 16777216))) = true then .ret (.str d.py.shown) else .fail
theorem Sr.dq {B W : List Addr} {H : Hp} {v : V} {d : D} (s : Sr K B W H v d) (p : d.pl = true) : Dq K H v d.py := by
  cases d with
  | lst ds =>
    obtain ⟨a, xs, rfl, _, h, r⟩ := s
    unfold D.py
    exact .lst (SqL.of h) (SgA.dq r (by simpa [D.pl] using p))
  | dic ks ds =>
    obtain ⟨a, xs, rfl, _, h, e, r⟩ := s
    unfold D.py
    exact .dic h e (SgA.dq r (by simpa [D.pl] using p))
  | dit ks ds => simp [D.pl] at p
  | din _ _ _ _ => simp [D.pl] at p
  | etup => simp [D.pl] at p
  | ins C ks ds => simp [D.pl] at p
  | non => exact Sg.dq s p
  | bl b => exact Sg.dq s p
  | int b => exact Sg.dq s p
  | str b => exact Sg.dq s p
  | ty b => exact Sg.dq s p
  | raw b => exact Sg.dq s p
  | tup b => exact Sg.dq s p
theorem repr_c : CaD K (rReprX K) (M.one D.reprM) := .one fun x P w B W H v b s Q q => by
  obtain ⟨h, w⟩ := wp_ite w
  simp only [Bool.and_eq_true, decide_eq_true_eq] at h
  exact ⟨_, _, rfl, s.dq h.1.1, h.1.2, h.2.1, by rw [sizeLine_eq]; exact h.2.2, q _ _ H Gs.refl (.str _) w⟩
/-- isinstance of data and a built-in type -/
theorem Sr.tyx {B W : List Addr} {H : Hp} {v : V} {d : D} {n : String} (s : Sr K B W H v d) (e : d.tyn = some n) : TyX K H v (.type n) := by
  cases d with
  | lst ds =>
    cases e
    obtain ⟨a, xs, rfl, _, h, r⟩ := s
    exact .base (.lst h)
  | dic ks ds =>
    cases e
    obtain ⟨a, xs, rfl, _, h, _, r⟩ := s
    rcases h with h | ⟨o, h⟩
    · exact .base (.dK h)
    · exact .fDict h
  | dit ks ds => cases e
  | din _ _ _ _ => cases e
  | ins C ks ds => cases e
  | non => exact Sg.tyx s e
  | bl b => exact Sg.tyx s e
  | int b => exact Sg.tyx s e
  | str b => exact Sg.tyx s e
  | ty b => exact Sg.tyx s e
  | raw b => exact Sg.tyx s e
  | tup b => exact Sg.tyx s e
  | etup => exact Sg.tyx s e
def D.isi (x y : D) : M D := match y with
  | .ty c => match x.tyn.bind fun n => kitB n c with
    | some b => .ret (.bl b)
    | none => .fail
  | _ => .fail
theorem CaD.two {r : List V → Hp → VK → Prop} {k : D → D → M D} (h : ∀ (x y : D) (P : D → Prop), wp (k x y) P → ∀ (B W : List Addr) (H : Hp) (v u : V), BW B W H → Sr K B W H v x → Sr K B W H u y → ∀ Q : VK, (∀ z d H', Gs W H H' → Sg K B H' z d → P d → Q z H') → r [v, u] H Q) : CaD K r (M.two k) := by
  intro ds P w B W H vs b s Q q
  obtain ⟨x, y, rfl, w⟩ := two_at w
  cases s with
  | cons s1 s2 =>
    cases s2 with
    | cons s2 s3 =>
      cases s3
      exact h x y P w B W H _ _ b s1 s2 Q q
theorem isi_c : CaD K (rIsi K) (M.two D.isi) := .two fun x y P w B W H v u b sv su Q q => by
  cases y with
  | ty c =>
    cases su
    have w : wp (match x.tyn.bind fun n => kitB n c with | some b => .ret (.bl b) | none => .fail) P := w
    cases e : x.tyn with
    | none =>
      rw [e] at w
      exact w.elim
    | some n =>
      rw [e] at w
      have w : wp (match kitB n c with | some b => .ret (.bl b) | none => .fail) P := w
      cases e2 : kitB n c with
      | none =>
        rw [e2] at w
        exact w.elim
      | some k =>
        rw [e2] at w
        exact ⟨_, _, _, _, k, rfl, .ty c, sv.tyx e, kit_ty e2, q _ _ H Gs.refl (.bl _) w⟩
  | _ => exact w.elim
def D.max2 (x y : D) : M D := D.int2 x y fun i j => .ret (.int (if j > i then j else i))
def D.min2 (x y : D) : M D := D.int2 x y fun i j => .ret (.int (if j < i then j else i))
end
end VB
namespace VB
open PySem PySem.Spec PyProof.Rows L2
def Bd (K : PySem.W.Frag) (H : Hp) : Prop := ∀ a xs, (SqL K H a xs ∨ SqT K H a xs) → xs.length ≤ 16777216
theorem bd_of {X : Cx} {pins : List (Addr × Obj)} {σ : L2.St} {H : Hp} {s : Shared} (I : Inv X pins σ H s) : Bd X.K H := fun a xs h => by
  rw [← sizeLine_eq]
  rcases h with h | h
  · obtain ⟨_, _, _, z⟩ := I.list h
    exact z
  · obtain ⟨_, _, _, z⟩ := I.tuple h
    exact z
/-- a list, a tuple, a text, walked -/
def iVal (K : PySem.W.Frag) (x : V) (H : Hp) (R : It → Hp → Prop) : Prop := (∃ a, x = .ref a ∧ (∃ xs, SqL K H a xs) ∧ R (Itl K a) H) ∨ (∃ a, x = .ref a ∧ (∃ xs, SqT K H a xs) ∧ R (Itt K a) H) ∨ ∃ z, x = .str z ∧ R (Its z) H
def iDat (K : PySem.W.Frag) (te : TE) : TI := fun σ H R => te σ H fun x H1 => Bd K H1 → iVal K x H1 R
theorem pi_dat {X : Cx} {K : PySem.W.Frag} {tg e : Expr} {te : TE} (hK : X.K = K) (he : PE X e te) : PI X tg e (iDat K te) := by
  subst hK
  refine ⟨fun pins s σ H R I h => thn (he.run pins s σ H _ I h) fun v s1 ⟨x, H1, I1, r1, q1⟩ => ?_⟩
  rcases q1 (bd_of I1) with ⟨a, rfl, ⟨xs, hq⟩, q⟩ | ⟨a, rfl, ⟨xs, hq⟩, q⟩ | ⟨z, rfl, q⟩
  · cases r1
    obtain ⟨its, rv, p, _⟩ := I1.list hq
    exact wpAny_pyIter_list p.isList (pi_one (tk := s1.toks) I1 _ (turn_list a _) ⟨_, Heap.get?_push_size _ rfl, rfl, rfl⟩ q)
  · cases r1
    obtain ⟨its, rv, p, _⟩ := I1.tuple hq
    exact wpAny_pyIter_tuple (show s1.heap.IsTuple a its.toArray from p) (pi_one (tk := s1.toks) I1 _ (turn_tuple a _) ⟨_, Heap.get?_push_size _ rfl, rfl, rfl⟩ q)
  · obtain ⟨t, rfl⟩ := r1
    cases ha : z.cps.all (· < 128)
    · exact wpAny_pyIter_wide ha (pi_one (tk := s1.toks) I1 _ (turn_str _ z t "str_iterator" (.inr rfl)) ⟨_, Heap.get?_push_size _ rfl, rfl, rfl⟩ q)
    · exact wpAny_pyIter_ascii ha (pi_one (tk := s1.toks) I1 _ (turn_str _ z t "str_ascii_iterator" (.inl rfl)) ⟨_, Heap.get?_push_size _ rfl, rfl, rfl⟩ q)
/-- any walk, with the bound -/
def iBd (K : PySem.W.Frag) (wi : TI) : TI := fun σ H R => wi σ H fun J H1 => Bd K H1 → R J H1
structure Kp (W : List Addr) (U : Addr → Prop) (H H' : Hp) : Prop where
  kp : ∀ a o, a ∉ W → ¬ U a → H a = some o → H' a = some o
  tups : ∀ a xs, H a = some (.tup xs) → H' a = some (.tup xs)
structure WalkD (K : PySem.W.Frag) (B W : List Addr) (U : Addr → Prop) (H1 : Hp) (J : It) (ds : List D) : Prop where
  len : ds.length ≤ 16777216
  goes : ∀ i H', i < ds.length → Kp W U H1 H' → J.go i H'
  stops : ∀ H', Kp W U H1 H' → J.stop ds.length H'
  yields : ∀ i H' x H'', i < ds.length → Kp W U H1 H' → J.yld i H' x H'' → Gs W H' H'' ∧ ∀ B' : List Addr, (∀ a ∈ B', H' a ≠ none) → (∀ v d, Sg K B H1 v d → Sg K B' H' v d) → ∃ d, ds[i]? = some d ∧ Sg K B' H'' x d
section
variable {K : PySem.W.Frag} {B W : List Addr} {U : Addr → Prop} {H1 : Hp} {a : Addr} {xs ys : List V} {ds es : List D}
theorem Gs.of_eq {H H' : Hp} (e : H' = H) : Gs W H H' := by
  rw [e]
  exact Gs.refl
theorem walkd_list (r : SgA K B H1 xs ds) (hk : ∀ H', Kp W U H1 H' → SqL K H' a xs) (hz : xs.length ≤ 16777216) : WalkD K B W U H1 (Itl K a) ds where
  len := by rw [← r.length]; exact hz
  goes := fun i H' hi k => walk_list.goes i H' (by rw [r.length]; exact hi) (hk H' k)
  stops := fun H' k => by
    have z := walk_list.stops H' (hk H' k)
    rw [r.length] at z
    exact z
  yields := fun i H' x H'' hi k y => by
    obtain ⟨e, hx⟩ := walk_list.yields i H' x H'' (by rw [r.length]; exact hi) (hk H' k) y
    obtain ⟨d, hd, s⟩ := r.getV hx
    exact ⟨Gs.of_eq e, fun B' _ t => ⟨d, hd, by rw [e]; exact t _ _ s⟩⟩
theorem walkd_tup (r : SgA K B H1 xs ds) (hk : ∀ H', Kp W U H1 H' → SqT K H' a xs) (hz : xs.length ≤ 16777216) : WalkD K B W U H1 (Itt K a) ds where
  len := by rw [← r.length]; exact hz
  goes := fun i H' hi k => walk_tup.goes i H' (by rw [r.length]; exact hi) (hk H' k)
  stops := fun H' k => by
    have z := walk_tup.stops H' (hk H' k)
    rw [r.length] at z
    exact z
  yields := fun i H' x H'' hi k y => by
    obtain ⟨e, hx⟩ := walk_tup.yields i H' x H'' (by rw [r.length]; exact hi) (hk H' k) y
    obtain ⟨d, hd, s⟩ := r.getV hx
    exact ⟨Gs.of_eq e, fun B' _ t => ⟨d, hd, by rw [e]; exact t _ _ s⟩⟩
def D.signs (z : Str) : List D := z.cps.toList.map fun c => .str ⟨#[c]⟩
theorem walkd_str {z : Str} (hz : z.length ≤ 16777216) : WalkD K B W U H1 (Its z) (D.signs z) where
  len := by unfold D.signs; rw [List.length_map, len_cps]; exact hz
  goes := fun i H' hi k => walk_str.goes i H' (by unfold D.signs at hi; simpa using hi) trivial
  stops := fun H' k => by
    have z1 := (walk_str (z := z)).stops H' trivial
    have e : (D.signs z).length = z.cps.size := by unfold D.signs; simp
    rw [e]
    exact z1
  yields := fun i H' x H'' hi k y => by
    obtain ⟨e, c, hc, rfl⟩ := walk_str.yields i H' x H'' (by unfold D.signs at hi; simpa using hi) trivial y
    refine ⟨Gs.of_eq e, fun B' _ t => ⟨.str ⟨#[c]⟩, ?_, .str _⟩⟩
    unfold D.signs
    rw [List.getElem?_map, Array.getElem?_toList, hc]
    rfl
def D.ints (lo : Int) (n : Nat) : List D := (List.range n).map fun i => .int (lo + (i : Nat))
theorem ints_len {lo : Int} {n : Nat} : (D.ints lo n).length = n := by
  unfold D.ints
  rw [List.length_map, List.length_range]
theorem walkd_range {lo : Int} {n : Nat} (hz : n ≤ 16777216) : WalkD K B W U H1 (Itr lo n) (D.ints lo n) where
  len := by rw [ints_len]; exact hz
  goes := fun i H' hi k => by
    rw [ints_len] at hi
    exact hi
  stops := fun H' k => by
    rw [ints_len]
    exact Nat.le_refl n
  yields := fun i H' x H'' hi k y => by
    rw [ints_len] at hi
    obtain ⟨e, rfl⟩ := y
    refine ⟨Gs.of_eq e, fun B' _ t => ⟨.int (lo + (i : Nat)), ?_, .int _⟩⟩
    unfold D.ints
    rw [List.getElem?_map, List.getElem?_range hi]
    rfl
/-- a new pair at each turn -/
theorem sg_pair {B' : List Addr} {H' : Hp} {T : Addr} {x y : V} {d e : D} (n : H' T = none) (kn : ∀ a ∈ B', H' a ≠ none) (s1 : Sg K B' H' x d) (s2 : Sg K B' H' y e) : Sg K B' (upd H' T (.tup [x, y])) (.ref T) (.tup [d, e]) :=
  .tup trivial upd_same (.cons (s1.gw (Gw.new n)) (.cons (s2.gw (Gw.new n)) .nil))
def D.zip (ds es : List D) : List D := ds.zipWith (fun d e => .tup [d, e]) es
theorem walkd_zip {b : Addr} (r : SgA K B H1 xs ds) (r2 : SgA K B H1 ys es) (hk : ∀ H', Kp W U H1 H' → SqL K H' a xs) (hk2 : ∀ H', Kp W U H1 H' → SqL K H' b ys) (hz : xs.length ≤ 16777216) : WalkD K B W U H1 (Itz K a b) (D.zip ds es) := by
  have hl : (D.zip ds es).length = min xs.length ys.length := by
    unfold D.zip
    rw [List.length_zipWith, r.length, r2.length]
  refine ⟨by rw [hl]; omega, fun i H' hi k => ?_, fun H' k => ?_, fun i H' x H'' hi k y => ?_⟩
  · exact (walk_zip hl).goes i H' hi ⟨hk H' k, hk2 H' k⟩
  · exact (walk_zip hl).stops H' ⟨hk H' k, hk2 H' k⟩
  · obtain ⟨T, x1, y1, rfl, hT, rfl, e1, e2⟩ := (walk_zip hl).yields i H' x H'' hi ⟨hk H' k, hk2 H' k⟩ y
    obtain ⟨d, hd, s⟩ := r.getV e1
    obtain ⟨e, he, s2⟩ := r2.getV e2
    refine ⟨Gs.new hT, fun B' kn t => ⟨.tup [d, e], ?_, sg_pair hT kn (t _ _ s) (t _ _ s2)⟩⟩
    unfold D.zip
    rw [List.getElem?_zipWith, hd, he]
end
/-- what is walked: lp = a for, whose body may change the frame's own objects -/
def EI (K : PySem.W.Frag) (lp : Bool) (wi : TI) (ρ : List En) (P : List D → Prop) : Prop := ∀ (B W : List Addr) (H : Hp) (σ : L2.St), EnvOk K B W H σ ρ → ∀ R : It → Hp → Prop,
  (∀ J ds H1, Gs W H H1 → WalkD K B W (fun a => lp = true ∧ Own σ ρ a) H1 J ds → P ds → R J H1) → wi σ H R
def RI (K : PySem.W.Frag) (lp : Bool) (wi : TI) (ρ : List En) (m : M (List D)) : Prop := ∀ P, wp m P → EI K lp wi ρ P
def D.items : D → M (List D)
  | .lst ds => .ret ds
  | .tup ds => .ret ds
  | .str z => if z.length ≤ 16777216 then .ret (D.signs z) else .fail
  | .etup => .ret []
  | _ => .fail
section
variable {K : PySem.W.Frag} {ρ : List En} {te : TE} {ta : TA} {m : M D} {mA : MA} {lp : Bool} {P : List D → Prop}
theorem iVal_of {B W : List Addr} {H : Hp} {v : V} {d : D} {U : Addr → Prop} {R : It → Hp → Prop} (bd : Bd K H) (w : wp d.items P) (s : Sr K B W H v d) (nU : ∀ a, v = .ref a → d.isRoot = true → ¬ U a) (q : ∀ J ds, WalkD K B W U H J ds → P ds → R J H) : iVal K v H R := by
  cases d with
  | lst ds =>
    obtain ⟨a, xs, rfl, aW, h, r⟩ := s
    exact .inl ⟨a, rfl, ⟨xs, SqL.of h⟩, q _ _ (walkd_list r (fun H' k => SqL.of (k.kp a _ aW (nU a rfl rfl) h)) (bd a xs (.inl (SqL.of h)))) w⟩
  | tup ds =>
    cases (show Sg K B H v (.tup ds) from s) with
    | @tup a xs _ nB h r =>
      exact .inr (.inl ⟨a, rfl, ⟨xs, Or.inl (Rd.of h)⟩, q _ _ (walkd_tup r (fun H' k => Or.inl (Rd.of (k.tups a _ h))) (bd a xs (.inr (Or.inl (Rd.of h))))) w⟩)
  | etup =>
    cases (show Sg K B H v .etup from s) with
    | @etup a h => exact .inr (.inl ⟨a, rfl, ⟨[], h H⟩, q _ _ (walkd_tup .nil (fun H' _ => h H') (bd a [] (.inr (h H)))) w⟩)
  | str z =>
    cases (show Sg K B H v (.str z) from s)
    obtain ⟨h1, w⟩ := wp_ite w
    exact .inr (.inr ⟨z, rfl, q _ _ (walkd_str h1) w⟩)
  | _ => exact w.elim
theorem RI.dat (h : RE K te ρ m) : RI K lp (iDat K te) ρ (m.bind D.items) := fun P w B W H σ e R q => h _ (wp_bind.mp w) B W H σ e _ fun v d H1 g s w1 bd => by
  have e1 := e.gs g
  refine iVal_of bd w1 (s.sr e.bw.sub) (fun a ea hr u => ?_) fun J ds wk p => q J ds H1 g wk p
  subst ea
  have o := (e1.ownB u.2).1
  cases s with
  | lst n _ _ => exact n o
  | dic n _ _ _ => exact n o
  | dit n _ _ _ => exact n o
  | din n _ _ _ _ => exact n o
  | ins n _ _ _ => exact n o
  | _ => cases hr
theorem RI.rd (h : RR K te ρ m) : RI K false (iDat K te) ρ (m.bind D.items) := fun P w B W H σ e R q => h _ (wp_bind.mp w) B W H σ e _ fun v d H1 g s w1 bd =>
  iVal_of bd w1 s (fun a _ _ u => nomatch u.1) fun J ds wk p => q J ds H1 g wk p
/-- a for over an argument that is only read -/
theorem RI.bor {i : Nat} {d : D} (h : ρ[i]? = some (.bor d)) : RI K lp (iDat K (tVar i)) ρ (D.items d) := fun P w B W H σ e R q => by
  obtain ⟨v, e1, s⟩ := e.sl i _ h
  refine ⟨v, e1, fun bd => iVal_of bd w s (fun a ea hr u => e.sep a u.2 ⟨i, d, h, hr, ea ▸ e1⟩) fun J ds wk p => q J ds H Gs.refl wk p⟩
/-- ranges -/
def D.rng1 : List D → M (List D)
  | [.int n] => if -4611686018427387904 ≤ n ∧ n ≤ 16777216 then .ret (D.ints 0 n.toNat) else .fail
  | _ => .fail
theorem RI.rng1 (h : RAr K ta ρ mA) : RI K lp (iRng1 ta) ρ (mA _ D.rng1) := fun P w B W H σ e R q => h _ _ _ w B W H σ e _ fun vs ds H1 g s w1 => by
  match ds, s, w1 with
  | [.int n], .cons s1 .nil, w1 =>
    cases s1
    obtain ⟨h1, w2⟩ := wp_ite w1
    exact ⟨n, rfl, by omega, by omega, q _ _ H1 g (walkd_range (by omega)) w2⟩
end
mutual
inductive Pt where
  | nm (j : Nat) | tp (ps : Pts)
inductive Pts where
  | nil | cons (p : Pt) (ps : Pts)
end
def Pts.len : Pts → Nat
  | .nil => 0
  | .cons _ ps => ps.len + 1
mutual
def Pt.g (K : PySem.W.Frag) : Pt → TG
  | .nm j => gName j
  | .tp ps => gTup K ps.len (ps.gs K)
def Pts.gs (K : PySem.W.Frag) : Pts → TGs
  | .nil => gNil
  | .cons p ps => gCons (p.g K) (ps.gs K)
end
mutual
def Pt.bd : Pt → D → List En → Option (List En)
  | .nm j, d, ρ => some (ρ.set j (.dat d))
  | .tp ps, .tup ds, ρ => ps.bd ds ρ
  | .tp _, _, _ => none
def Pts.bd : Pts → List D → List En → Option (List En)
  | .nil, [], ρ => some ρ
  | .cons p ps, d :: ds, ρ => (p.bd d ρ).bind fun ρ' => ps.bd ds ρ'
  | _, _, _ => none
end
mutual
def Pt.sl : Pt → List Nat
  | .nm j => [j]
  | .tp ps => ps.sl
def Pts.sl : Pts → List Nat
  | .nil => []
  | .cons p ps => p.sl ++ ps.sl
end
theorem wipe_get {σ : L2.St} : ∀ (js : List Nat) (i : Nat), (wipe σ js)[i]? = if i ∈ js then (if i < σ.length then some none else none) else σ[i]?
  | [], i => by simp [wipe]
  | j :: js, i => by
    unfold wipe
    rw [List.getElem?_set, wipe_length, wipe_get js i]
    by_cases h : j = i
    · subst h
      simp
    · have h2 : ¬ i = j := fun z => h z.symm
      simp [h, h2]
theorem wipe_set {σ : L2.St} {j : Nat} {o : Option V} {js : List Nat} (m : j ∈ js) : wipe (σ.set j o) js = wipe σ js := by
  apply List.ext_getElem?
  intro i
  rw [wipe_get, wipe_get, List.length_set]
  by_cases h : i ∈ js
  · rw [if_pos h, if_pos h]
  · rw [if_neg h, if_neg h, List.getElem?_set_ne fun z => h (by rw [← z]; exact m)]
/-- what is known behind a target -/
structure PtAft (K : PySem.W.Frag) (B W : List Addr) (H : Hp) (σ σ' : L2.St) (ρ ρ' : List En) (sl : List Nat) : Prop where
  en : EnvOk K B W H σ' ρ'
  wi : ∀ js : List Nat, (∀ j ∈ sl, j ∈ js) → wipe σ' js = wipe σ js
  ow : ∀ a, Own σ' ρ' a → Own σ ρ a
section
variable {K : PySem.W.Frag} {B W : List Addr} {H : Hp}
theorem PtAft.trans {σ σ1 σ2 : L2.St} {ρ ρ1 ρ2 : List En} {s1 s2 : List Nat} (a : PtAft K B W H σ σ1 ρ ρ1 s1) (b : PtAft K B W H σ1 σ2 ρ1 ρ2 s2) : PtAft K B W H σ σ2 ρ ρ2 (s1 ++ s2) :=
  ⟨b.en, fun js h => (b.wi js fun j m => h j (List.mem_append_right _ m)).trans (a.wi js fun j m => h j (List.mem_append_left _ m)), fun x o => a.ow x (b.ow x o)⟩
mutual
theorem Pt.ok : ∀ (p : Pt) {v : V} {d : D} {σ : L2.St} {ρ ρ' : List En} {Q : L2.St → Hp → Prop}, EnvOk K B W H σ ρ → Sg K B H v d → p.bd d ρ = some ρ' → (∀ σ', PtAft K B W H σ σ' ρ ρ' p.sl → Q σ' H) → p.g K v σ H Q
  | .nm j, v, d, σ, ρ, ρ', Q, e, s, h, q => by
    cases h
    exact q _ ⟨e.set s, fun js hj => wipe_set (hj j (List.mem_singleton_self _)), fun a o => o.set rfl⟩
  | .tp ps, v, .tup ds, σ, ρ, ρ', Q, e, s, h, q => by
    have go : ∀ {a : Addr} {xs : List V}, SqT K H a xs → SgA K B H xs ds → (Pt.tp ps).g K (.ref a) σ H Q := fun {a xs} hT r => ⟨a, xs, rfl, hT, by rw [r.length]; exact Pts.blen ps h, Pts.ok ps e r h q⟩
    cases s with
    | tup n h r => exact go (Or.inl (Rd.of h)) r
theorem Pts.ok : ∀ (ps : Pts) {xs : List V} {ds : List D} {σ : L2.St} {ρ ρ' : List En} {Q : L2.St → Hp → Prop}, EnvOk K B W H σ ρ → SgA K B H xs ds → ps.bd ds ρ = some ρ' → (∀ σ', PtAft K B W H σ σ' ρ ρ' ps.sl → Q σ' H) → ps.gs K xs σ H Q
  | .nil, xs, [], σ, ρ, ρ', Q, e, r, h, q => by
    cases h
    cases r
    exact ⟨rfl, q _ ⟨e, fun _ _ => rfl, fun _ o => o⟩⟩
  | .cons p ps, xs, d :: ds, σ, ρ, ρ', Q, e, r, h, q => by
    cases r with
    | cons s r =>
      have h : ((p.bd d ρ).bind fun ρ' => ps.bd ds ρ') = some ρ' := h
      cases h1 : p.bd d ρ with
      | none =>
        rw [h1] at h
        cases h
      | some ρ1 =>
        rw [h1] at h
        exact ⟨_, _, rfl, Pt.ok p e s h1 fun σ1 a1 => Pts.ok ps a1.en r h fun σ2 a2 => q σ2 (a1.trans a2)⟩
theorem Pts.blen : ∀ (ps : Pts) {ds : List D} {ρ ρ' : List En}, ps.bd ds ρ = some ρ' → ds.length = ps.len
  | .nil, [], _, _, _ => rfl
  | .nil, _ :: _, _, _, h => by cases h
  | .cons p ps, [], _, _, h => by cases h
  | .cons p ps, d :: ds, ρ, ρ', h => by
    have h : ((p.bd d ρ).bind fun ρ' => ps.bd ds ρ') = some ρ' := h
    cases h1 : p.bd d ρ with
    | none =>
      rw [h1] at h
      cases h
    | some ρ1 =>
      rw [h1] at h
      show ds.length + 1 = ps.len + 1
      rw [Pts.blen ps h]
end
end
/-- a tuple of two, of three -/
def D.un2 {α : Type} (x : D) (k : D → D → M α) : M α := match x with
  | .tup [a, b] => k a b
  | _ => .fail
section
variable {α : Type} {P : α → Prop} {x : D}
theorem un2_at {k : D → D → M α} (w : wp (D.un2 x k) P) : ∃ a b, x = .tup [a, b] ∧ wp (k a b) P := by
  unfold D.un2 at w
  split at w
  · exact ⟨_, _, rfl, w⟩
  · exact w.elim
end
abbrev Pt.two (i j : Nat) : Pt := .tp (.cons (.nm i) (.cons (.nm j) .nil))
/-- what is bound by a target: by the data x, k tells what goes on -/
def PB (p : Pt) (ρ : List En) {α : Type} (k : D → M α) (C : (α → Prop) → List En → Prop) : Prop := ∀ x P, wp (k x) P → ∃ ρ', p.bd x ρ = some ρ' ∧ C P ρ'
section
variable {ρ : List En} {α : Type} {C : (α → Prop) → List En → Prop}
theorem PB.nm {j : Nat} {k : D → M α} (h : ∀ x P, wp (k x) P → C P (ρ.set j (.dat x))) : PB (.nm j) ρ k C := fun x P w => ⟨_, rfl, h x P w⟩
theorem PB.two {i j : Nat} {k : D → D → M α} (h : ∀ a b P, wp (k a b) P → C P ((ρ.set i (.dat a)).set j (.dat b))) : PB (Pt.two i j) ρ (fun x => D.un2 x k) C := fun x P w => by
  obtain ⟨a, b, rfl, w⟩ := un2_at w
  exact ⟨_, rfl, h a b P w⟩
end
def M.cm (k : D → M (Option D)) : List D → M (List D)
  | [] => .ret []
  | x :: xs => (k x).bind fun o => (M.cm k xs).bind fun r => .ret (match o with | some y => y :: r | none => r)
/-- without a test -/
def M.map (k : D → M D) : List D → M (List D)
  | [] => .ret []
  | x :: xs => (k x).bind fun y => (M.map k xs).bind fun r => .ret (y :: r)
theorem cm_map {k : D → M D} : ∀ xs, M.cm (fun x => (k x).bind fun y => .ret (some y)) xs = M.map k xs
  | [] => rfl
  | x :: xs => by
    unfold M.cm M.map
    rw [M.assoc, cm_map xs]
    rfl
def clrL (ρ : List En) : List Nat → List En
  | [] => ρ
  | j :: js => (clrL ρ js).set j .no
theorem EnvOk.clrs {K : PySem.W.Frag} {B W : List Addr} {H : Hp} {σ : L2.St} {ρ : List En} (h : EnvOk K B W H σ ρ) : ∀ js, EnvOk K B W H (wipe σ js) (clrL ρ js) ∧ (∀ a, Own (wipe σ js) (clrL ρ js) a → Own σ ρ a) ∧ ∀ a, Bor (wipe σ js) (clrL ρ js) a → Bor σ ρ a
  | [] => ⟨h, fun _ o => o, fun _ o => o⟩
  | j :: js => by
    obtain ⟨a, b, c⟩ := h.clrs js
    exact ⟨EnvOk.clr (i := j) a, fun x o => b x (Own.set (i := j) (o := none) (e := .no) o rfl), fun x o => c x (Bor.set (i := j) (o := none) (e := .no) o rfl)⟩
/-- one turn of a comprehension's block -/
def CT (K : PySem.W.Frag) (tt : TT) (te : TE) (P : Option D → Prop) (ρ : List En) : Prop := ET K tt ρ fun b => if b = true then EV K te ρ fun y => P (some y) else P none
section
variable {K : PySem.W.Frag} {ρ : List En} {te : TE} {tt : TT} {p : Pt} {js : List Nat} {wi : TI} {mi : M (List D)}
theorem CT.plain {m : M D} (h : RE K te ρ m) {P : Option D → Prop} (w : wp (m.bind fun y => .ret (some y)) P) : CT K tYes te P ρ := ET.yes (by
  rw [if_pos rfl]
  exact h _ (wp_bind.mp w))
theorem CT.test {mt : M Bool} {m : M D} (ht : RT K tt ρ mt) (h : RE K te ρ m) {P : Option D → Prop} (w : wp (mt.bind fun b => if b = true then m.bind fun y => .ret (some y) else .ret none) P) : CT K tt te P ρ := ET.imp (ht _ (wp_bind.mp w)) fun b w1 => by
  cases b with
  | true =>
    rw [if_pos rfl] at w1 ⊢
    exact h _ (wp_bind.mp w1)
  | false =>
    rw [if_neg Bool.false_ne_true] at w1 ⊢
    exact w1
/-- the state between two turns -/
def CS (K : PySem.W.Frag) (B W : List Addr) (H1 : Hp) (Dl : Addr) (σ : L2.St) (ρ : List En) (k : D → M (Option D)) (ds : List D) (P : List D → Prop) (i : Nat) (H : Hp) : Prop :=
  ∃ (acc : List V) (es : List D), H Dl = some (.lst acc) ∧ SgA K (Dl :: B) H acc es ∧ es.length ≤ i ∧ wp (M.cm k (ds.drop i)) (fun r => P (es ++ r)) ∧ EnvOk K (Dl :: B) W H σ ρ ∧ Gs W H1 H
theorem RN.lc {k : D → M (Option D)} (hi : RI K false wi ρ mi) (hs : ∀ j ∈ p.sl, j ∈ js) (hk : PB p (clrL ρ js) k (CT K tt te)) : RN K (tLc wi (p.g K) tt te js) ρ (mi.bind fun ds => (M.cm k ds).bind fun es => .ret (.lst es)) := fun P w B W H σ e Q q =>
  hi _ (wp_bind.mp w) B W H σ e _ fun J ds H1 g1 wk w1 Dl nD => by
    have e1 := e.gs g1
    have dB : Dl ∉ B := e1.bw.notNew nD
    have dW : Dl ∉ W := fun m => dB (e1.bw.sub _ m)
    obtain ⟨e2, o2, b2⟩ := e1.clrs js
    have kp : ∀ {H' : Hp}, Gs W H1 H' → Kp W (fun a => false = true ∧ Own σ ρ a) H1 H' := fun g => ⟨fun a o nW _ h => g.gw.keep a o nW h, g.gw.tups⟩
    have nO : ¬ Own (wipe σ js) (clrL ρ js) Dl := fun o => (e1.ownB (o2 _ o)).2.2 nD
    have nB : ¬ Bor (wipe σ js) (clrL ρ js) Dl := fun o => e1.borK (b2 _ o) nD
    refine ⟨fun i m H' => m = ds.length - i ∧ i ≤ ds.length ∧ CS K B W H1 Dl (wipe σ js) (clrL ρ js) k ds (fun es => P (.lst es)) i H', ⟨ds.length, by simp, Nat.zero_le _, [], [], upd_same, .nil, Nat.le_refl _, wp_bind.mp w1, e2.out nD, Gs.new nD⟩, ?_⟩
    rintro i m H2 ⟨rfl, hle, acc, es, hD, sa, hl, w2, en, g⟩
    by_cases hlt : i < ds.length
    · refine .inr ⟨wk.goes i H2 hlt (kp g), fun H' => i + 1 ≤ ds.length ∧ CS K B W H1 Dl (wipe σ js) (clrL ρ js) k ds (fun es => P (.lst es)) (i + 1) H', fun H' z => ⟨ds.length - (i + 1), by omega, rfl, z⟩, fun x H3 hy => ?_⟩
      obtain ⟨g3, hy⟩ := wk.yields i H2 x H3 hlt (kp g) hy
      obtain ⟨d, hd, s⟩ := hy (Dl :: B) (fun a m => en.bw.kn a m) fun v d s => by
        refine (s.out (u := .lst acc) nD).gw ⟨fun b o nb eb => ?_, fun b eb => ?_, fun b xs eb => ?_⟩
        · have hb : b ≠ Dl := fun q => nb (q ▸ List.mem_cons_self ..)
          rw [upd_ne hb] at eb
          exact g.gw.keep b o (fun m => nb (List.mem_cons_of_mem _ (e1.bw.sub _ m))) eb
        · have hb : b ≠ Dl := fun q => by
            rw [q, hD] at eb
            cases eb
          rw [upd_ne hb]
          exact g.gw.free b eb
        · have hb : b ≠ Dl := fun q => by
            rw [q, upd_same] at eb
            cases eb
          rw [upd_ne hb] at eb
          exact g.gw.tups b xs eb
      rw [List.drop_eq_getElem_cons hlt, show ds[i] = d from Option.some.inj (by rw [← hd, List.getElem?_eq_getElem hlt])] at w2
      have w3 := wp_bind.mp (show wp ((k d).bind fun o => (M.cm k (ds.drop (i + 1))).bind fun r => .ret (match o with | some y => y :: r | none => r)) (fun r => P (.lst (es ++ r))) from w2)
      obtain ⟨ρ', hb, hC⟩ := hk d _ w3
      have en3 := en.gs g3
      refine Pt.ok p en3 s hb fun σ4 a4 => ⟨a4.wi js hs |>.trans ?_, hC (Dl :: B) W H3 σ4 a4.en _ fun b H5 g5 c5 => ?_⟩
      · apply List.ext_getElem?
        intro z
        rw [wipe_get, wipe_get, wipe_length]
        by_cases hz : z ∈ js
        · simp only [if_pos hz]
        · simp only [if_neg hz]
      · cases b with
        | true =>
          rw [if_pos rfl] at c5 ⊢
          refine c5 (Dl :: B) W H5 σ4 (a4.en.gs g5) _ fun y dy H6 g6 s6 w6 => ?_
          have g36 := (g3.trans g5).trans g6
          have hD6 : H6 Dl = some (.lst acc) := g36.gw.keep _ _ dW hD
          have en6 := en.gs g36
          refine ⟨acc, hD6, ?_, by omega, acc ++ [y], es ++ [dy], upd_same, ?_, ?_, ?_, en6.wr ⟨_, hD6, fun _ z => nomatch z⟩ (List.mem_cons_self ..) dW nO nB, (g.trans g36).mut nD⟩
          · rw [sa.length, sizeLine_eq]
            have := wk.len
            omega
          · exact ((sa.gw (en.bw.gw g36)).append (.cons s6 .nil)).gw (Gw.wr (List.mem_cons_self ..) ⟨_, hD6, fun _ z => nomatch z⟩)
          · rw [List.length_append, List.length_singleton]
            omega
          · refine wp_mono (wp_bind.mp w6) fun r z => ?_
            rw [List.append_assoc]
            exact z
        | false =>
          rw [if_neg Bool.false_ne_true] at c5 ⊢
          have g35 := g3.trans g5
          exact ⟨by omega, acc, es, g35.gw.keep _ _ dW hD, sa.gw (en.bw.gw g35), Nat.le_succ_of_le hl, wp_mono (wp_bind.mp c5) fun r z => z, en.gs g35, g.trans g35⟩
    · have hi2 : i = ds.length := by omega
      subst hi2
      refine .inl ⟨wk.stops H2 (kp g), q Dl (.lst es) H2 (g1.trans g) (g1.gw.free _ nD) ⟨acc, hD, sa⟩ ?_⟩
      rw [List.drop_length] at w2
      have w2 : P (.lst (es ++ [])) := w2
      rwa [List.append_nil] at w2
/-- one turn without a test -/
def CTp (K : PySem.W.Frag) (te : TE) (P : D → Prop) (ρ : List En) : Prop := EV K te ρ P
theorem RN.map {k : D → M D} (hi : RI K false wi ρ mi) (hs : ∀ j ∈ p.sl, j ∈ js) (hk : PB p (clrL ρ js) k (CTp K te)) : RN K (tLc wi (p.g K) tYes te js) ρ (mi.bind fun ds => (M.map k ds).bind fun es => .ret (.lst es)) := by
  have z := RN.lc (k := fun x => (k x).bind fun y => .ret (some y)) hi hs (tt := tYes) (te := te) fun x P w => by
    obtain ⟨ρ', h1, h2⟩ := hk x (fun y => P (some y)) (wp_bind.mp w)
    exact ⟨ρ', h1, ET.yes (by rw [if_pos rfl]; exact h2)⟩
  simp only [cm_map] at z
  exact z
theorem CTp.of {m : M D} (h : RE K te ρ m) {P : D → Prop} (w : wp m P) : CTp K te P ρ := h P w
end
/-- a test by a value's truth -/
theorem pt_tr {X : Cx} {K : PySem.W.Frag} {a : Expr} {ta : TE} (hK : X.K = K) (ha : PE X a ta) (he : ∀ whole, isTrue a X.env whole = (do let v ← whole; standAt a.pos; holding [v] (truthy v))) : PT X a (tTruth K ta) := by
  subst hK
  exact pt_truth ha he
theorem room65 {k : Nat} {A : Around} (r : Room k A) : A.units + 65 < cLine := by
  have := r.un
  omega
end VB
namespace VB
open PySem PySem.Spec PyProof.Rows L2
inductive Wk : List En → List En → Prop
  | nil : Wk [] []
  | same (e : En) {ρ ρ' : List En} : Wk ρ ρ' → Wk (e :: ρ) (e :: ρ')
  | drop (e : En) {ρ ρ' : List En} : Wk ρ ρ' → Wk (e :: ρ) (.no :: ρ')
theorem Wk.len : ∀ {ρ ρ' : List En}, Wk ρ ρ' → ρ.length = ρ'.length
  | _, _, .nil => rfl
  | _, _, .same _ h => congrArg (· + 1) h.len
  | _, _, .drop _ h => congrArg (· + 1) h.len
theorem Wk.get : ∀ {ρ ρ' : List En} {i : Nat} {e : En}, Wk ρ ρ' → ρ'[i]? = some e → e = .no ∨ ρ[i]? = some e
  | _, _, _, _, .nil, h => by simp at h
  | _, _, 0, _, .same _ _, h => .inr h
  | _, _, i + 1, e, .same _ w, h => w.get (i := i) (show _ = some e from h)
  | _, _, 0, _, .drop _ _, h => .inl (by cases h; rfl)
  | _, _, i + 1, e, .drop _ w, h => w.get (i := i) (show _ = some e from h)
theorem Wk.refl : ∀ {ρ : List En}, Wk ρ ρ
  | [] => .nil
  | e :: ρ => .same e Wk.refl
section
variable {K : PySem.W.Frag} {F B W : List Addr} {H : Hp} {σ : L2.St} {ρ ρ' : List En}
theorem Wk.own {a : Addr} (w : Wk ρ ρ') (o : Own σ ρ' a) : Own σ ρ a := by
  obtain ⟨i, d, h1, h2⟩ := o
  exact (w.get h1).elim (fun z => nomatch z) fun z => ⟨i, d, z, h2⟩
theorem Wk.bor {a : Addr} (w : Wk ρ ρ') (o : Bor σ ρ' a) : Bor σ ρ a := by
  obtain ⟨i, d, h1, h3, h2⟩ := o
  exact (w.get h1).elim (fun z => nomatch z) fun z => ⟨i, d, z, h3, h2⟩
theorem EnvOk.wk (h : EnvOk K B W H σ ρ) (w : Wk ρ ρ') : EnvOk K B W H σ ρ' := by
  refine ⟨h.bw, h.len.trans w.len, fun i e q => ?_, fun i j d e a h1 h2 h3 h4 => ?_, fun a o b => h.sep a (w.own o) (w.bor b)⟩
  · rcases w.get q with rfl | z
    · trivial
    · exact h.sl i e z
  · rcases w.get h1 with z | z
    · cases z
    · rcases w.get h2 with z2 | z2
      · cases z2
      · exact h.one i j d e a z z2 h3 h4
theorem EnvOk.wkF (h : EnvOk K B W H σ ρ) (f : Fr F B W σ ρ) (w : Wk ρ ρ') : ∃ B', EnvOk K B' W H σ ρ' ∧ Fr F B' W σ ρ' := (h.wk w).fix f.fb (fun a m o => f.no a m (w.own o)) f.wf
end
inductive Fl (S L : Type) where
  | nx (s : S) | rt (d : D) | bk (l : L) | ct (l : L)
def CFl {S L : Type} (emb : S → List En) (embL : L → List En) (P : Po) : Fl S L → Prop
  | .nx s => P.nx (emb s)
  | .rt d => P.rt d
  | .bk l => P.bk (embL l)
  | .ct l => P.ct (embL l)
def M.k2 {α : Type} (k : D → D → M α) : List D → M α
  | [x, y] => k x y
  | _ => .fail
/-- the block t does what m says -/
def G (K : PySem.W.Frag) (R : Po → Prop) (t : TS) (ρ : List En) {α : Type} (m : M α) (C : Po → α → Prop) : Prop := ∀ P : Po, R P → wp m (C P) → ST K t ρ P
abbrev frR (fr : Option Bool) : Po → Prop := fun P => P.fr = fr
/-- a loop's body: continue and the end are one -/
abbrev lpR (fr : Option Bool) : Po → Prop := fun P => P.fr = fr ∧ ∀ ρ, P.nx ρ → P.ct ρ
/-- a block that only goes on -/
def CP {S : Type} (emb : S → List En) (P : Po) (s : S) : Prop := P.nx (emb s)
/-- a def's whole body: what falls through hands None back -/
abbrev fnR (fr : Option Bool) : Po → Prop := fun P => P.fr = fr ∧ ∀ ρ, P.rt .non → P.nx ρ
def CF (P : Po) (d : D) : Prop := P.rt d
section
variable {K : PySem.W.Frag} {R : Po → Prop} {t u v : TS} {ρ : List En} {α β : Type} {m : M α} {C : Po → α → Prop} {te : TE} {tt : TT} {ta : TA} {md : M D} {mt : M Bool} {i j : Nat} {k : D → M α} {k2 : D → D → M α}
theorem G.one (h : G K R (tSeq t tNext) ρ m C) : G K R t ρ m C := h
theorem G.assoc (h : G K R (tSeq t (tSeq u v)) ρ m C) : G K R (tSeq (tSeq t u) v) ρ m C := h
theorem G.wk {ρ' : List En} (w : Wk ρ ρ') (h : G K R t ρ' m C) : G K R t ρ m C := fun P r w1 F B W H σ e f E q1 q2 q3 q4 => by
  obtain ⟨B', e', f'⟩ := e.wkF f w
  have g : Gu W (Own σ ρ) (Own σ ρ') H H := .of Gs.refl fun a o => w.own o
  exact h P r w1 F B' W H σ e' f' E (q1.after g) (q2.after g) (q3.after g) (q4.after g)
theorem G.asg (he : RE K te ρ md) (h : ∀ d, G K R u (ρ.set i (.dat d)) (k d) C) : G K R (tSeq (tAsg te (gName i)) u) ρ (md.bind k) C := fun P r w => ST.seq (ST.asg (EV.imp (he _ (wp_bind.mp w)) fun d w1 ρ' e => by
  subst e
  exact h d P r w1))
theorem G.asgO (he : RN K te ρ md) (h : ∀ d, G K R u (ρ.set i (.own ⟨none, d⟩)) (k d) C) : G K R (tSeq (tAsg te (gName i)) u) ρ (md.bind k) C := fun P r w => ST.seq (ST.asgO (EVN.imp (he _ (wp_bind.mp w)) fun d w1 ρ' e => by
  subst e
  exact h d P r w1))
theorem G.drop (he : RE K te ρ md) (h : G K R u ρ m C) : G K R (tSeq (tDrop te) u) ρ (md.bind fun _ => m) C := fun P r w => ST.seq (ST.drop (EV.imp (he _ (wp_bind.mp w)) fun d w1 => h P r w1))
theorem G.par {A : MA} (he : RAs K ta ρ A) (h : ∀ x y, G K R u ((ρ.set i (.dat x)).set j (.dat y)) (k2 x y) C) : G K R (tSeq (tPar i j ta) u) ρ (A α (M.k2 k2)) C := fun P r w => ST.seq (ST.par fun B W H σ e Q q => he α _ _ w B W H σ e Q fun vs ds H' g s w1 => q vs ds H' g s (by
  match ds, w1 with
  | [x, y], w1 => exact ⟨x, y, rfl, fun ρ' e => by subst e; exact h x y P r w1⟩))
/-- a, b = e -/
theorem G.unp {p : Pt} {kk : D → M α} (he : RE K te ρ md) (h : PB p ρ kk fun Q ρ' => ∀ P : Po, R P → (∀ a, Q a → C P a) → ST K u ρ' P) : G K R (tSeq (tAsg te (p.g K)) u) ρ (md.bind kk) C := fun P r w F B W H σ e f E q1 q2 q3 q4 =>
  he _ (wp_bind.mp w) B W H σ e _ fun v d H1 g1 s1 w1 => by
    obtain ⟨ρ', hb, hC⟩ := h d _ w1
    refine Pt.ok p (e.gs g1) s1 hb fun σ' a' => ?_
    obtain ⟨B', e2, f2⟩ := a'.en.fix f.fb (fun a m o => f.no a m (a'.ow a o)) f.wf
    have g : Gu W (Own σ ρ) (Own σ' ρ') H H1 := .of g1 fun a o => a'.ow a o
    exact hC P r (fun a z => z) F B' W H1 σ' e2 f2 E (q1.after g) (q2.after g) (q3.after g) (q4.after g)
theorem unp_of {ρ' : List En} {m : M α} (h : G K R u ρ' m C) {Q : α → Prop} (w : wp m Q) : ∀ P : Po, R P → (∀ a, Q a → C P a) → ST K u ρ' P := fun P r z => h P r (wp_mono w z)
theorem G.ifS {m2 : M α} (ht : RT K tt ρ mt) (h1 : G K R (tSeq t v) ρ m C) (h2 : G K R (tSeq u v) ρ m2 C) : G K R (tSeq (tIfS tt t u) v) ρ (mt.bind fun b => if b = true then m else m2) C := fun P r w =>
  (show ST K (tIfS tt (tSeq t v) (tSeq u v)) ρ P from ST.ifs (ET.imp (ht _ (wp_bind.mp w)) fun b w1 => by
    cases b with
    | true => exact h1 P r w1
    | false => exact h2 P r w1))
theorem G.never : G K R (tSeq tNever v) ρ (.fail : M α) C := fun P r w => w.elim
/-- a local's own object is data from here on -/
theorem G.frz {tg : Option Addr} {d : D} (hi : ρ[i]? = some (.own ⟨tg, d⟩)) (h : G K R t (ρ.set i (.dat d)) m C) : G K R t ρ m C := fun P r w => ST.frz hi (h P r w)
theorem G.next (h : G K R v ρ m C) : G K R (tSeq tNext v) ρ m C := h
theorem G.retF (hR : ∀ P, R P → P.fr = false) (he : RE K te ρ md) : G K R (tSeq (tRet te) v) ρ md CF := fun P r w => show ST K (tRet te) ρ P from ST.ret (he _ w) (hR P r)
theorem G.retFN (hR : ∀ P, R P → P.fr = true) (he : RN K te ρ md) : G K R (tSeq (tRet te) v) ρ md CF := fun P r w => show ST K (tRet te) ρ P from ST.retF (he _ w) (hR P r)
theorem G.retFO {tg : Option Addr} {d : D} (hR : ∀ P, R P → P.fr = true) (hi : ρ[i]? = some (.own ⟨tg, d⟩)) : G K R (tSeq (tRet (tVar i)) v) ρ (.ret d) CF := fun P r w => show ST K (tRet (tVar i)) ρ P from ST.retO hi w (hR P r)
variable {S L : Type} {emb : S → List En} {embL : L → List En}
theorem G.retS (hR : ∀ P, R P → P.fr = false) (he : RE K te ρ md) : G K R (tSeq (tRet te) v) ρ (md.bind fun d => .ret (.rt d)) (CFl emb embL) := fun P r w => show ST K (tRet te) ρ P from ST.ret (he _ (wp_bind.mp w)) (hR P r)
theorem wk_go {F B W : List Addr} {H : Hp} {σ : L2.St} {ρ' : List En} {M : List En → Prop} {Q : L2.St → Hp → Prop} (e : EnvOk K B W H σ ρ) (f : Fr F B W σ ρ) (w : Wk ρ ρ') (q : Cn K F W H σ ρ M Q) (p : M ρ') : Q σ H := by
  obtain ⟨B', e', f'⟩ := e.wkF f w
  exact q ρ' σ H B' (.of Gs.refl fun a o => w.own o) e' f' p
theorem G.finS {s : S} (w : Wk ρ (emb s)) : G K R tNext ρ (.ret (.nx s)) (CFl emb embL) := fun P r p F B W H σ e f E q1 q2 q3 q4 => wk_go e f w q1 p
theorem G.finP {s : S} (w : Wk ρ (emb s)) : G K R tNext ρ (.ret s) (CP emb) := fun P r p F B W H σ e f E q1 q2 q3 q4 => wk_go e f w q1 p
theorem G.contP {fr : Option Bool} {s : S} (w : Wk ρ (emb s)) : G K (lpR fr) (tSeq tCont v) ρ (.ret s) (CP emb) := fun P r p F B W H σ e f E q1 q2 q3 q4 => wk_go e f w q4 (r.2 _ p)
theorem G.brk {l : L} (w : Wk ρ (embL l)) : G K R (tSeq tBreak v) ρ (.ret (.bk l)) (CFl emb embL) := fun P r p F B W H σ e f E q1 q2 q3 q4 => wk_go e f w q3 p
theorem G.cont {l : L} (w : Wk ρ (embL l)) : G K R (tSeq tCont v) ρ (.ret (.ct l)) (CFl emb embL) := fun P r p F B W H σ e f E q1 q2 q3 q4 => wk_go e f w q4 p
/-- what goes on behind a part that may end otherwise: within a def -/
def Fl.toF (k : S → M D) : Fl S Empty → M D
  | .nx s => k s
  | .rt d => .ret d
  | .bk e => e.elim
  | .ct e => e.elim
def Fl.toS {S' : Type} (k : S → M (Fl S' L)) : Fl S L → M (Fl S' L)
  | .nx s => k s
  | .rt d => .ret (.rt d)
  | .bk l => .ret (.bk l)
  | .ct l => .ret (.ct l)
def noL : Empty → List En := fun e => e.elim
def M.loop {X : Type} (f : D → L → M (Fl L L)) : List D → L → M (Fl L X)
  | [], s => .ret (.nx s)
  | x :: xs, s => (f x s).bind fun o => match o with
    | .nx s' => M.loop f xs s'
    | .ct s' => M.loop f xs s'
    | .bk s' => .ret (.nx s')
    | .rt d => .ret (.rt d)
/-- a loop that only goes on -/
def M.fold (f : D → L → M L) : List D → L → M L
  | [], s => .ret s
  | x :: xs, s => (f x s).bind fun s' => M.fold f xs s'
theorem loop_fold {X : Type} {f : D → L → M L} : ∀ xs s, M.loop (X := X) (fun x s => (f x s).bind fun s' => .ret (.nx s')) xs s = (M.fold f xs s).bind fun s => .ret (.nx s)
  | [], s => rfl
  | x :: xs, s => by
    unfold M.loop M.fold
    rw [M.assoc, M.assoc]
    congr 1
    funext s'
    exact loop_fold xs s'
/-- the turn of a loop -/
def LT (K : PySem.W.Frag) (fr : Option Bool) (t : TS) (embL : L → List En) (Q : Fl L L → Prop) (ρ : List En) : Prop := ∀ P : Po, lpR fr P → (∀ o, Q o → CFl embL embL P o) → ST K t ρ P
theorem LT.of {fr : Option Bool} {m : M (Fl L L)} (h : G K (lpR fr) t ρ m (CFl embL embL)) {Q : Fl L L → Prop} (w : wp m Q) : LT K fr t embL Q ρ := fun P r z => h P r (wp_mono w z)
/-- the turn of a loop that only goes on -/
def LTp (K : PySem.W.Frag) (fr : Option Bool) (t : TS) (embL : L → List En) (Q : L → Prop) (ρ : List En) : Prop := ∀ P : Po, lpR fr P → (∀ s, Q s → P.nx (embL s)) → ST K t ρ P
theorem LTp.of {fr : Option Bool} {m : M L} (h : G K (lpR fr) t ρ m (CP embL)) {Q : L → Prop} (w : wp m Q) : LTp K fr t embL Q ρ := fun P r z => h P r (wp_mono w z)
theorem ST.forW {wi : TI} {p : Pt} {P : Po} {mi : M (List D)} {s0 : L} {f : D → L → M (Fl L L)} {P' : Fl L Empty → Prop} (hi : RI K true wi ρ mi) (w0 : Wk ρ (embL s0)) (hk : ∀ s, PB p (embL s) (fun x => f x s) (LT K P.fr t embL)) (w : wp (mi.bind fun ds => M.loop f ds s0) P')
    (hP : ∀ o, P' o → match o with | .nx s => P.nx (embL s) | .rt d => P.rt d | .bk e => e.elim | .ct e => e.elim) : ST K (tFor wi (p.g K) t) ρ P := fun F B W H σ e f0 E q1 q2 q3 q4 =>
  hi _ (wp_bind.mp w) B W H σ e _ fun J ds H1 g1 wk w1 => by
    have e1 := e.gs g1
    have g01 : Gu W (Own σ ρ) (Own σ ρ) H H1 := .of g1 fun _ o => o
    obtain ⟨B0, e0, fr0⟩ := e1.wkF f0 w0
    have kp : ∀ {H' : Hp} {σ' : L2.St} {ρ' : List En}, Gu W (Own σ ρ) (Own σ' ρ') H1 H' → Kp W (fun a => true = true ∧ Own σ ρ a) H1 H' := fun g => ⟨fun a o nW nU h => g.keep a o nW (fun u => nU ⟨rfl, u⟩) h, g.tups⟩
    refine ⟨fun i m σ' H' => m = ds.length - i ∧ i ≤ ds.length ∧ ∃ s B', Gu W (Own σ ρ) (Own σ' (embL s)) H1 H' ∧ EnvOk K B' W H' σ' (embL s) ∧ Fr F B' W σ' (embL s) ∧ wp (M.loop f (ds.drop i) s) P', ⟨ds.length, by simp, Nat.zero_le _, s0, B0, .of Gs.refl fun a o => w0.own o, e0, fr0, w1⟩, ?_⟩
    rintro i m σ2 H2 ⟨rfl, hle, s, B2, g2, e2, fr2, w2⟩
    by_cases hlt : i < ds.length
    · rw [List.drop_eq_getElem_cons hlt] at w2
      have w3 := wp_bind.mp (show wp ((f ds[i] s).bind fun o => match o with | .nx s' => M.loop f (ds.drop (i + 1)) s' | .ct s' => M.loop f (ds.drop (i + 1)) s' | .bk s' => .ret (.nx s') | .rt d => .ret (.rt d)) P' from w2)
      refine .inr ⟨wk.goes i H2 hlt (kp g2), fun σ' H' => i + 1 ≤ ds.length ∧ ∃ s B', Gu W (Own σ ρ) (Own σ' (embL s)) H1 H' ∧ EnvOk K B' W H' σ' (embL s) ∧ Fr F B' W σ' (embL s) ∧ wp (M.loop f (ds.drop (i + 1)) s) P', fun σ' H' z => ⟨ds.length - (i + 1), by omega, rfl, z⟩, fun x H3 hy => ?_⟩
      obtain ⟨g3, hy⟩ := wk.yields i H2 x H3 hlt (kp g2) hy
      obtain ⟨d, hd, sd⟩ := hy B2 (fun a m => e2.bw.kn a m) fun v d s => s.gu e1 f0 g2 fr2
      have ed : ds[i] = d := Option.some.inj (by rw [← hd, List.getElem?_eq_getElem hlt])
      rw [ed] at w3
      obtain ⟨ρ', hb, hC⟩ := hk s d _ w3
      refine Pt.ok p (e2.gs g3) sd hb fun σ4 a4 => ?_
      obtain ⟨B4, e4, fr4⟩ := a4.en.fix fr2.fb (fun a m o => fr2.no a m (a4.ow a o)) fr2.wf
      have g4 : Gu W (Own σ ρ) (Own σ4 ρ') H1 H3 := g2.trans (.of g3 fun a o => a4.ow a o)
      have again : ∀ {ρ5 : List En} {σ5 : L2.St} {H5 : Hp} {B5 : List Addr}, Gu W (Own σ4 ρ') (Own σ5 ρ5) H3 H5 → EnvOk K B5 W H5 σ5 ρ5 → Fr F B5 W σ5 ρ5 → (∃ s', ρ5 = embL s' ∧ wp (M.loop f (ds.drop (i + 1)) s') P') → i + 1 ≤ ds.length ∧ ∃ s B', Gu W (Own σ ρ) (Own σ5 (embL s)) H1 H5 ∧ EnvOk K B' W H5 σ5 (embL s) ∧ Fr F B' W σ5 (embL s) ∧ wp (M.loop f (ds.drop (i + 1)) s) P' := fun g5 e5 fr5 z => by
        obtain ⟨s', rfl, w5⟩ := z
        exact ⟨hlt, s', _, g4.trans g5, e5, fr5, w5⟩
      refine hC ⟨fun ρ5 => ∃ s', ρ5 = embL s' ∧ wp (M.loop f (ds.drop (i + 1)) s') P', P.rt, P.nx, fun ρ5 => ∃ s', ρ5 = embL s' ∧ wp (M.loop f (ds.drop (i + 1)) s') P', P.fr⟩ ⟨rfl, fun _ z => z⟩ (fun o w5 => ?_) F B4 W H3 σ4 e4 fr4 { E with nx := _, ct := _, bk := E.nx }
        (fun ρ5 σ5 H5 B5 g5 e5 fr5 z => again g5 e5 fr5 z) ((q2.after g01).after g4) ((q1.after g01).after g4) (fun ρ5 σ5 H5 B5 g5 e5 fr5 z => again g5 e5 fr5 z)
      cases o with
      | nx s' => exact ⟨s', rfl, w5⟩
      | ct s' => exact ⟨s', rfl, w5⟩
      | bk s' => exact hP _ w5
      | rt d => exact hP _ w5
    · have hi2 : i = ds.length := by omega
      subst hi2
      rw [List.drop_length] at w2
      exact .inl ⟨wk.stops H2 (kp g2), q1 _ σ2 H2 B2 (g01.trans g2) e2 fr2 (hP _ w2)⟩
theorem G.forF {wi : TI} {p : Pt} {fr : Option Bool} {mi : M (List D)} {s0 : L} {f : D → L → M (Fl L L)} {kk : L → M D} (hR : ∀ P, R P → P.fr = fr) (hi : RI K true wi ρ mi) (w0 : Wk ρ (embL s0)) (hk : ∀ s, PB p (embL s) (fun x => f x s) (LT K fr t embL)) (h2 : ∀ s, G K R v (embL s) (kk s) CF) :
    G K R (tSeq (tFor wi (p.g K) t) v) ρ (mi.bind fun ds => (M.loop f ds s0).bind (Fl.toF kk)) CF := fun P r w => ST.seq (by
  have e := hR P r
  subst e
  refine ST.forW (P := { P with nx := fun ρ' => ST K v ρ' P }) (P' := fun o => wp (Fl.toF kk o) (CF P)) hi w0 hk (wp_bind.mpr (wp_mono (wp_bind.mp w) fun ds w1 => wp_bind.mp w1)) fun o w1 => ?_
  match o, w1 with
  | .nx s, w1 => exact h2 s P r w1
  | .rt d, w1 => exact w1
  | .bk e, _ => exact e.elim
  | .ct e, _ => exact e.elim)
/-- a loop that only goes on -/
theorem G.forP {wi : TI} {p : Pt} {fr : Option Bool} {mi : M (List D)} {s0 : L} {f : D → L → M L} {kk : L → M α} (hR : ∀ P, R P → P.fr = fr) (hi : RI K true wi ρ mi) (w0 : Wk ρ (embL s0)) (hk : ∀ s, PB p (embL s) (fun x => f x s) (LTp K fr t embL)) (h2 : ∀ s, G K R v (embL s) (kk s) C) :
    G K R (tSeq (tFor wi (p.g K) t) v) ρ (mi.bind fun ds => (M.fold f ds s0).bind kk) C := fun P r w => ST.seq (by
  have e := hR P r
  subst e
  refine ST.forW (P := { P with nx := fun ρ' => ST K v ρ' P }) (f := fun x s => (f x s).bind fun s' => .ret (.nx s')) (P' := fun o => match o with | .nx s => wp (kk s) (C P) | _ => False) hi w0 (fun s x Q w => by
    obtain ⟨ρ', h1, h2⟩ := hk s x (fun s' => Q (.nx s')) (wp_bind.mp w)
    exact ⟨ρ', h1, fun P' r' z => h2 P' r' fun s' q => z _ q⟩) (wp_bind.mpr (wp_mono (wp_bind.mp w) fun ds w1 => ?_)) fun o w1 => ?_
  · rw [loop_fold]
    exact wp_bind.mpr (wp_mono (wp_bind.mp w1) fun s z => z)
  · match o, w1 with
    | .nx s, w1 => exact h2 s P r w1)
end
section
variable {K : PySem.W.Frag} {R : Po → Prop} {u : TS} {ρ : List En} {α : Type} {C : Po → α → Prop} {te tk : TE} {ta : TA} {md mk : M D} {i : Nat} {tg : Option Addr} {d : D} {k : D → M α}
def D.lsk {α : Type} (d : D) (k : List D → M α) : M α := match d with
  | .lst ds => k ds
  | _ => .fail
theorem lsk_at {α : Type} {d : D} {k : List D → M α} {P : α → Prop} (w : wp (D.lsk d k) P) : ∃ ds, d = .lst ds ∧ wp (k ds) P := by
  cases d with
  | lst ds => exact ⟨ds, rfl, w⟩
  | _ => exact w.elim
def D.app (d x : D) : M D := d.lsk fun ds => if ds.length < 16777216 then .ret (.lst (ds ++ [x])) else .fail
theorem wp_use {α : Type} {m : M α} {P : α → Prop} {Q : Prop} (w : wp m P) (h : ∀ a, P a → Q) : Q := Classical.byContradiction fun n => wp_false (wp_mono w fun a p => n (h a p))
theorem own_ls {k' : D → List D → M α} {P : α → Prop} (w : wp (md.bind fun x => D.lsk d (k' x)) P) : ∃ ds, d = .lst ds := wp_use (wp_bind.mp w) fun x w1 => (lsk_at w1).imp fun ds z => z.1
theorem G.app {kk : D → M α} (hi : ρ[i]? = some (.own ⟨tg, d⟩)) (he : RE K te ρ md) (h : ∀ d', G K R u (ρ.set i (.own ⟨tg, d'⟩)) (kk d') C) : G K R (tSeq (tDrop (tBM K "list" rAppend (tVar i) (tCons te tNil))) u) ρ (md.bind fun x => d.lsk fun ds => if ds.length < 16777216 then kk (.lst (ds ++ [x])) else .fail) C := fun P r w => by
  obtain ⟨ds, rfl⟩ := own_ls w
  have hz : ds.length < 16777216 := wp_use (wp_bind.mp w) fun x w1 => (wp_ite w1).1
  refine ST.seq (ST.app hi hz (EV.imp (he _ (wp_bind.mp w)) fun x w1 ρ' e => ?_))
  subst e
  exact h _ P r (wp_ite w1).2
def D.insK {α : Type} (ds : List D) (p q : D) (k : D → M α) : M α := match p with
  | .int n => if 0 ≤ n ∧ n < 9223372036854775808 then k (.lst (ds.take n.toNat ++ [q] ++ ds.drop n.toNat)) else .fail
  | _ => .fail
theorem G.ins {A : MA} {kk : D → M α} (hi : ρ[i]? = some (.own ⟨tg, d⟩)) (he : RAs K ta ρ A) (h : ∀ d', G K R u (ρ.set i (.own ⟨tg, d'⟩)) (kk d') C) :
    G K R (tSeq (tDrop (tBM K "list" rInsert (tVar i) ta)) u) ρ (d.lsk fun ds => if ds.length < 16777216 then A α (M.k2 fun p q => D.insK ds p q kk) else .fail) C := fun P r w => by
  obtain ⟨ds, rfl, w⟩ := lsk_at w
  obtain ⟨hz, w⟩ := wp_ite w
  refine ST.seq (ST.ins hi hz fun B W H σ e Q q => he α _ _ w B W H σ e Q fun vs es H' g s w1 => q vs es H' g s ?_)
  match es, w1 with
  | [p, x], w1 =>
    cases p with
    | int n =>
      obtain ⟨h1, w2⟩ := wp_ite (show wp (if 0 ≤ n ∧ n < 9223372036854775808 then kk (.lst (ds.take n.toNat ++ [x] ++ ds.drop n.toNat)) else .fail) (C P) from w1)
      exact ⟨n, x, rfl, h1.1, h1.2, fun ρ' e => by subst e; exact h _ P r w2⟩
    | _ => exact w1.elim
theorem G.ext {kk : D → M α} (hi : ρ[i]? = some (.own ⟨tg, d⟩)) (he : RE K te ρ md) (h : ∀ d', G K R u (ρ.set i (.own ⟨tg, d'⟩)) (kk d') C) : G K R (tSeq (tDrop (tBM K "list" rExtend (tVar i) (tCons te tNil))) u) ρ (md.bind fun x => d.lsk fun ds => x.lsk fun es => if ds.length + es.length ≤ 16777216 then kk (.lst (ds ++ es)) else .fail) C := fun P r w => by
  obtain ⟨ds, rfl⟩ := own_ls w
  refine ST.seq (ST.ext hi (EV.imp (he _ (wp_bind.mp w)) fun x w1 => ?_))
  obtain ⟨es, rfl, w2⟩ := lsk_at (show wp (x.lsk fun es => if ds.length + es.length ≤ 16777216 then kk (.lst (ds ++ es)) else .fail) (C P) from w1)
  obtain ⟨h1, w3⟩ := wp_ite w2
  exact ⟨es, rfl, h1, fun ρ' e => by subst e; exact h _ P r w3⟩
theorem G.clr {kk : D → M α} (hi : ρ[i]? = some (.own ⟨tg, d⟩)) (h : ∀ d', G K R u (ρ.set i (.own ⟨tg, d'⟩)) (kk d') C) : G K R (tSeq (tDrop (tBM0 K "list" rClear (tVar i))) u) ρ (d.lsk fun ds => kk (.lst [])) C := fun P r w => by
  obtain ⟨ds, rfl, w⟩ := lsk_at w
  exact ST.seq (ST.clr hi fun ρ' e => by subst e; exact h _ P r w)
/-- xs[k] = e -/
theorem G.item {kk : D → M α} (hi : ρ[i]? = some (.own ⟨tg, d⟩)) (he : RE K te ρ md) (hk : RE K tk ρ mk) (h : ∀ d', G K R u (ρ.set i (.own ⟨tg, d'⟩)) (kk d') C) :
    G K R (tSeq (tAsg te (gSub (tVar i) tk rSetL)) u) ρ (md.bind fun x => mk.bind fun y => d.lsk fun ds => y.asI.bind fun n => match ixN ds.length n with | some j => kk (.lst (ds.set j x)) | none => .fail) C := fun P r w => by
  obtain ⟨ds, rfl⟩ : ∃ ds, d = .lst ds := wp_use (wp_bind.mp w) fun x w1 => wp_use (wp_bind.mp w1) fun y w2 => (lsk_at w2).imp fun ds z => z.1
  refine ST.seq (ST.item hi (EV.imp (he _ (wp_bind.mp w)) fun x w1 => EV.imp (hk _ (wp_bind.mp w1)) fun y w2 => ?_))
  obtain ⟨n, rfl, w3⟩ := asI_at (wp_bind.mp (show wp (y.asI.bind fun n => match ixN ds.length n with | some j => kk (.lst (ds.set j x)) | none => .fail) (C P) from w2))
  have w3 : wp (match ixN ds.length n with | some j => kk (.lst (ds.set j x)) | none => .fail) (C P) := w3
  cases e : ixN ds.length n with
  | none =>
    rw [e] at w3
    exact w3.elim
  | some j =>
    rw [e] at w3
    exact ⟨n, j, rfl, e, fun ρ' e => by subst e; exact h _ P r w3⟩
end
inductive Md where
  | dat | bor | bag
/-- an argument as it is handed over -/
def Am (K : PySem.W.Frag) (B W : List Addr) (H : Hp) (v : V) : Md → D → Prop
  | .dat, d => Sg K B H v d
  | .bor, d => Sr K B W H v d
  | .bag, d => ∃ b, d = .raw b ∧ v = .ref b ∧ b ∈ W ∧ ∃ c ns, c ∉ B ∧ BagC H b c ns
def Md.en : Md → D → En
  | .dat, d => .dat d
  | .bor, d => .bor d
  | .bag, .raw b => .bag b
  | .bag, _ => .no
inductive AmA (K : PySem.W.Frag) (B W : List Addr) (H : Hp) : List Md → List V → List D → Prop
  | nil : AmA K B W H [] [] []
  | cons {m : Md} {v : V} {d : D} {ms : List Md} {vs : List V} {ds : List D} : Am K B W H v m d → AmA K B W H ms vs ds → AmA K B W H (m :: ms) (v :: vs) (d :: ds)
section
variable {K : PySem.W.Frag} {B W : List Addr} {H H' : Hp}
theorem Am.gs {v : V} {m : Md} {d : D} (w : ∀ a ∈ W, a ∈ B) (g : Gs W H H') (h : Am K B W H v m d) : Am K B W H' v m d := by
  cases m with
  | dat => exact Sg.gw (g.gw.mono w) h
  | bor => exact Sr.gs w g h
  | bag =>
    obtain ⟨b, e1, e2, m, c, ns, nc, hb⟩ := h
    exact ⟨b, e1, e2, m, c, ns, nc, g.bag b m c ns (fun z => nc (w c z)) hb⟩
theorem AmA.gs (w : ∀ a ∈ W, a ∈ B) (g : Gs W H H') : ∀ {ms vs ds}, AmA K B W H ms vs ds → AmA K B W H' ms vs ds
  | _, _, _, .nil => .nil
  | _, _, _, .cons h r => .cons (h.gs w g) (AmA.gs w g r)
theorem AmA.append : ∀ {ms ms2 vs vs2 ds ds2}, AmA K B W H ms vs ds → AmA K B W H ms2 vs2 ds2 → AmA K B W H (ms ++ ms2) (vs ++ vs2) (ds ++ ds2)
  | _, _, _, _, _, _, .nil, s => s
  | _, _, _, _, _, _, .cons h r, s => .cons h (AmA.append r s)
theorem AmA.len : ∀ {ms vs ds}, AmA K B W H ms vs ds → vs.length = ms.length ∧ ds.length = ms.length
  | _, _, _, .nil => ⟨rfl, rfl⟩
  | _, _, _, .cons _ r => ⟨congrArg (· + 1) r.len.1, congrArg (· + 1) r.len.2⟩
end
/-- a bag's argument is a bag -/
inductive Mds : List Md → List D → Prop
  | nil : Mds [] []
  | dat (d : D) {ms : List Md} {ds : List D} : Mds ms ds → Mds (.dat :: ms) (d :: ds)
  | bor (d : D) {ms : List Md} {ds : List D} : Mds ms ds → Mds (.bor :: ms) (d :: ds)
  | bag (b : Addr) {ms : List Md} {ds : List D} : Mds ms ds → Mds (.bag :: ms) (.raw b :: ds)
theorem AmA.mds {K : PySem.W.Frag} {B W : List Addr} {H : Hp} : ∀ {ms vs ds}, AmA K B W H ms vs ds → Mds ms ds
  | _, _, _, .nil => .nil
  | .dat :: _, _, _, .cons _ r => .dat _ r.mds
  | .bor :: _, _, _, .cons _ r => .bor _ r.mds
  | .bag :: _, _, _, .cons h r => by
    obtain ⟨b, rfl, _⟩ := h
    exact .bag b r.mds
/-- the promise: what m says of the arguments -/
def spM (K : PySem.W.Frag) (ms : List Md) (m : List D → M D) : Sp := fun vs H Q _ => ∃ (B W : List Addr) (ds : List D) (P : D → Prop), BW B W H ∧ AmA K B W H ms vs ds ∧ wp (m ds) P ∧ ∀ v d H', Gs W H H' → Sg K B H' v d → P d → Q v H'
def spMN (K : PySem.W.Frag) (ms : List Md) (m : List D → M D) : Sp := fun vs H Q _ => ∃ (B W : List Addr) (ds : List D) (P : D → Prop), BW B W H ∧ AmA K B W H ms vs ds ∧ wp (m ds) P ∧ ∀ a d H', Gs W H H' → H a = none → OwAt K (a :: B) H' a d → P d → Q (.ref a) H'
theorem spM_len {K : PySem.W.Frag} {ms : List Md} {m : List D → M D} {vs : List V} {H : Hp} {Q : VK} {E : XK} (h : spM K ms m vs H Q E) : vs.length = ms.length := by
  obtain ⟨_, _, _, _, _, a, _⟩ := h
  exact a.len.1
theorem spMN_len {K : PySem.W.Frag} {ms : List Md} {m : List D → M D} {vs : List V} {H : Hp} {Q : VK} {E : XK} (h : spMN K ms m vs H Q E) : vs.length = ms.length := by
  obtain ⟨_, _, _, _, _, a, _⟩ := h
  exact a.len.1
/-- arguments of a call -/
def EAm (K : PySem.W.Frag) (ta : TA) (ρ : List En) (ms : List Md) (P : List D → Prop) : Prop := ∀ (B W : List Addr) (H : Hp) (σ : L2.St), EnvOk K B W H σ ρ → ∀ Q : List V → Hp → Prop, (∀ vs ds H', Gs W H H' → AmA K B W H' ms vs ds → P ds → Q vs H') → ta σ H Q
def RAm (K : PySem.W.Frag) (ta : TA) (ρ : List En) (ms : List Md) (A : MA) : Prop := ∀ (α : Type) (k : List D → M α) (P : α → Prop), wp (A α k) P → EAm K ta ρ ms fun ds => wp (k ds) P
/-- the defaults that a call leaves out -/
def Dfs (K : PySem.W.Frag) (ms : List Md) (dvs : List V) (dds : List D) : Prop := ∀ (B W : List Addr) (H : Hp), AmA K B W H ms dvs dds
section
variable {K : PySem.W.Frag} {ρ : List En} {te : TE} {ta : TA} {md : M D} {A : MA} {ms ms2 : List Md} {i : Nat} {dvs : List V} {dds : List D} {E : XK} {m : List D → M D}
theorem RAm.nil : RAm K tNil ρ [] fun _ k => k [] := fun α k P w B W H σ e Q q => q _ _ H Gs.refl .nil w
theorem RAm.dat (he : RE K te ρ md) (h : RAm K ta ρ ms A) : RAm K (tCons te ta) ρ (.dat :: ms) fun α k => md.bind fun x => A α fun xs => k (x :: xs) := fun α k P w B W H σ e Q q =>
  he _ (wp_bind.mp w) B W H σ e _ fun v x H1 g1 s1 w1 => h α _ P w1 B W H1 σ (e.gs g1) _ fun vs ds H2 g2 s2 w2 => q _ _ H2 (g1.trans g2) (.cons (show Sg K B H2 v x from s1.gw ((e.gs g1).bw.gw g2)) s2) w2
theorem RAm.bor (he : RR K te ρ md) (h : RAm K ta ρ ms A) : RAm K (tCons te ta) ρ (.bor :: ms) fun α k => md.bind fun x => A α fun xs => k (x :: xs) := fun α k P w B W H σ e Q q =>
  he _ (wp_bind.mp w) B W H σ e _ fun v x H1 g1 s1 w1 => h α _ P w1 B W H1 σ (e.gs g1) _ fun vs ds H2 g2 s2 w2 => q _ _ H2 (g1.trans g2) (.cons (show Sr K B W H2 v x from s1.gs e.bw.sub g2) s2) w2
theorem RAm.bag {b : Addr} (hi : ρ[i]? = some (.bag b)) (h : RAm K ta ρ ms A) : RAm K (tCons (tVar i) ta) ρ (.bag :: ms) fun α k => A α fun xs => k (.raw b :: xs) := fun α k P w B W H σ e Q q => by
  obtain ⟨e1, m, c, ns, nc, hb⟩ := e.sl i _ hi
  refine ⟨_, e1, h α _ P w B W H σ e _ fun vs ds H2 g2 s2 w2 => q _ _ H2 g2 (.cons ?_ s2) w2⟩
  exact (show Am K B W H (.ref b) .bag (.raw b) from ⟨b, rfl, rfl, m, c, ns, nc, hb⟩).gs e.bw.sub g2
theorem RE.call (h : RAm K ta ρ ms A) : RE K (tCall (spM K ms m) [] E ta) ρ (A D m) := fun P w B W H σ e Q q => h D m P w B W H σ e _ fun vs ds H1 g1 s1 w1 =>
  ⟨B, W, ds, P, (e.gs g1).bw, by rw [List.append_nil]; exact s1, w1, fun v d H2 g2 s p => q v d H2 (g1.trans g2) s p⟩
theorem RN.call (h : RAm K ta ρ ms A) : RN K (tCall (spMN K ms m) [] E ta) ρ (A D m) := fun P w B W H σ e Q q => h D m P w B W H σ e _ fun vs ds H1 g1 s1 w1 =>
  ⟨B, W, ds, P, (e.gs g1).bw, by rw [List.append_nil]; exact s1, w1, fun a d H2 g2 n k p => q a d H2 (g1.trans g2) (g1.gw.free a n) k p⟩
/-- the draw -/
def D.takeM (x : D) : M D := x.asI.bind fun n => if 0 < n ∧ n < 2 ^ 200 then .draw n fun r => .ret (.int r) else .fail
theorem RE.take {b : Addr} (hi : ρ[i]? = some (.bag b)) (he : RE K te ρ md) : RE K (tCall (spTake K) [] E (tCons (tVar i) (tCons te tNil))) ρ (md.bind D.takeM) := fun P w => EV.take hi (EV.imp (he _ (wp_bind.mp w)) fun x w1 => by
  obtain ⟨n, rfl, w2⟩ := asI_at (wp_bind.mp w1)
  obtain ⟨h, w3⟩ := wp_ite w2
  exact ⟨n, rfl, h.1, h.2, fun r h0 h1 => w3.2 r h0 h1⟩)
theorem ams_env {B W : List Addr} {H : Hp} : ∀ {ms vs ds}, AmA K B W H ms vs ds → ∀ (i : Nat) (e : En), (List.zipWith Md.en ms ds)[i]? = some e → EnOk K B W H ((vs.map some)[i]?) e
  | _, _, _, .nil, i, e, h => by simp at h
  | m :: _, v :: _, d :: _, .cons a r, 0, e, h => by
    cases h
    cases m with
    | dat => exact ⟨v, rfl, a⟩
    | bor => exact ⟨v, rfl, a⟩
    | bag =>
      obtain ⟨b, rfl, rfl, h2⟩ := a
      exact ⟨rfl, h2⟩
  | _, _, _, .cons a r, i + 1, e, h => ams_env r i e h
theorem ams_own {n : Nat} : ∀ {ms : List Md} {ds : List D}, (List.zipWith Md.en ms ds ++ List.replicate n En.no).all (fun e => !e.isOwn) = true := fun {ms ds} => by
  rw [List.all_append, Bool.and_eq_true_iff, List.all_eq_true, List.all_eq_true]
  refine ⟨fun e m => ?_, fun e m => ?_⟩
  · rw [List.mem_iff_getElem?] at m
    obtain ⟨i, hi⟩ := m
    rw [List.getElem?_zipWith] at hi
    cases h1 : ms[i]? with
    | none =>
      rw [h1] at hi
      cases hi
    | some mm =>
      cases h2 : ds[i]? with
      | none =>
        rw [h1, h2] at hi
        cases hi
      | some d =>
        rw [h1, h2] at hi
        cases hi
        cases mm with
        | bag => cases d <;> rfl
        | _ => rfl
  · rw [(List.mem_replicate.mp m).2]
    rfl
theorem start_env {N : List Str} {ms : List Md} {vs : List V} {ds : List D} {B W : List Addr} {H : Hp} (b : BW B W H) (a : AmA K B W H ms vs ds) : EnvOk K B W H (start N vs) (List.zipWith Md.en ms ds ++ List.replicate (N.length - ms.length) .no) := by
  have hl := a.len
  have zl : (List.zipWith Md.en ms ds).length = ms.length := by rw [List.length_zipWith, hl.2, Nat.min_self]
  refine ⟨b, ?_, fun i e hi => ?_, one_of ams_own, sep_of ams_own⟩
  · unfold L2.start
    rw [List.length_append, List.length_append, List.length_map, List.length_replicate, List.length_replicate, hl.1, zl]
  · unfold L2.start
    by_cases hlt : i < ms.length
    · rw [List.getElem?_append_left (by rw [zl]; exact hlt)] at hi
      rw [List.getElem?_append_left (by rw [List.length_map, hl.1]; exact hlt)]
      exact ams_env a i e hi
    · rw [List.getElem?_append_right (by rw [zl]; omega), List.getElem?_replicate] at hi
      split at hi
      · cases hi
        trivial
      · cases hi
theorem body_M {N : List Str} {t : TS} {vs : List V} {H : Hp} {Q : VK} {E : XK} (h : spM K ms m vs H Q E) (hb : ∀ ds, Mds ms ds → ∃ ρ, List.zipWith Md.en ms ds ++ List.replicate (N.length - ms.length) .no = ρ ∧ G K (fnR false) t ρ (m ds) CF) :
    t ⟨fun _ H' => Q .non H', Q, fun _ _ => False, fun _ _ => False⟩ (start N vs) H := by
  obtain ⟨B, W, ds, P, b, a, w, q⟩ := h
  obtain ⟨ρ, rfl, hb⟩ := hb ds a.mds
  have nOw : ∀ x, ¬ Own (start N vs) (List.zipWith Md.en ms ds ++ List.replicate (N.length - ms.length) .no) x := not_own ams_own
  exact hb ⟨fun _ => P .non, P, fun _ => False, fun _ => False, false⟩ ⟨rfl, fun _ z => z⟩ w B B W H _ (start_env b a) ⟨fun _ m => m, fun _ m => .inl m, fun a _ => nOw a, b.sub⟩ _ (fun ρ' σ' H' B' g _ _ p => q _ _ H' (g.gs nOw) .non p) (fun v d H' g s p => q v d H' (g.gs nOw) s p) (fun _ _ _ _ _ _ _ z => z.elim) fun _ _ _ _ _ _ _ z => z.elim
theorem body_MN {N : List Str} {t : TS} {vs : List V} {H : Hp} {Q : VK} {E : XK} (h : spMN K ms m vs H Q E) (hb : ∀ ds, Mds ms ds → ∃ ρ, List.zipWith Md.en ms ds ++ List.replicate (N.length - ms.length) .no = ρ ∧ G K (frR true) t ρ (m ds) CF) :
    t ⟨fun _ H' => Q .non H', Q, fun _ _ => False, fun _ _ => False⟩ (start N vs) H := by
  obtain ⟨B, W, ds, P, b, a, w, q⟩ := h
  obtain ⟨ρ, rfl, hb⟩ := hb ds a.mds
  have nOw : ∀ x, ¬ Own (start N vs) (List.zipWith Md.en ms ds ++ List.replicate (N.length - ms.length) .no) x := not_own ams_own
  refine hb ⟨fun _ => False, P, fun _ => False, fun _ => False, true⟩ rfl w B B W H _ (start_env b a) ⟨fun _ m => m, fun _ m => .inl m, fun a _ => nOw a, b.sub⟩ _ (fun _ _ _ _ _ _ _ z => z.elim) (fun v d H' g s p => ?_) (fun _ _ _ _ _ _ _ z => z.elim) fun _ _ _ _ _ _ _ z => z.elim
  obtain ⟨x, ex, n, k⟩ := s
  rw [ex]
  exact q x d H' (g.gs nOw) (n.elim (fun o => (nOw x o).elim) id) k p
end
end VB
namespace VB
open PySem PySem.Spec PyProof.Rows L2
section
variable {K : PySem.W.Frag} {ρ : List En} {ta tb te : TE} {ma mb md : M D} {tl : TA} {A : MA} {α : Type} {R : Po → Prop} {C : Po → α → Prop} {u : TS} {i : Nat} {d : D} {k : D → M α} {lp : Bool}
theorem RE.negC {n : Int} : RE K (tUn (rU fun i => .int (-i)) (tC (.int n))) ρ (.ret (.int (-n))) := fun P p => EV.neg (EV.int ⟨n, rfl, p⟩)
def D.neg (x : D) : M D := x.asI.bind fun i => .ret (.int (-i))
theorem RE.neg (h : RE K ta ρ ma) : RE K (tUn (rU fun i => .int (-i)) ta) ρ (ma.bind D.neg) := fun P w => EV.neg (EV.imp (h _ (wp_bind.mp w)) fun x w1 => by
  obtain ⟨i, rfl, p⟩ := asI_at (wp_bind.mp w1)
  exact ⟨i, rfl, p⟩)
theorem max2_c : CaD K (fun xs H Q => ∃ i j, xs = [.int i, .int j] ∧ Q (.int (if j > i then j else i)) H) (M.two D.max2) := .two fun x y P w B W H v u b sv su Q q => by
  obtain ⟨i, j, rfl, rfl, w⟩ := int2_at w
  cases sv
  cases su
  exact ⟨i, j, rfl, q _ _ H Gs.refl (.int _) w⟩
theorem min2_c : CaD K (fun xs H Q => ∃ i j, xs = [.int i, .int j] ∧ Q (.int (if j < i then j else i)) H) (M.two D.min2) := .two fun x y P w B W H v u b sv su Q q => by
  obtain ⟨i, j, rfl, rfl, w⟩ := int2_at w
  cases sv
  cases su
  exact ⟨i, j, rfl, q _ _ H Gs.refl (.int _) w⟩
def D.strs : List D → Option (List Str)
  | [] => some []
  | .str z :: ds => (D.strs ds).map fun zs => z :: zs
  | _ :: _ => none
theorem strs_at : ∀ {ds : List D} {zs : List Str}, D.strs ds = some zs → ds = zs.map D.str
  | [], _, e => by cases e; rfl
  | .str z :: ds, zs, e => by
    unfold D.strs at e
    cases h : D.strs ds with
    | none =>
      rw [h] at e
      cases e
    | some cs =>
      rw [h] at e
      cases e
      rw [strs_at h]
      rfl
theorem strs_map (zs : List Str) : D.strs (zs.map D.str) = some zs := by
  induction zs with
  | nil => rfl
  | cons b bs ih =>
    show (D.strs (bs.map D.str)).map _ = _
    rw [ih]
    rfl
def D.join (x y : D) : M D := match x with
  | .str a => match y with
    | .lst ds => match D.strs ds with
      | some ys => if (ys.map (·.length)).sum + ys.length * a.length ≤ 16777216 then .ret (.str (Txt.join a ys)) else .fail
      | none => .fail
    | _ => .fail
  | _ => .fail
theorem RE.join (ha : RR K ta ρ ma) (hb : RR K tb ρ mb) : RE K (tM1 (rJoinK K) ta tb) ρ (ma.bind fun x => mb.bind fun y => D.join x y) := fun P w B W H σ e Q q =>
  ha _ (wp_bind.mp w) B W H σ e _ fun v x H1 g1 s1 w1 => by
    have w2 := wp_bind.mp w1
    cases x with
    | str a =>
      cases s1
      refine ⟨⟨a, rfl⟩, hb _ w2 B W H1 σ (e.gs g1) _ fun u y H2 g2 s2 w3 => ?_⟩
      cases y with
      | lst ds =>
        have w3 : wp (match D.strs ds with | some ys => if (ys.map (·.length)).sum + ys.length * a.length ≤ 16777216 then M.ret (D.str (Txt.join a ys)) else .fail | none => .fail) P := w3
        cases ez : D.strs ds with
        | none =>
          rw [ez] at w3
          exact w3.elim
        | some ys =>
          rw [ez] at w3
          obtain ⟨h1, w4⟩ := wp_ite w3
          obtain ⟨c, xs, rfl, _, h, r⟩ := s2
          rw [strs_at ez] at r
          rw [r.strs] at h
          exact ⟨a, c, ys, rfl, rfl, Or.inl (SqL.of h), h1, q _ _ H2 (g1.trans g2) (.str _) w4⟩
      | _ => exact w3.elim
    | _ => exact (wp_false (wp_mono w2 fun y z => z)).elim
def D.split (x y : D) : M D := match x with
  | .str a => match y with
    | .str b => if (b.length == 0) = false ∧ a.length + 2 ≤ 16777216 then .ret (.lst ((Txt.split a b).map D.str)) else .fail
    | _ => .fail
  | _ => .fail
theorem RE.split (ha : RR K ta ρ ma) (hb : RR K tb ρ mb) : RE K (tM1 rSplitK ta tb) ρ (ma.bind fun x => mb.bind fun y => D.split x y) := fun P w B W H σ e Q q =>
  ha _ (wp_bind.mp w) B W H σ e _ fun v x H1 g1 s1 w1 => by
    have w2 := wp_bind.mp w1
    cases x with
    | str a =>
      cases s1
      refine ⟨⟨a, rfl⟩, hb _ w2 B W H1 σ (e.gs g1) _ fun u y H2 g2 s2 w3 => ?_⟩
      cases y with
      | str b =>
        cases s2
        obtain ⟨h1, w4⟩ := wp_ite w3
        exact ⟨a, b, rfl, rfl, h1.1, by rw [sizeLine_eq]; exact h1.2, fun c na => q _ _ _ ((g1.trans g2).trans (Gs.new na)) (.lst (((e.gs g1).gs g2).bw.notNew na) upd_same SgA.ofStrs) w4⟩
      | _ => exact w3.elim
    | _ => exact (wp_false (wp_mono w2 fun y z => z)).elim
def D.zipM : List D → M (List D)
  | [.lst ds, .lst es] => .ret (D.zip ds es)
  | _ => .fail
theorem RI.zip (h : RAs K tl ρ A) : RI K lp (iBd K (iZip K tl)) ρ (A _ D.zipM) := fun P w B W H σ e R q => h _ _ _ w B W H σ e _ fun vs ds H1 g s w1 => by
  have e1 := e.gs g
  match ds, s, w1 with
  | [.lst ds, .lst es], .cons (.lst (a := a) (xs := xs) n1 h1 r1) (.cons (.lst (a := b) (xs := ys) n2 h2 r2) .nil), w1 =>
    refine ⟨a, b, xs, ys, rfl, SqL.of h1, SqL.of h2, fun bd => q _ _ H1 g (walkd_zip r1 r2 (fun H' k => SqL.of (k.kp a _ (fun m => n1 (e1.bw.sub _ m)) (fun u => n1 (e1.ownB u.2).1) h1)) (fun H' k => SqL.of (k.kp b _ (fun m => n2 (e1.bw.sub _ m)) (fun u => n2 (e1.ownB u.2).1) h2)) (bd a xs (.inl (SqL.of h1)))) w1⟩
end
end VB
namespace VB
open PySem PySem.Spec PyProof.Rows L2
/-- what an instance of a class is asked -/
structure ClsF (K : PySem.W.Frag) (C : Addr) : Prop where
  cl : Cls K C
  ca : PySem.W.findIn K (.ref C) "__class__" = some (some (.builtin "object.__class__"))
  cn : PySem.W.specialIn K (.builtin "object.__class__") "__get__" = some (some (.builtin "getset_descriptor.__get__"))
  ct : PySem.W.takesIn K (.builtin "object.__class__") = some true
  cm : PySem.W.mroIn K C (.type "object") = some true
def bts : List String := ["NoneType", "bool", "int", "str", "tuple", "list", "dict"]
def clsB (K : PySem.W.Frag) (C : Addr) : Bool :=
  (PySem.W.plainGet K C Str.empty && PySem.W.hasDictIn K C && (PySem.W.plainOver K C && decide (PySem.W.findIn K (.ref C) "__setattr__" = some (some (.builtin "object.__setattr__"))))) &&
  (decide (PySem.W.findIn K (.ref C) "__class__" = some (some (.builtin "object.__class__"))) && decide (PySem.W.specialIn K (.builtin "object.__class__") "__get__" = some (some (.builtin "getset_descriptor.__get__"))) &&
  (decide (PySem.W.takesIn K (.builtin "object.__class__") = some true) && decide (PySem.W.mroIn K C (.type "object") = some true)))
theorem clsB_ok {K : PySem.W.Frag} {C : Addr} (h : clsB K C = true) : ClsF K C := by
  unfold clsB at h
  simp only [Bool.and_eq_true, decide_eq_true_eq] at h
  exact ⟨⟨h.1.1.1, h.1.1.2, h.1.2.1, h.1.2.2⟩, h.2.1.1, h.2.1.2, h.2.2.1, h.2.2.2⟩
/-- the classes whose instances are met -/
structure KC (K : PySem.W.Frag) (Cs : List Addr) : Prop where
  cls : ∀ C ∈ Cs, ClsF K C
  ty1 : ∀ C ∈ Cs, ∀ n ∈ bts, PySem.W.kitOne K (.type n) (.ref C) = some false ∧ PySem.W.kitOne K (.ref C) (.type n) = some false ∧ PySem.W.notFirst K C (.type n) = true
  ty2 : ∀ C ∈ Cs, ∀ C' ∈ Cs, PySem.W.kitOne K (.ref C') (.ref C) = some (decide (C' = C)) ∧ PySem.W.notFirst K C (.ref C') = true
def kcB (K : PySem.W.Frag) (Cs : List Addr) : Bool := Cs.all (fun C => clsB K C) && (Cs.all fun C => (bts.all fun n => decide (PySem.W.kitOne K (.type n) (.ref C) = some false) && (decide (PySem.W.kitOne K (.ref C) (.type n) = some false) && PySem.W.notFirst K C (.type n))) &&
  Cs.all fun C' => decide (PySem.W.kitOne K (.ref C') (.ref C) = some (decide (C' = C))) && PySem.W.notFirst K C (.ref C'))
theorem kcB_ok {K : PySem.W.Frag} {Cs : List Addr} (h : kcB K Cs = true) : KC K Cs := by
  unfold kcB at h
  rw [Bool.and_eq_true_iff, List.all_eq_true, List.all_eq_true] at h
  obtain ⟨h1, h2⟩ := h
  refine ⟨fun C m => clsB_ok (h1 C m), fun C m n mn => ?_, fun C m C' m' => ?_⟩
  · have z := (Bool.and_eq_true_iff.mp (h2 C m)).1
    rw [List.all_eq_true] at z
    have z := z n mn
    simp only [Bool.and_eq_true, decide_eq_true_eq] at z
    exact ⟨z.1, z.2.1, z.2.2⟩
  · have z := (Bool.and_eq_true_iff.mp (h2 C m)).2
    rw [List.all_eq_true] at z
    have z := z C' m'
    simp only [Bool.and_eq_true, decide_eq_true_eq] at z
    exact z
theorem tyn_bts {d : D} {n : String} (e : d.tyn = some n) : n ∈ bts := by
  cases d <;> cases e <;> decide
/-- the type of what is met: data, or an instance of a known class -/
def D.kn (Cs : List Addr) (x : D) : Bool := match x with
  | .ins C _ _ => decide (C ∈ Cs)
  | x => x.tyn.isSome
def D.tyV (x : D) : Value := match x with
  | .ins C _ _ => .ref C
  | x => .type (x.tyn.getD "")
theorem kn_tyx {K : PySem.W.Frag} {Cs : List Addr} {B W : List Addr} {H : Hp} {v : V} {x : D} (k : KC K Cs) (h : x.kn Cs = true) (s : Sr K B W H v x) : TyX K H v x.tyV := by
  have go : ∀ {n}, x.tyn = some n → TyX K H v (.type n) := fun e => s.tyx e
  cases x with
  | ins C ks ds =>
    obtain ⟨a, dx, fs, rfl, _, h1, _, _⟩ := s
    have c := k.cls C (of_decide_eq_true h)
    exact .base (.ins h1 c.cl c.ca c.cn c.ct c.cm)
  | ty n => cases h
  | raw a => cases h
  | non => exact go rfl
  | bl b => exact go rfl
  | int b => exact go rfl
  | str b => exact go rfl
  | tup b => exact go rfl
  | lst b => exact go rfl
  | dic b c => exact go rfl
  | dit b c => cases h
  | din _ _ _ _ => cases h
  | etup => exact go rfl
/-- isinstance(x, C) -/
def D.isiO (Cs : List Addr) (C : Addr) (x : D) : Bool := match x with
  | .ins C' _ _ => decide (C' = C)
  | _ => false
theorem kit_own {K : PySem.W.Frag} {Cs : List Addr} {x : D} {C : Addr} (k : KC K Cs) (hC : C ∈ Cs) (h : x.kn Cs = true) : PySem.W.kitOne K x.tyV (.ref C) = some (x.isiO Cs C) := by
  cases x with
  | ins C' ks ds => exact (k.ty2 C hC C' (of_decide_eq_true h)).1
  | ty n => cases h
  | raw a => cases h
  | non => exact (k.ty1 C hC _ (tyn_bts (d := .non) rfl)).1
  | bl b => exact (k.ty1 C hC _ (tyn_bts (d := .bl b) rfl)).1
  | int b => exact (k.ty1 C hC _ (tyn_bts (d := .int b) rfl)).1
  | str b => exact (k.ty1 C hC _ (tyn_bts (d := .str b) rfl)).1
  | tup b => exact (k.ty1 C hC _ (tyn_bts (d := .tup b) rfl)).1
  | lst b => exact (k.ty1 C hC _ (tyn_bts (d := .lst b) rfl)).1
  | dic b c => exact (k.ty1 C hC _ (tyn_bts (d := .dic b c) rfl)).1
  | dit b c => cases h
  | din _ _ _ _ => cases h
  | etup => exact (k.ty1 C hC _ (tyn_bts (d := .etup) rfl)).1
section
variable {K : PySem.W.Frag} {ρ : List En} {ta tb te tv : TE} {ma mb md : M D} {tl : TA} {A : MA} {α : Type} {R : Po → Prop} {C : Addr} {u : TS} {i : Nat} {d : D} {ms ms2 : List Md} {l : List D → M D} {E : XK} {f nm : Str} {Cs : List Addr}
theorem RE.cls : RE K (tC (.ref C)) ρ (.ret (.raw C)) := fun P p B W H σ e Q q => q _ _ H Gs.refl (.raw C) p
/-- x is an instance of C -/
def D.instK {α : Type} (C : Addr) (x : D) (k : List Str → List D → M α) : M α := match x with
  | .ins C' ks ds => if C' = C then k ks ds else .fail
  | _ => .fail
theorem instK_at {α : Type} {x : D} {k : List Str → List D → M α} {P : α → Prop} (w : wp (D.instK C x k) P) : ∃ ks ds, x = .ins C ks ds ∧ wp (k ks ds) P := by
  cases x with
  | ins C' ks ds =>
    obtain ⟨h, w2⟩ := wp_ite (show wp (if C' = C then k ks ds else .fail) P from w)
    subst h
    exact ⟨ks, ds, rfl, w2⟩
  | _ => exact w.elim
def D.getF (C : Addr) (f : Str) (x : D) : M D := D.instK C x fun ks ds => M.ofD ((ks.zip ds).lookup f)
theorem RE.fld (hc : Cls K C) (hn : NoAttr K C f) (h : RR K te ρ md) : RE K (tFld K te f) ρ (md.bind (D.getF C f)) := fun P w B W H σ e Q q =>
  h _ (wp_bind.mp w) B W H σ e _ fun v x H1 g1 s1 w1 => by
    obtain ⟨ks, ds, rfl, w2⟩ := instK_at w1
    obtain ⟨d, ed, p⟩ := ofD_at w2
    obtain ⟨a, dx, fs, rfl, _, h1, ek, r⟩ := s1
    obtain ⟨u, lu, su⟩ := fld_get ek r ed
    exact ⟨a, C, dx, fs, u, rfl, h1, hc, hn, lu, q u d H1 g1 su p⟩
/-- a property -/
def D.prp (C : Addr) (l : List D → M D) (x : D) : M D := D.instK C x fun _ _ => l [x]
theorem RE.prop (h : RR K te ρ md) : RE K (tProp C (spM K [.bor] l) [] E te) ρ (md.bind (D.prp C l)) := fun P w B W H σ e Q q =>
  h _ (wp_bind.mp w) B W H σ e _ fun v x H1 g1 s1 w1 => by
    obtain ⟨ks, ds, rfl, w2⟩ := instK_at w1
    obtain ⟨a, dx, fs, ev, _, h1, _⟩ := id s1
    subst ev
    exact ⟨a, dx, fs, rfl, h1, B, W, [.ins C ks ds], P, (e.gs g1).bw, .cons (show Am K B W H1 _ .bor _ from s1) .nil, w2, fun v d H2 g2 s p => q v d H2 (g1.trans g2) s p⟩
/-- a method -/
def D.mth {α : Type} (C : Addr) (nm : Str) (x : D) (k : M α) : M α := D.instK C x fun ks _ => if nm ∉ ks then k else .fail
theorem mth_at {α : Type} {x : D} {k : M α} {P : α → Prop} (w : wp (D.mth C nm x k) P) : ∃ ks ds, x = .ins C ks ds ∧ nm ∉ ks ∧ wp k P := by
  obtain ⟨ks, ds, e, w⟩ := instK_at w
  obtain ⟨h, w⟩ := wp_ite w
  exact ⟨ks, ds, e, h, w⟩
theorem RE.meth (h : RR K te ρ md) (hA : RAm K tl ρ ms A) : RE K (tMeth C nm (spM K (.bor :: ms) l) [] E te tl) ρ (md.bind fun x => D.mth C nm x (A D fun ys => l (x :: ys))) := fun P w B W H σ e Q q =>
  h _ (wp_bind.mp w) B W H σ e _ fun v x H1 g1 s1 w1 => by
    obtain ⟨ks, ds, rfl, hm, w2⟩ := mth_at w1
    obtain ⟨a, dx, fs, ev, _, h1, ek, _⟩ := id s1
    subst ev
    refine ⟨a, dx, fs, rfl, h1, fld_none ek hm, hA D _ P w2 B W H1 σ (e.gs g1) _ fun vs es H2 g2 s2 w3 => ⟨B, W, _, P, ((e.gs g1).gs g2).bw, .cons (show Am K B W H2 _ .bor _ from s1.gs e.bw.sub g2) (by rw [List.append_nil]; exact s2), w3, fun v d H3 g3 s p => q v d H3 ((g1.trans g2).trans g3) s p⟩⟩
theorem RN.meth (h : RR K te ρ md) (hA : RAm K tl ρ ms A) : RN K (tMeth C nm (spMN K (.bor :: ms) l) [] E te tl) ρ (md.bind fun x => D.mth C nm x (A D fun ys => l (x :: ys))) := fun P w B W H σ e Q q =>
  h _ (wp_bind.mp w) B W H σ e _ fun v x H1 g1 s1 w1 => by
    obtain ⟨ks, ds, rfl, hm, w2⟩ := mth_at w1
    obtain ⟨a, dx, fs, ev, _, h1, ek, _⟩ := id s1
    subst ev
    refine ⟨a, dx, fs, rfl, h1, fld_none ek hm, hA D _ P w2 B W H1 σ (e.gs g1) _ fun vs es H2 g2 s2 w3 => ⟨B, W, _, P, ((e.gs g1).gs g2).bw, .cons (show Am K B W H2 _ .bor _ from s1.gs e.bw.sub g2) (by rw [List.append_nil]; exact s2), w3, fun v d H3 g3 n s p => q v d H3 ((g1.trans g2).trans g3) (g1.gw.free _ (g2.gw.free _ n)) s p⟩⟩
/-- no argument that is only read is the object x itself -/
def Md.isBor : Md → Bool
  | .bor => true
  | _ => false
def NoX (x : Addr) : List Md → List V → List D → Prop
  | m :: ms, v :: vs, d :: ds => (m.isBor = true → d.isRoot = true → v ≠ .ref x) ∧ NoX x ms vs ds
  | _, _, _ => True
theorem nox_of {B W : List Addr} {H : Hp} {x : Addr} (n : H x = none) : ∀ {ms vs ds}, AmA K B W H ms vs ds → NoX x ms vs ds
  | _, _, _, .nil => trivial
  | m :: ms, v :: vs, d :: ds, .cons h r => ⟨fun hb hr e => (by
      subst e
      cases m with
      | bor => exact (show Sr K B W H (.ref x) _ from h).kn hr n
      | dat => exact nomatch hb
      | bag => exact nomatch hb), nox_of (ms := ms) (vs := vs) (ds := ds) n r⟩
theorem nox_env {B W : List Addr} {H : Hp} {x : Addr} : ∀ {ms vs ds}, AmA K B W H ms vs ds → NoX x ms vs ds → ∀ (i : Nat) (d : D), (List.zipWith Md.en ms ds)[i]? = some (.bor d) → d.isRoot = true → vs[i]? ≠ some (.ref x)
  | _, _, _, .nil, _, i, d, h, _ => by simp at h
  | m :: ms, v :: vs, d :: ds, .cons a r, nx, 0, d', h, hr => fun e => by
    cases e
    cases m with
    | bor =>
      cases h
      exact nx.1 rfl hr rfl
    | dat => cases h
    | bag => cases d <;> cases h
  | m :: ms, v :: vs, d :: ds, .cons a r, nx, i + 1, d', h, hr => nox_env (ms := ms) (vs := vs) (ds := ds) r nx.2 i d' h hr
theorem AmA.out {B W : List Addr} {H : Hp} {p : Addr} {o : HO} (n : H p = none) (hW : ∀ a ∈ W, a ∈ B) : ∀ {ms vs ds}, AmA K B W H ms vs ds → AmA K (p :: B) W (upd H p o) ms vs ds
  | _, _, _, .nil => .nil
  | .dat :: _, _, _, .cons h r => .cons (show Sg K _ _ _ _ from Sg.out n h) (r.out n hW)
  | .bor :: _, _, _, .cons h r => .cons (show Sr K _ _ _ _ _ from Sr.mv (fun a o _ _ z => by
      rw [upd_ne (ne_of_none z n)]
      exact z) (fun _ _ r => r.out n) (fun z => z.out n) h) (r.out n hW)
  | .bag :: _, _, _, .cons h r => by
    obtain ⟨b, e1, e2, m, c, ns, nc, hb⟩ := h
    refine .cons ⟨b, e1, e2, m, c, ns, fun z => ?_, hb.new n⟩ (r.out n hW)
    rcases List.mem_cons.mp z with q | q
    · exact ne_of_none hb.2.1 n q
    · exact nc q
theorem dfs_nil : Dfs K [] [] [] := fun _ _ _ => .nil
/-- the end of an __init__: what the object is -/
def CI (x : Addr) (P : Po) (d : D) : Prop := ∀ ρ' : List En, ρ'[0]? = some (.own ⟨some x, d⟩) → P.nx ρ'
/-- self.f = e -/
def D.setF {α : Type} (C : Addr) (f : Str) (d v : D) (k : D → M α) : M α := D.instK C d fun ks ds => if f ∉ ks ∧ ks.length < 1000 then k (.ins C (ks ++ [f]) (ds ++ [v])) else .fail
theorem G.fld {CC : Po → α → Prop} {kk : D → M α} {tg : Option Addr} (hc : Cls K C) (hn : NoAttr K C f) (hi : ρ[i]? = some (.own ⟨tg, d⟩)) (he : RE K te ρ md) (h : ∀ d', G K R u (ρ.set i (.own ⟨tg, d'⟩)) (kk d') CC) :
    G K R (tSeq (sFld K (tVar i) te f) u) ρ (md.bind fun v => D.setF C f d v kk) CC := fun P r w => by
  obtain ⟨ks, ds, rfl, hf⟩ : ∃ ks ds, d = .ins C ks ds ∧ (f ∉ ks ∧ ks.length < 1000) := wp_use (wp_bind.mp w) fun v w1 => by
    obtain ⟨ks, ds, e, w2⟩ := instK_at w1
    exact ⟨ks, ds, e, (wp_ite w2).1⟩
  refine ST.seq (ST.fld hi hc hn hf.1 hf.2 (EV.imp (he _ (wp_bind.mp w)) fun v w1 ρ' e => ?_))
  subst e
  obtain ⟨ks', ds', e, w2⟩ := instK_at (show wp (D.instK C (.ins C ks ds) fun ks ds => if f ∉ ks ∧ ks.length < 1000 then kk (.ins C (ks ++ [f]) (ds ++ [v])) else .fail) (CC P) from w1)
  cases e
  exact h _ P r (wp_ite w2).2
theorem G.finI {x : Addr} (h : ρ[0]? = some (.own ⟨some x, d⟩)) : G K R tNext ρ (.ret d) (CI x) := fun P r p => ST.next (p ρ h)
end
end VB
namespace VB
open PySem PySem.Spec PyProof.Rows L2
section
variable {prog : Program} {w : World} {A : Around} {E : Value → Shared → Prop} {s : Shared} {K : PySem.W.Frag} {x C L f : Addr} {ox : Obj} {od : Option Obj} {b tb : Value}
open PySem.W Builtin in
theorem ne_K {Q : Value → Shared → Prop} (hu : A.units < cLine) (hu1 : A.in1.units < cLine) (X : K.In s.heap) (I : InstAt s.heap x ox C od) (hb : Looks (model prog w) s.heap (typeOf b) tb) (hn : notFirst K C tb = true)
    (hs : findIn K (.ref C) "__ne__" = some (some (.builtin "object.__ne__"))) (hm : mroIn K C (.type "object") = some true) (he : findIn K (.ref C) "__eq__" = some (some (.ref f))) (hf : isFn K (.ref f) = true)
    (h : wpAny (model prog w) A.in1 (call (.ref f) [.ref x, b]) (fun v s' => ∃ k, v = .bool k ∧ Q (.bool (!k)) s') E s) : wpAny (model prog w) A (richCompare .NotEq (.ref x) b) Q E s := by
  have hi : Looks (model prog w) s.heap (isInstance (.ref x) (.type "object")) true := I.type.andThen (looks_mroIn X hm)
  have fin : wpAny (model prog w) A (call (.builtin "object.__ne__") ([.ref x] ++ [b]) >>= fun v => pure (some v)) (fun r s' => ∃ v, r = some v ∧ Q v s' ∧ v ≠ .notImplemented) E s := by
    refine wpAny_bind (wpAny_call (codeAny_call_builtin PySem.F.cmp_object.ne.plain PySem.F.cmpEntry_ne (PySem.W.check_slot PySem.F.cmpKind_ne PySem.F.cmpSplit_ne hi (PySem.F.cmpArgs_ne _ _) ?_)))
    unfold Builtin.«object.__ne__»
    refine wpAny_bind (m := slotArgs _ _ _) (wpAny_pure ?_)
    refine wpAny_bind (wpAny_cRoomFor hu1 ?_)
    refine wpAny_bind (m := callSpecialIfBound? (.ref x) (Str.ofString "__eq__") [b]) (ifBound_K X I he hf (wpAny_mono h (fun v s' z => ?_) fun _ _ e => e))
    obtain ⟨k, rfl, q⟩ := z
    refine wpAny_bind (wpAny_of_eq (a := k) (by rfl) ?_)
    exact wpAny_pure (wpAny_pure ⟨_, rfl, q, fun z => nomatch z⟩)
  have one : wpAny (model prog w) A (tryCompare (.ref x) "__ne__" b) (fun r s' => ∃ v, r = some v ∧ Q v s') E s := by
    unfold tryCompare
    refine wpAny_bind (m := callSpecialIfBound? (.ref x) "__ne__" [b]) ?_
    simp only [callSpecialIfBound?, bindSpecialIfBound?]
    refine wpAny_holding (wpAny_bind (wpAny_bind (wpAny_bind (I.type.here ((looks_findIn X hs).here ?_)))))
    simp only [PySem.F.cmp_object.ne.bind]
    refine wpAny_bind (wpAny_askSetting (wpAny_ite ?_))
    have fin2 : wpAny (model prog w) A (call (.builtin "object.__ne__") ([.ref x] ++ [b]) >>= fun v => pure (some v)) (fun r s' => wpAny (model prog w) A (match r with | some .notImplemented | none => pure none | some v => pure (some v)) (fun r s' => ∃ v, r = some v ∧ Q v s') E s') E s := wpAny_mono fin (fun r s' z => by
      obtain ⟨v, rfl, q, nv⟩ := z
      cases v <;> first | exact absurd rfl nv | exact wpAny_pure ⟨_, rfl, q⟩) fun _ _ z => z
    split
    · exact wpAny_bind (wpAny_pure (wpAny_pure fin2))
    · exact wpAny_tryCatch (wpAny_bind (wpAny_pure (wpAny_pure fin2)))
  unfold richCompare
  simp only [oneThing_ref]
  refine wpAny_holding (wpAny_bind (wpAny_cRoomFor hu ?_))
  refine wpAny_bind (I.type.here (wpAny_bind (hb.here ?_)))
  split
  · rename_i q
    have e : subIn K tb (.ref C) = some false := by
      rcases Bool.or_eq_true_iff.mp hn with e | e
      · rw [beq_iff_eq.mp e] at q; simp at q
      · exact beq_iff_eq.mp e
    refine wpAny_bind ((looks_subIn X e).here ?_)
    simp only [Bool.false_eq_true, if_false]
    refine wpAny_bind (wpAny_mono one (fun r s' z => ?_) fun _ _ e => e)
    obtain ⟨v, rfl, hq⟩ := z
    exact wpAny_pure hq
  · refine wpAny_bind (wpAny_pure ?_)
    simp only [Bool.false_eq_true, if_false]
    refine wpAny_bind (wpAny_mono one (fun r s' z => ?_) fun _ _ e => e)
    obtain ⟨v, rfl, hq⟩ := z
    exact wpAny_pure hq
end
section
variable {X : Cx} {CX : CXT} {pins : List (Addr × Obj)} {σ : L2.St} {H : Hp} {s : Shared} {C g f dx a : Addr} {fs : List (Str × V)} {k : Nat} {fd : FuncData} {ps : List Str} {sp : Sp} {E : XK}
theorem run_atF {A : Around} {Q : VK} {us : List Value} {ws : List V} (F : FnOk X.prog X.w X.K X.mg X.base CX k f fd ps sp) (hr : Room k A) (e0 : Env0 X.prog X.w X.K X.mg X.base A X.stack s H) (hb : Binds X.K fd ps []) (hx : Passes CX X E)
    (I : Inv X pins σ H s) (r : Vals ws us) (h : sp ws H Q E) :
    codeAny (model X.prog X.w) A (.call (.ref f) ⟨us, []⟩) (fun r s' => match r with | .ok (.ret v) => EP X pins σ Q v s' | .ok _ => False | .error e => X.xe e s') s := by
  have hl : (us ++ []).length = ps.length := by
    rw [List.append_nil, ← r.length]
    exact F.len _ _ _ _ h
  refine codeAny_mono (F.run A X.stack s H ⟨us, []⟩ (us ++ []) ws Q E hr e0 (hb s us I.kIn hl) (by rw [List.append_nil]; exact r) h) fun r s' hq => ?_
  cases r with
  | error e => exact hx pins σ H s e s' I hq
  | ok fl =>
    cases fl with
    | ret u => exact I.after hq
    | next => exact False.elim hq
    | brk => exact False.elim hq
    | cont => exact False.elim hq
theorem ins_inst (I : Inv X pins σ H s) (ea : H a = some (.ins C dx fs)) : ∃ ox od, PySem.W.InstAt s.heap a ox C od := by
  obtain ⟨mA, O, _, _, _, _⟩ := ins_get I.hok ea
  obtain ⟨od, J, _⟩ := O.look
  exact ⟨_, _, J⟩
/-- x != y, x an instance of the class at C with an own == -/
def rNe (K : PySem.W.Frag) (C : Addr) (sp : Sp) (E : XK) : R2 := fun x y H Q => ∃ a dx fs tv, x = .ref a ∧ H a = some (.ins C dx fs) ∧ TyX K H y tv ∧ PySem.W.notFirst K C tv = true ∧ sp [x, y] H (fun z H' => ∃ b, z = .bl b ∧ Q (.bl (!b)) H') E
/-- != is object's -/
def NeObj (K : PySem.W.Frag) (C : Addr) : Prop := PySem.W.findIn K (.ref C) "__ne__" = some (some (.builtin "object.__ne__"))
theorem op_ne (hno : NeObj X.K C) (hC : ClsF X.K C) (hm : Meth X.K C "__eq__" f) (F : FnOk X.prog X.w X.K X.mg X.base CX k f fd ps sp) (hb : Binds X.K fd ps []) (hr : Room (k + 1) X.A) (hx : Passes CX X E) : OpR X (compareOp .NotEq) (rNe X.K C sp E) := by
  intro pins s σ H x y v u Q I rx ry h
  obtain ⟨a, dx, fs, tv, rfl, ea, ty, hn, q⟩ := h
  cases (show v = Value.ref a from rx)
  obtain ⟨ox, od, J⟩ := ins_inst I ea
  obtain ⟨P, kx, pk, _⟩ := kit_of I ry ty
  show wpAny _ _ (richCompare .NotEq _ _) _ _ _
  refine ne_K hr.units0 hr.in1.units0 I.kIn J (kx.ty _ _ I.kIn pk) hn hno hC.cm hm.at_ hm.fn ?_
  refine wpAny_mono (wpAny_call (run_atF F hr.in1 I.env0.in1 hb hx I (.cons rx (.cons ry .nil)) q)) (fun w s' z => ?_) fun _ _ x => x
  obtain ⟨z', H', I', rz, b, rfl, qz⟩ := z
  cases (show w = Value.bool b from rz)
  exact ⟨b, rfl, .bl (!b), H', I', rfl, qz⟩
end
end VB
namespace VB
open PySem PySem.Spec PyProof.Rows L2
theorem ltc_irr : ∀ a : List Nat, ltCps a a = false
  | [] => rfl
  | a :: r => by simp [ltCps, ltc_irr r]
theorem ltc_cons (a b : Nat) (r t : List Nat) : ltCps (a :: r) (b :: t) = true ↔ a < b ∨ (a = b ∧ ltCps r t = true) := by simp [ltCps]
theorem ltc_trans : ∀ a b c : List Nat, ltCps a b = true → ltCps b c = true → ltCps a c = true
  | [], [], _, h, _ => by simp [ltCps] at h
  | [], _ :: _, [], _, h => by simp [ltCps] at h
  | [], _ :: _, _ :: _, _, _ => rfl
  | _ :: _, [], _, h, _ => by simp [ltCps] at h
  | _ :: _, _ :: _, [], _, h => by simp [ltCps] at h
  | a :: r, b :: t, c :: u, h1, h2 => by
    rw [ltc_cons] at h1 h2 ⊢
    rcases h1 with h1 | ⟨e1, h1⟩
    · rcases h2 with h2 | ⟨e2, h2⟩
      · exact .inl (by omega)
      · exact .inl (by omega)
    · rcases h2 with h2 | ⟨e2, h2⟩
      · exact .inl (by omega)
      · exact .inr ⟨e1.trans e2, ltc_trans r t u h1 h2⟩
theorem ltc_tri : ∀ a b : List Nat, ltCps a b = true ∨ a = b ∨ ltCps b a = true
  | [], [] => .inr (.inl rfl)
  | [], _ :: _ => .inl rfl
  | _ :: _, [] => .inr (.inr rfl)
  | a :: r, b :: t => by
    rw [ltc_cons, ltc_cons]
    rcases Nat.lt_trichotomy a b with h | h | h
    · exact .inl (.inl h)
    · rcases ltc_tri r t with z | z | z
      · exact .inl (.inr ⟨h, z⟩)
      · exact .inr (.inl (by rw [h, z]))
      · exact .inr (.inr (.inr ⟨h.symm, z⟩))
    · exact .inr (.inr (.inl h))
def ltS (a b : Str) : Bool := ltCps a.cps.toList b.cps.toList
theorem str_ext {a b : Str} (h : a.cps.toList = b.cps.toList) : a = b := by
  cases a with
  | mk x =>
    cases b with
    | mk y =>
      cases x with
      | mk x =>
        cases y with
        | mk y =>
          cases (show x = y from h)
          rfl
theorem ltS_irr (a : Str) : ltS a a = false := ltc_irr _
theorem ltS_trans {a b c : Str} (h : ltS a b = true) (k : ltS b c = true) : ltS a c = true := ltc_trans _ _ _ h k
theorem ltS_tri (a b : Str) : ltS a b = true ∨ a = b ∨ ltS b a = true := (ltc_tri a.cps.toList b.cps.toList).imp id fun z => z.imp str_ext id
/-- in its place -/
def insS (z : Str) : List Str → List Str
  | [] => [z]
  | y :: r => if z = y then y :: r else if ltS z y = true then z :: y :: r else y :: insS z r
def sortU (zs : List Str) : List Str := zs.foldr insS []
abbrev UpS (l : List Str) : Prop := l.Pairwise fun a b => ltS a b = true
theorem insS_mem {z : Str} : ∀ {l : List Str} {x : Str}, x ∈ insS z l ↔ x = z ∨ x ∈ l
  | [], x => by simp [insS]
  | y :: r, x => by
    unfold insS
    split
    · rename_i e
      subst e
      simp
    · split
      · simp
      · rw [List.mem_cons, insS_mem, List.mem_cons]
        constructor
        · rintro (h | h | h) <;> simp [h]
        · rintro (h | h | h) <;> simp [h]
theorem insS_up {z : Str} : ∀ {l : List Str}, UpS l → UpS (insS z l)
  | [], _ => by simp [insS]
  | y :: r, h => by
    obtain ⟨h1, h2⟩ := List.pairwise_cons.mp h
    unfold insS
    split
    · exact h
    · rename_i ne
      split
      · rename_i lt
        refine List.pairwise_cons.mpr ⟨fun x m => ?_, h⟩
        rcases List.mem_cons.mp m with e | m
        · rw [e]
          exact lt
        · exact ltS_trans lt (h1 x m)
      · rename_i nlt
        refine List.pairwise_cons.mpr ⟨fun x m => ?_, insS_up h2⟩
        rcases insS_mem.mp m with e | m
        · subst e
          rcases ltS_tri x y with q | q | q
          · exact absurd q nlt
          · exact absurd q ne
          · exact q
        · exact h1 x m
theorem sortU_up : ∀ zs : List Str, UpS (sortU zs)
  | [] => List.Pairwise.nil
  | z :: r => insS_up (sortU_up r)
theorem sortU_mem : ∀ {zs : List Str} {x : Str}, x ∈ sortU zs ↔ x ∈ zs
  | [], x => Iff.rfl
  | z :: r, x => by
    show x ∈ insS z (sortU r) ↔ _
    rw [insS_mem, sortU_mem, List.mem_cons]
theorem up_unique : ∀ {l m : List Str}, UpS l → UpS m → (∀ x, x ∈ l ↔ x ∈ m) → l = m
  | [], [], _, _, _ => rfl
  | [], y :: m, _, _, h => absurd ((h y).mpr (List.mem_cons_self ..)) (by simp)
  | x :: l, [], _, _, h => absurd ((h x).mp (List.mem_cons_self ..)) (by simp)
  | x :: l, y :: m, hl, hm, h => by
    obtain ⟨l1, l2⟩ := List.pairwise_cons.mp hl
    obtain ⟨m1, m2⟩ := List.pairwise_cons.mp hm
    have e : x = y := by
      rcases List.mem_cons.mp ((h x).mp (List.mem_cons_self ..)) with e | a
      · exact e
      · rcases List.mem_cons.mp ((h y).mpr (List.mem_cons_self ..)) with e | b
        · exact e.symm
        · have z := ltS_trans (m1 x a) (l1 y b)
          rw [ltS_irr] at z
          cases z
    subst e
    congr 1
    refine up_unique l2 m2 fun z => ⟨fun a => ?_, fun a => ?_⟩
    · rcases List.mem_cons.mp ((h z).mp (List.mem_cons_of_mem _ a)) with e | b
      · rw [e] at a
        have q := l1 x a
        rw [ltS_irr] at q
        cases q
      · exact b
    · rcases List.mem_cons.mp ((h z).mpr (List.mem_cons_of_mem _ a)) with e | b
      · rw [e] at a
        have q := m1 x a
        rw [ltS_irr] at q
        cases q
      · exact b
theorem rising_up : ∀ {l : List Str} {p : Str}, risingS p l = true → (p :: l).Pairwise fun a b => ltS b a = false
  | [], p, _ => by simp
  | x :: r, p, h => by
    have h : (!ltCps x.cps.toList p.cps.toList && risingS x r) = true := h
    rw [Bool.and_eq_true, Bool.not_eq_true'] at h
    have ih := rising_up h.2
    refine List.pairwise_cons.mpr ⟨fun y m => ?_, ih⟩
    rcases List.mem_cons.mp m with e | m
    · rw [e]
      exact h.1
    · have q := (List.pairwise_cons.mp ih).1 y m
      cases k : ltS y p with
      | false => rfl
      | true =>
        rcases ltS_tri p x with z | z | z
        · have := ltS_trans k z
          rw [q] at this
          cases this
        · rw [z] at k
          rw [q] at k
          cases k
        · have : ltS x p = false := h.1
          rw [this] at z
          cases z
theorem sortedS_up {l : List Str} (h : sortedS l = true) (nd : l.Nodup) : UpS l := by
  have w : l.Pairwise fun a b => ltS b a = false := by
    cases l with
    | nil => exact List.Pairwise.nil
    | cons x r => exact rising_up h
  refine List.Pairwise.imp₂ (R := fun a b => ltS b a = false) (S := fun a b => a ≠ b) (fun a b h1 h2 => ?_) w nd
  rcases ltS_tri a b with z | z | z
  · exact z
  · exact absurd z h2
  · rw [h1] at z
    cases z
theorem sortU_eq {out zs : List Str} (h : sortedS out = true) (nd : out.Nodup) (m : ∀ z, z ∈ out ↔ z ∈ zs) : out = sortU zs :=
  up_unique (sortedS_up h nd) (sortU_up zs) fun x => (m x).trans sortU_mem.symm
def strsA : List D → Option (List Str)
  | [] => some []
  | .str z :: r => (strsA r).map (z :: ·)
  | _ :: _ => none
theorem strsA_at : ∀ {ds : List D} {zs : List Str}, strsA ds = some zs → ds = zs.map D.str
  | [], _, h => by cases h; rfl
  | d :: r, zs, h => by
    cases d with
    | str z =>
      obtain ⟨ws, e, rfl⟩ := Option.map_eq_some_iff.mp (show (strsA r).map (z :: ·) = some zs from h)
      rw [strsA_at e]
      rfl
    | _ => cases h
theorem strsA_map : ∀ zs : List Str, strsA (zs.map D.str) = some zs
  | [] => rfl
  | z :: r => by
    show (strsA (r.map D.str)).map (z :: ·) = _
    rw [strsA_map r]
    rfl
def D.txs : D → Option (List Str)
  | .lst ds => strsA ds
  | .tup ds => strsA ds
  | _ => none
theorem txs_at {d : D} {zs : List Str} (h : d.txs = some zs) : d = .lst (zs.map D.str) ∨ d = .tup (zs.map D.str) := by
  cases d with
  | lst ds => exact .inl (congrArg D.lst (strsA_at h))
  | tup ds => exact .inr (congrArg D.tup (strsA_at h))
  | _ => cases h
def D.sortedSet (d : D) : M D := match d.txs with
  | some zs => if zs.length < 64 then .ret (.lst ((sortU zs).map D.str)) else .fail
  | none => .fail
theorem setX_ofR {K : PySem.W.Frag} {Pg : Program} {w : World} {B W : List Addr} {H : Hp} {v : V} {d : D} {zs : List Str} {Q : VK} (s : Sr K B W H v d) (hd : d = .lst (zs.map D.str) ∨ d = .tup (zs.map D.str)) (hz : zs.length < 4000)
    (q : ∀ (p : Addr) (ys : List Str), H p = none → (∀ z, z ∈ ys ↔ z ∈ zs) → ys.Nodup → Q (.ref p) (upd H p (SetXO Pg w p ys))) : rSetX K Pg w [v] H Q := by
  rcases hd with rfl | rfl
  · obtain ⟨a, xs, rfl, _, h, r⟩ := s
    exact ⟨_, zs, rfl, .inl (by rw [← r.strs]; exact SqL.of h), hz, q⟩
  · exact setX_of (show Sg K B H v _ from s) (.inr rfl) hz q
theorem RN.sortedSet {K : PySem.W.Frag} {Pg : Program} {w : World} {ρ : List En} {te : TE} {md : M D} (h : RR K te ρ md) : RN K (tCB (rSortedX Pg w) (tCons (tCB (rSetX K Pg w) (tCons te tNil)) tNil)) ρ (md.bind D.sortedSet) := fun P w1 B W H σ e Q q =>
  h _ (wp_bind.mp w1) B W H σ e _ fun v d H1 g1 s1 w2 => by
    cases ed : d.txs with
    | none =>
      rw [D.sortedSet, ed] at w2
      exact w2.elim
    | some zs =>
      rw [D.sortedSet, ed] at w2
      obtain ⟨hz, w3⟩ := wp_ite w2
      show rSetX K Pg w [v] H1 fun x H2 => rSortedX Pg w [x] H2 Q
      refine setX_ofR s1 (txs_at ed) (by omega) fun a ys na mem nd => ?_
      refine ⟨a, ys, rfl, upd_same, Nat.lt_of_le_of_lt (nodup_le nd fun z m => (mem z).mp m) hz, fun out b perm so nb => ?_⟩
      have nb1 : H1 b = none := by
        by_cases z : b = a
        · rw [z, upd_same] at nb
          cases nb
        · rw [upd_ne z] at nb
          exact nb
      refine q b (.lst ((sortU zs).map D.str)) _ ((g1.trans (Gs.new na)).trans (Gs.new nb)) (g1.gw.free b nb1) ⟨(sortU zs).map V.str, ?_, SgA.ofStrs⟩ w3
      rw [← sortU_eq so (perm.nodup_iff.mpr nd) (fun z => perm.mem_iff.trans (mem z))]
      exact upd_same
end VB
namespace VB
open PySem PySem.Spec PyProof.Rows L2
structure Cl where
  all : List Addr
  (Bag Store Question Book Carry Days Desk VouchError Wrong TooMany Unfit NoDeed Unknown Taken Nothing Broken NoText NoCommand Archive Limits Paper Anchor Notice Piece Setting Pledge Region State : Addr)
  w : World
end VB
namespace VB
open PySem PySem.Spec PyProof.Rows L2
def NewV (K : PySem.W.Frag) (B : List Addr) (H0 H' : Hp) (v : V) (d : D) : Prop := match d.isRoot with
  | true => ∃ a, v = .ref a ∧ H0 a = none ∧ OwAt K (a :: B) H' a d
  | false => Sg K B H' v d
theorem OwAt.root {K : PySem.W.Frag} {B : List Addr} {H : Hp} {a : Addr} {d : D} (h : OwAt K B H a d) : d.isRoot = true := by
  cases d <;> first | rfl | exact h.elim
theorem NewV.new {K : PySem.W.Frag} {B : List Addr} {H0 H' : Hp} {a : Addr} {d : D} (n : H0 a = none) (k : OwAt K (a :: B) H' a d) : NewV K B H0 H' (.ref a) d := by
  unfold NewV
  rw [k.root]
  exact ⟨a, rfl, n, k⟩
theorem NewV.back {K : PySem.W.Frag} {B W : List Addr} {H H0 H' : Hp} {v : V} {d : D} (g : Gs W H H0) (h : NewV K B H0 H' v d) : NewV K B H H' v d := by
  unfold NewV at h ⊢
  cases e : d.isRoot with
  | true =>
    rw [e] at h
    obtain ⟨a, e1, n, k⟩ := h
    exact ⟨a, e1, g.gw.free a n, k⟩
  | false =>
    rw [e] at h
    exact h
theorem NewV.sg {K : PySem.W.Frag} {B W : List Addr} {H0 H' : Hp} {v : V} {d : D} (b : BW B W H0) (h : NewV K B H0 H' v d) : Sg K B H' v d := by
  unfold NewV at h
  cases e : d.isRoot with
  | true =>
    rw [e] at h
    obtain ⟨a, rfl, n, k⟩ := h
    exact k.sg (fun x m => List.mem_cons_of_mem _ m) fun m => b.kn a m n
  | false =>
    rw [e] at h
    exact h
def EVV (K : PySem.W.Frag) (te : TE) (ρ : List En) (P : D → Prop) : Prop := ∀ (B W : List Addr) (H : Hp) (σ : L2.St), EnvOk K B W H σ ρ → ∀ Q : VK, (∀ v d H', Gs W H H' → NewV K B H H' v d → P d → Q v H') → te σ H Q
def RV (K : PySem.W.Frag) (te : TE) (ρ : List En) (m : M D) : Prop := ∀ P, wp m P → EVV K te ρ P
/-- a slot that holds such a value -/
def En.of (d : D) : En := match d.isRoot with
  | true => .own ⟨none, d⟩
  | false => .dat d
/-- a def whose answer is new if it may change -/
def spMV (K : PySem.W.Frag) (ms : List Md) (m : List D → M D) : Sp := fun vs H Q _ => ∃ (B W : List Addr) (ds : List D) (P : D → Prop), BW B W H ∧ AmA K B W H ms vs ds ∧ wp (m ds) P ∧ ∀ v d H', Gs W H H' → NewV K B H H' v d → P d → Q v H'
section
variable {K : PySem.W.Frag} {R : Po → Prop} {t u v : TS} {ρ : List En} {α : Type} {m ma mb : M D} {C : Po → α → Prop} {te ta tb : TE} {tt : TT} {md : M D} {mt : M Bool} {i : Nat} {k : D → M α} {d : D} {ms : List Md} {A : MA} {tl : TA} {E : XK} {l : List D → M D}
theorem RV.n (h : RN K te ρ m) : RV K te ρ m := fun P w B W H σ e Q q => h P w B W H σ e Q fun a d H' g n k p => q _ d H' g (.new n k) p
theorem RV.non : RV K (tC .non) ρ (.ret .non) := fun P w B W H σ e Q q => q .non .non H Gs.refl (show Sg K B H .non .non from .non) w
theorem RV.re (h : RV K te ρ m) : RE K te ρ m := fun P w B W H σ e Q q => h P w B W H σ e Q fun v d H' g n p => q v d H' g (n.sg e.bw) p
theorem RV.call (h : RAm K tl ρ ms A) : RV K (tCall (spMV K ms l) [] E tl) ρ (A D l) := fun P w B W H σ e Q q => h D l P w B W H σ e _ fun vs ds H1 g1 s1 w1 =>
  ⟨B, W, ds, P, (e.gs g1).bw, by rw [List.append_nil]; exact s1, w1, fun v d H2 g2 n p => q v d H2 (g1.trans g2) (n.back g1) p⟩
theorem RR.of (h : ρ[i]? = some (En.of d)) : RR K (tVar i) ρ (.ret d) := by
  unfold En.of at h
  cases e : d.isRoot with
  | true =>
    rw [e] at h
    exact RR.own h
  | false =>
    rw [e] at h
    exact RR.var h
end
def D.appK {α : Type} (d x : D) (k : D → M α) : M α := d.lsk fun ds => if ds.length < 16777216 then k (.lst (ds ++ [x])) else .fail
def D.itemK {α : Type} (d x y : D) (k : D → M α) : M α := d.lsk fun ds => y.asI.bind fun n => match ixN ds.length n with | some j => k (.lst (ds.set j x)) | none => .fail
section
variable {K : PySem.W.Frag} {R : Po → Prop} {u : TS} {ρ : List En} {α : Type} {mk md : M D} {C : Po → α → Prop} {te tk : TE} {i : Nat} {d : D} {tg : Option Addr} {kk : D → M α}
theorem G.app2 (hi : ρ[i]? = some (.own ⟨tg, d⟩)) (he : RE K te ρ md) (h : ∀ d', G K R u (ρ.set i (.own ⟨tg, d'⟩)) (kk d') C) : G K R (tSeq (tDrop (tBM K "list" rAppend (tVar i) (tCons te tNil))) u) ρ (md.bind fun x => D.appK d x kk) C := G.app hi he h
theorem G.item2 (hi : ρ[i]? = some (.own ⟨tg, d⟩)) (he : RE K te ρ md) (hk : RE K tk ρ mk) (h : ∀ d', G K R u (ρ.set i (.own ⟨tg, d'⟩)) (kk d') C) :
    G K R (tSeq (tAsg te (gSub (tVar i) tk rSetL)) u) ρ (md.bind fun x => mk.bind fun y => D.itemK d x y kk) C := G.item hi he hk h
end
theorem unfold_law {K : PySem.W.Frag} {t : TS} {ρ : List En} {m : M D} (h : G K (fnR false) t ρ m CF) (w : wp m fun d => d = .bl true) : ST K t ρ ⟨fun _ => False, fun d => d = .bl true, fun _ => False, fun _ => False, false⟩ := h _ ⟨rfl, fun _ z => nomatch z⟩ w
end VB
namespace VB
open PySem PySem.Spec PyProof.Rows L2
def fnA (K : PySem.W.Frag) (a : Addr) : He.FnW := match K.lookup a with
  | some ⟨_, _, .func fd, _⟩ => some (fd.name, fd.qualname, fd.params, fd.body, fd.scope, fd.globals, fd.closure, fd.builtins)
  | _ => none
/-- one def: where it stands -/
structure DefQ where
  p : PySem.W.Frag → Addr
  name : Str
  qual : Str
  params : Arguments
  body : List Stmt
  scope : Scope
  dfl : List He.Dv := []
  kwd : List (Str × He.Dv) := []
def DefQ.val (d : DefQ) : He.FnW := some (d.name, d.qual, d.params, .stmts d.body, d.scope, mainGlobals, [], builtinsNs)
def DefQ.dvs (K : PySem.W.Frag) (d : DefQ) : List V := d.dfl.map (He.Dv.v K)
def DefQ.kws (K : PySem.W.Frag) (d : DefQ) : List (Str × V) := d.kwd.map fun q => (q.1, q.2.v K)
def DefQ.ok (K : PySem.W.Frag) (d : DefQ) : Bool := PySem.W.keepIn K (.ref (d.p K)) && (match K.lookup (d.p K) with
  | some ⟨_, _, .func fd, _⟩ => PySem.W.codeIn K fd.code d.qual && (He.dflB K fd.defaults (d.dvs K) && He.kwdB K fd.kwdefaults (d.kws K))
  | _ => false)
theorem DefQ.funD {K : PySem.W.Frag} {d : DefQ} (e : fnA K (d.p K) = d.val) (c : d.ok K = true) : ∃ fd, FunD K d.name d.qual d.params d.body d.scope (d.dvs K) (d.kws K) (d.p K) fd := by
  obtain ⟨kp, c2⟩ := He.ba c
  unfold fnA at e
  cases q : K.lookup (d.p K) with
  | none =>
    rw [q] at c2
    cases c2
  | some o =>
    obtain ⟨oc, od, dt, osl⟩ := o
    rw [q] at c2 e
    cases dt with
    | func fd =>
      obtain ⟨n1, n2, n3, n4, n5, n6, n7, n8, n9, n10, n11, n12, n13, n14, n15⟩ := fd
      have e2 : (some (n1, n2, n3, n4, n5, n6, n7, n15) : He.FnW) = some (d.name, d.qual, d.params, .stmts d.body, d.scope, mainGlobals, [], builtinsNs) := e
      simp only [Option.some.injEq, Prod.mk.injEq] at e2
      obtain ⟨h1, h2, h3, h4, h5, h6, h7, h8⟩ := e2
      subst h1 h2 h3 h4 h5 h6 h7 h8
      obtain ⟨k1, k2⟩ := He.ba (show (PySem.W.codeIn K n13 d.qual && (He.dflB K n8 (d.dvs K) && He.kwdB K n9 (d.kws K))) = true from c2)
      obtain ⟨k2, k3⟩ := He.ba k2
      exact ⟨_, ⟨oc, od, n8, n9, n10, n11, n12, n13, n14, osl, rfl, q, k1, He.dflB_ok k2, He.kwdB_ok k3⟩, kp⟩
    | _ => cases c2
abbrev AlQ : Type := Bool × List He.FnW
def obsQ (ex : List (PySem.W.Frag → Bool)) (fa : List He.Fa) (fn : List DefQ) (K : PySem.W.Frag) : AlQ := (sysOk K && (ex.all (fun f => f K) && ((fa.all fun f => f.ok K) && fn.all fun d => d.ok K)), fn.map fun d => fnA K (d.p K))
def valQ (fn : List DefQ) : AlQ := (true, fn.map DefQ.val)
def SaysQ (ex : List (PySem.W.Frag → Bool)) (fa : List He.Fa) (fn : List DefQ) (K : PySem.W.Frag) : Prop := obsQ ex fa fn K = valQ fn
section
variable {ex : List (PySem.W.Frag → Bool)} {fa : List He.Fa} {fn : List DefQ} {K : PySem.W.Frag}
theorem SaysQ.all (c : SaysQ ex fa fn K) : sysOk K = true ∧ ex.all (fun f => f K) = true ∧ (fa.all fun f => f.ok K) = true ∧ (fn.all fun d => d.ok K) = true := by
  obtain ⟨h1, h2⟩ := He.ba (show (sysOk K && (ex.all (fun f => f K) && ((fa.all fun f => f.ok K) && fn.all fun d => d.ok K))) = true from congrArg (fun z : AlQ => z.1) c)
  obtain ⟨h2, h3⟩ := He.ba h2
  obtain ⟨h3, h4⟩ := He.ba h3
  exact ⟨h1, h2, h3, h4⟩
theorem SaysQ.fact (c : SaysQ ex fa fn K) (i : Nat) {f : He.Fa} (h : fa[i]? = some f := by rfl) : f.ok K = true := List.all_eq_true.mp c.all.2.2.1 f (List.mem_of_getElem? h)
theorem SaysQ.ext (c : SaysQ ex fa fn K) (i : Nat) {f : PySem.W.Frag → Bool} (h : ex[i]? = some f := by rfl) : f K = true := List.all_eq_true.mp c.all.2.1 f (List.mem_of_getElem? h)
theorem SaysQ.def_ (c : SaysQ ex fa fn K) (i : Nat) {d : DefQ} (h : fn[i]? = some d := by rfl) : ∃ fd, FunD K d.name d.qual d.params d.body d.scope (d.dvs K) (d.kws K) (d.p K) fd := by
  have e : fn.map (fun d => fnA K (d.p K)) = fn.map DefQ.val := congrArg (fun z : AlQ => z.2) c
  have e2 : (fn.map fun d => fnA K (d.p K))[i]? = (fn.map DefQ.val)[i]? := by rw [e]
  rw [List.getElem?_map, List.getElem?_map, h] at e2
  exact DefQ.funD (Option.some.inj e2) (List.all_eq_true.mp c.all.2.2.2 d (List.mem_of_getElem? h))
end
def atG (x : Str) (K : PySem.W.Frag) : Addr := He.ga K x
def atM (x m : Str) (K : PySem.W.Frag) : Addr := He.ma K (He.ga K x) m
def atP (x m : Str) (K : PySem.W.Frag) : Addr := match PySem.W.recIn K (He.ma K (He.ga K x) m) "property" with
  | some (.ref g :: _) => g
  | _ => 0
def propB (x m : Str) (K : PySem.W.Frag) : Bool := He.eqO (PySem.W.findIn K (.ref (He.ga K x)) m) (some (some (.ref (He.ma K (He.ga K x) m)))) &&
  (He.eqO (PySem.W.specialIn K (.ref (He.ma K (He.ga K x) m)) "__get__") (some (some (.builtin "property.__get__"))) && (decide (PySem.W.takesIn K (.ref (He.ma K (He.ga K x) m)) = some true) &&
  (match PySem.W.recIn K (He.ma K (He.ga K x) m) "property" with
  | some (.ref _ :: _) => true
  | _ => false)))
theorem propB_ok {x m : Str} {K : PySem.W.Frag} (h : propB x m K = true) : PropOf K (He.ga K x) m (He.ma K (He.ga K x) m) (atP x m K) := by
  obtain ⟨h1, h2⟩ := He.ba h
  obtain ⟨h2, h3⟩ := He.ba h2
  obtain ⟨h3, h4⟩ := He.ba h3
  refine ⟨He.eqO_ok h1, He.eqO_ok h2, of_decide_eq_true h3, ?_⟩
  unfold atP
  split at h4
  · rename_i g r e
    rw [e]
    exact ⟨r, rfl⟩
  · cases h4
def clB (xs : List Str) (K : PySem.W.Frag) : Bool := kcB K (xs.map (He.ga K))
theorem clB_ok {xs : List Str} {K : PySem.W.Frag} (h : clB xs K = true) : KC K (xs.map (He.ga K)) := kcB_ok h
end VB
namespace VB
open PySem PySem.Spec PyProof.Rows L2
def D.oneK (Cs : List Addr) (x c : D) : Option Bool := match c with
  | .ty n => (match x with
    | .ins C _ _ => if C ∈ Cs ∧ n ∈ bts then some false else none
    | x => x.tyn.bind fun m => kitB m n)
  | .raw C => if C ∈ Cs ∧ x.kn Cs = true then some (x.isiO Cs C) else none
  | _ => none
def D.anyK (Cs : List Addr) (x : D) : List D → Option Bool
  | [] => some false
  | c :: r => match D.oneK Cs x c with
    | some true => some true
    | some false => D.anyK Cs x r
    | none => none
def D.cV : D → V
  | .ty n => .ty n
  | .raw C => .ref C
  | _ => .non
def D.cU : D → Value
  | .ty n => .type n
  | .raw C => .ref C
  | _ => .none
def D.isC : D → Bool
  | .ty _ => true
  | .raw _ => true
  | _ => false
section
variable {K : PySem.W.Frag} {Cs : List Addr} {ρ : List En} {te : TE} {md : M D} {t : TA}
theorem oneK_ok (k : KC K Cs) {x c : D} {b : Bool} (h : D.oneK Cs x c = some b) : PySem.W.kitOne K x.tyV c.cU = some b := by
  cases c with
  | ty n =>
    cases x with
    | ins C ks ds =>
      by_cases z : C ∈ Cs ∧ n ∈ bts
      · have e : some false = some b := by
          rw [← h]
          exact (if_pos z).symm
        cases e
        exact (k.ty1 C z.1 n z.2).2.1
      · have e : (none : Option Bool) = some b := by
          rw [← h]
          exact (if_neg z).symm
        cases e
    | ty m => cases h
    | raw m => cases h
    | dit ks ds => cases h
    | din _ _ _ _ => cases h
    | _ =>
      have h : kitB _ n = some b := h
      exact kit_ty h
  | raw C =>
    by_cases z : C ∈ Cs ∧ x.kn Cs = true
    · have e : some (x.isiO Cs C) = some b := by
        rw [← h]
        exact (if_pos z).symm
      cases e
      exact kit_own k z.1 z.2
    · have e : (none : Option Bool) = some b := by
        rw [← h]
        exact (if_neg z).symm
      cases e
  | _ => cases h
theorem anyK_ok (k : KC K Cs) {x : D} : ∀ {cs : List D} {b : Bool}, D.anyK Cs x cs = some b → PySem.W.kitAny K x.tyV (cs.map D.cU) = some b
  | [], _, h => h
  | c :: r, b, h => by
    show (match PySem.W.kitOne K x.tyV c.cU with
      | some true => some true
      | some false => PySem.W.kitAny K x.tyV (r.map D.cU)
      | none => none) = some b
    have h : (match D.oneK Cs x c with
      | some true => some true
      | some false => D.anyK Cs x r
      | none => none) = some b := h
    cases e : D.oneK Cs x c with
    | none =>
      rw [e] at h
      cases h
    | some q =>
      rw [e] at h
      rw [oneK_ok k e]
      cases q with
      | true => exact h
      | false => exact anyK_ok k h
theorem cls_pair : ∀ {cs : List D}, cs.all D.isC = true → Paired ClsV (cs.map D.cV) (cs.map D.cU)
  | [], _ => .nil
  | c :: r, h => by
    obtain ⟨h1, h2⟩ := Bool.and_eq_true_iff.mp (List.all_cons ▸ h)
    refine .cons ?_ (cls_pair h2)
    cases c with
    | ty n => exact .ty n
    | raw C => exact .own C
    | _ => cases h1
/-- isinstance(x, (T, ..)) -/
def D.isiT (Cs : List Addr) (cs : List D) (x : D) : M D := if x.kn Cs = true ∧ cs.all D.isC = true ∧ cs.length ≤ 1000 then M.ofO (D.anyK Cs x cs) else .fail
theorem RE.isiT {cs : List D} (k : KC K Cs) (h : RR K te ρ md) (ht : ∀ (σ : L2.St) (H : Hp) (Q : List V → Hp → Prop), Q (cs.map D.cV) H → t σ H Q) : RE K (tCB (rIsiT K) (tCons te (tCons (tTup t) tNil))) ρ (md.bind (D.isiT Cs cs)) := fun P w B W H σ e Q q =>
  h _ (wp_bind.mp w) B W H σ e _ fun v x H1 g1 s1 w1 => by
    obtain ⟨⟨h1, h2, h3⟩, w2⟩ := wp_ite w1
    show tTup t σ H1 fun x H2 => rIsiT K [v, x] H2 Q
    refine ht σ H1 _ ⟨by rw [sizeLine_eq, List.length_map]; omega, fun p np => ?_⟩
    cases ea : D.anyK Cs x cs with
    | none =>
      rw [ea] at w2
      exact w2.elim
    | some b =>
      rw [ea] at w2
      have e1 := (e.gs g1)
      exact ⟨v, p, cs.map D.cV, x.tyV, cs.map D.cU, b, rfl, upd_same, cls_pair h2, kn_tyx k h1 (s1.gs e.bw.sub (Gs.new np)), anyK_ok k ea, q _ _ _ (g1.trans (Gs.new np)) (.bl b) w2⟩
end
end VB
namespace VB
open PySem PySem.Spec PyProof.Rows L2
section
variable {α β : Type}
theorem take_ev {n : Int} (h0 : 0 < n) (h1 : n < 2 ^ 200) : D.takeM (.int n) = .draw n fun r => .ret (.int r) := by
  show (if 0 < n ∧ n < 2 ^ 200 then _ else _) = _
  rw [if_pos ⟨h0, h1⟩]
theorem wp_take {n : Int} {k : D → M α} {P : α → Prop} (h0 : 0 < n) (h1 : n < 2 ^ 200) (h : ∀ r : Int, 0 ≤ r → r < n → wp (k (.int r)) P) : wp ((D.takeM (.int n)).bind k) P := by
  rw [take_ev h0 h1]
  exact ⟨h0, h⟩
theorem map_ret2 {γ : Type} {k : D → M D} {g f : γ → D} : ∀ {xs : List γ}, (∀ x ∈ xs, k (g x) = .ret (f x)) → M.map k (xs.map g) = .ret (xs.map f)
  | [], _ => rfl
  | x :: xs, h => by
    show (k (g x)).bind _ = _
    rw [h x (List.mem_cons_self ..), map_ret2 fun x m => h x (List.mem_cons_of_mem _ m)]
    rfl
theorem wp_map_all {k : D → M D} {Q : D → Prop} : ∀ {ds : List D} {P : List D → Prop}, (∀ d ∈ ds, wp (k d) Q) → (∀ es, es.length = ds.length → (∀ e ∈ es, Q e) → P es) → wp (M.map k ds) P
  | [], P, _, hP => hP [] rfl fun _ m => nomatch m
  | d :: ds, P, h, hP => by
    unfold M.map
    refine wp_bind_of (h d (List.mem_cons_self ..)) fun y hy => wp_bind.mpr (wp_map_all (fun x m => h x (List.mem_cons_of_mem _ m)) fun es hl he => ?_)
    refine hP (y :: es) (by rw [List.length_cons, List.length_cons, hl]) fun e m => ?_
    rcases List.mem_cons.mp m with z | m
    · rw [z]
      exact hy
    · exact he e m
theorem wp_fold {L : Type} {f : D → L → M L} {I : Nat → L → Prop} : ∀ {ds : List D} {s : L} {P : L → Prop} (i : Nat), I i s → (∀ j d s, ds[j]? = some d → I (i + j) s → wp (f d s) fun s' => I (i + j + 1) s') → (∀ s, I (i + ds.length) s → P s) → wp (M.fold f ds s) P
  | [], s, P, i, h0, _, hP => hP s h0
  | d :: ds, s, P, i, h0, hs, hP => by
    unfold M.fold
    refine wp_bind_of (hs 0 d s rfl h0) fun s' h1 => wp_fold (i + 1) h1 (fun j d' s' e h => ?_) fun s h => hP s ?_
    · have z := hs (j + 1) d' s' e
      rw [show i + (j + 1) = i + 1 + j by omega] at z
      exact z h
    · rw [List.length_cons, show i + (ds.length + 1) = i + 1 + ds.length by omega]
      exact h
/-- a loop that goes on to its end -/
theorem wp_loop {L X : Type} {f : D → L → M (Fl L L)} {I : L → Prop} : ∀ {ds : List D} {s : L} {P : Fl L X → Prop}, I s → (∀ d ∈ ds, ∀ s, I s → wp (f d s) fun o => ∃ s', (o = .nx s' ∨ o = .ct s') ∧ I s') → (∀ s, I s → P (.nx s)) → wp (M.loop f ds s) P
  | [], s, P, h0, _, hP => hP s h0
  | d :: ds, s, P, h0, hs, hP => by
    unfold M.loop
    refine wp_bind_of (hs d (List.mem_cons_self ..) s h0) fun o ⟨s', ho, h1⟩ => ?_
    rcases ho with rfl | rfl
    · exact wp_loop h1 (fun x m => hs x (List.mem_cons_of_mem _ m)) hP
    · exact wp_loop h1 (fun x m => hs x (List.mem_cons_of_mem _ m)) hP
end
theorem isi_str_str {z : Str} : D.isi (.str z) (.ty "str") = .ret (.bl true) := by rfl
theorem isi_tup_tup {ds : List D} : D.isi (.tup ds) (.ty "tuple") = .ret (.bl true) := by rfl
theorem dle_int {i j : Int} : D.le (.int i) (.int j) = .ret (.bl (decide (i ≤ j))) := rfl
theorem dlt_int {i j : Int} : D.lt (.int i) (.int j) = .ret (.bl (decide (i < j))) := rfl
theorem deq_int {i j : Int} : D.eq (.int i) (.int j) = .ret (.bl (decide (i = j))) := rfl
theorem deq_str {i j : Str} : D.eq (.str i) (.str j) = .ret (.bl (decide (i = j))) := rfl
theorem dne_int {i j : Int} : D.ne (.int i) (.int j) = .ret (.bl (!decide (i = j))) := rfl
theorem dne_bl {i j : Bool} : D.ne (.bl i) (.bl j) = .ret (.bl (!decide (i = j))) := rfl
theorem dne_str {i j : Str} : D.ne (.str i) (.str j) = .ret (.bl (!decide (i = j))) := rfl
theorem dadd_int {i j : Int} : D.add (.int i) (.int j) = .ret (.int (i + j)) := rfl
theorem asB_bl {b : Bool} : (D.bl b).asB = .ret b := rfl
theorem asI_int {i : Int} : (D.int i).asI = .ret i := rfl
theorem all_bl (bs : List Bool) : D.all (.lst (bs.map D.bl)) = .ret (.bl (bs.all id)) := by
  unfold D.all
  simp only
  rw [bls_map]
theorem all_map {α : Type} (f : α → Bool) (xs : List α) : D.all (.lst (xs.map fun x => D.bl (f x))) = .ret (.bl (xs.all f)) := by
  have z := all_bl (xs.map f)
  rw [List.map_map, List.all_map] at z
  exact z
theorem dlen_lst {ds : List D} : D.len (.lst ds) = .ret (.int ds.length) := rfl
theorem dlen_tup {ds : List D} : D.len (.tup ds) = .ret (.int ds.length) := rfl
theorem dlen_str {z : Str} (h : z.length ≤ 16777216) : D.len (.str z) = .ret (.int z.length) := if_pos h
theorem items_str {z : Str} (h : z.length ≤ 16777216) : D.items (.str z) = .ret (D.signs z) := if_pos h
theorem lstM_ev {ds : List D} (h : ds.length ≤ 16777216) : D.lstM ds = .ret (.lst ds) := if_pos h
theorem ix_lst {ds : List D} {i : Int} {d : D} (h : atI ds i = some d) : D.ix (.lst ds) (.int i) = .ret d := by
  show M.ofD (atI ds i) = _
  rw [h]
  rfl
theorem ix_tup {ds : List D} {i : Int} {d : D} (h : atI ds i = some d) : D.ix (.tup ds) (.int i) = .ret d := by
  show M.ofD (atI ds i) = _
  rw [h]
  rfl
theorem ix_str {z : Str} {i : Int} {c : Nat} (hl : z.length ≤ 16777216) (h : atI z.cps.toList i = some c) : D.ix (.str z) (.int i) = .ret (.str ⟨#[c]⟩) := by
  show (if z.length ≤ 16777216 then M.ofD ((atI z.cps.toList i).map fun c => .str ⟨#[c]⟩) else .fail) = _
  rw [if_pos hl, h]
  rfl
theorem rng1_ev {n : Int} (h0 : 0 ≤ n) (h1 : n ≤ 16777216) : D.rng1 [.int n] = .ret (D.ints 0 n.toNat) := if_pos ⟨by omega, h1⟩
theorem ints_mem {n : Nat} {d : D} (m : d ∈ D.ints 0 n) : ∃ i : Nat, d = .int i ∧ i < n := by
  unfold D.ints at m
  obtain ⟨i, hi, e⟩ := List.mem_map.mp m
  refine ⟨i, ?_, List.mem_range.mp hi⟩
  rw [← e]
  congr 1
  omega
theorem strs_all {es : List D} (h : ∀ e ∈ es, ∃ z : Str, e = .str z) : ∃ zs : List Str, es = zs.map D.str ∧ zs.length = es.length := by
  induction es with
  | nil => exact ⟨[], rfl, rfl⟩
  | cons e es ih =>
    obtain ⟨z, rfl⟩ := h e (List.mem_cons_self ..)
    obtain ⟨zs, e1, e2⟩ := ih fun x m => h x (List.mem_cons_of_mem _ m)
    exact ⟨z :: zs, by rw [e1]; rfl, by rw [List.length_cons, List.length_cons, e2]⟩
theorem strs_allP {p : Str → Prop} {es : List D} (h : ∀ e ∈ es, ∃ z : Str, e = .str z ∧ p z) : ∃ zs : List Str, es = zs.map D.str ∧ zs.length = es.length ∧ ∀ z ∈ zs, p z := by
  obtain ⟨zs, e1, e2⟩ := strs_all fun e m => (h e m).imp fun z q => q.1
  refine ⟨zs, e1, e2, fun z m => ?_⟩
  obtain ⟨y, ey, py⟩ := h (.str z) (by rw [e1]; exact List.mem_map_of_mem m)
  cases ey
  exact py
theorem eqb_pu {x y : D} (hx : x.pu = true) (hy : y.pu = true) (sx : SeqAt.shaped x.py = true) (sy : SeqAt.shaped y.py = true) : (x.pu && y.pu && (SeqAt.shaped x.py && SeqAt.shaped y.py)) = true := by
  rw [hx, hy, sx, sy]
  rfl
theorem mulI_ev {i j : Int} (h : i.natAbs.log2 + j.natAbs.log2 < 1000000) : D.mul (.int i) (.int j) = .ret (.int (i * j)) := if_pos h
theorem mulS_ev {z : Str} {k : Int} (h : 0 ≤ k ∧ k ≤ 5000 ∧ z.length ≤ 1000) : D.mul (.str z) (.int k) = .ret (.str (Txt.mul z k)) := if_pos h
theorem addS_ev {x y : Str} (h : x.length + y.length ≤ 16777216) : D.add (.str x) (.str y) = .ret (.str (x ++ y)) := if_pos h
theorem addL_ev {x y : List D} (h : x.length + y.length ≤ 16777216) : D.add (.lst x) (.lst y) = .ret (.lst (x ++ y)) := if_pos h
theorem slS_ev {z : Str} {lo hi : Option Int} (h : z.length ≤ 16777216) : D.sl (.str z) lo hi = .ret (.str (cutS z lo hi)) := if_pos h
theorem fdiv_ev {i j : Int} (h : 0 < j ∧ j.natAbs.log2 < 9000) : D.fdiv (.int i) (.int j) = .ret (.int (i / j)) := if_pos h
theorem mod_ev {i j : Int} (h : 0 < j) : D.mod (.int i) (.int j) = .ret (.int (i % j)) := if_pos h
theorem log2_small {i : Int} (h : i.natAbs < 2 ^ 200) : i.natAbs.log2 < 300 := by
  by_cases z : i.natAbs = 0
  · rw [z]
    decide
  · have := (Nat.log2_lt z).mpr h
    omega
theorem join_ev {a : Str} {ys : List Str} (h : (ys.map (·.length)).sum + ys.length * a.length ≤ 16777216) : D.join (.str a) (.lst (ys.map D.str)) = .ret (.str (Txt.join a ys)) := by
  unfold D.join
  dsimp only
  rw [strs_map]
  exact if_pos h
theorem split_ev {a b : Str} (h : (b.length == 0) = false ∧ a.length + 2 ≤ 16777216) : D.split (.str a) (.str b) = .ret (.lst ((Txt.split a b).map D.str)) := if_pos h
section
variable {a b c d e : D}
theorem tupM1 : D.tupM [a] = .ret (.tup [a]) := if_pos (by show 1 ≤ 16777216; decide)
theorem tupM2 : D.tupM [a, b] = .ret (.tup [a, b]) := if_pos (by show 2 ≤ 16777216; decide)
theorem tupM3 : D.tupM [a, b, c] = .ret (.tup [a, b, c]) := if_pos (by show 3 ≤ 16777216; decide)
theorem tupM0 : D.tupM [] = .ret (.tup []) := if_pos (by show 0 ≤ 16777216; decide)
theorem lstM0 : D.lstM [] = .ret (.lst []) := if_pos (by show 0 ≤ 16777216; decide)
theorem lstM1 : D.lstM [a] = .ret (.lst [a]) := if_pos (by show 1 ≤ 16777216; decide)
theorem lstM2 : D.lstM [a, b] = .ret (.lst [a, b]) := if_pos (by show 2 ≤ 16777216; decide)
theorem lstM3 : D.lstM [a, b, c] = .ret (.lst [a, b, c]) := if_pos (by show 3 ≤ 16777216; decide)
theorem lstM4 : D.lstM [a, b, c, d] = .ret (.lst [a, b, c, d]) := if_pos (by show 4 ≤ 16777216; decide)
theorem lstM5 : D.lstM [a, b, c, d, e] = .ret (.lst [a, b, c, d, e]) := if_pos (by show 5 ≤ 16777216; decide)
end
end VB
namespace VB
open PySem PySem.Spec PyProof.Rows L2
structure Eqq (k : Nat) (d : D) : Prop where
  pu : d.pu = true
  lay : d.py.canLay0 = true
  dp : d.py.depth ≤ k
theorem Eqq.mono {k l : Nat} {d : D} (h : Eqq k d) (hl : k ≤ l) : Eqq l d := ⟨h.pu, h.lay, Nat.le_trans h.dp hl⟩
theorem Eqq.int {i : Int} : Eqq 0 (.int i) := ⟨rfl, rfl, Nat.le_refl _⟩
theorem Eqq.bl {i : Bool} : Eqq 0 (.bl i) := ⟨rfl, rfl, Nat.le_refl _⟩
theorem Eqq.non : Eqq 0 .non := ⟨rfl, rfl, Nat.le_refl _⟩
theorem Eqq.str {z : Str} (h : PyData.strOk z = true) : Eqq 0 (.str z) := ⟨rfl, h, Nat.le_refl _⟩
theorem Eqq.all {k : Nat} : ∀ {ds : List D}, (∀ d ∈ ds, Eqq k d) → D.puA ds = true ∧ PyData.canLayAll0 (D.pyA ds) = true ∧ PyData.depthAll (D.pyA ds) ≤ k
  | [], _ => ⟨rfl, rfl, Nat.zero_le _⟩
  | d :: ds, h => by
    have h1 := h d (List.mem_cons_self ..)
    obtain ⟨a, b, c⟩ := Eqq.all (ds := ds) fun x m => h x (List.mem_cons_of_mem _ m)
    refine ⟨?_, ?_, ?_⟩
    · show (D.pu d && D.puA ds) = true
      rw [h1.pu, a]
      rfl
    · show (PyData.canLay0 _ && PyData.canLayAll0 _) = true
      rw [h1.lay, b]
      rfl
    · show max (PyData.depth _) (PyData.depthAll _) ≤ k
      have := h1.dp
      omega
theorem Eqq.tup {k : Nat} {ds : List D} (h : ∀ d ∈ ds, Eqq k d) : Eqq (k + 1) (.tup ds) := by
  obtain ⟨a, b, c⟩ := Eqq.all h
  exact ⟨a, b, Nat.succ_le_succ c⟩
theorem Eqq.lst {k : Nat} {ds : List D} (h : ∀ d ∈ ds, Eqq k d) : Eqq (k + 1) (.lst ds) := by
  obtain ⟨a, b, c⟩ := Eqq.all h
  exact ⟨a, b, Nat.succ_le_succ c⟩
theorem Eqq.sh {k : Nat} {d : D} (h : Eqq k d) (hk : k ≤ 64) : SeqAt.shaped d.py = true := by
  unfold SeqAt.shaped
  rw [h.lay, decide_eq_true (Nat.le_trans h.dp hk)]
  rfl
theorem Eqq.cond {k : Nat} {x y : D} (hx : Eqq k x) (hy : Eqq k y) (hk : k ≤ 64) : (x.pu && y.pu && (SeqAt.shaped x.py && SeqAt.shaped y.py)) = true := eqb_pu hx.pu hy.pu (hx.sh hk) (hy.sh hk)
section
variable {k : Nat} {xs ys : List D} {y : D} {zs : List Str}
theorem eqb_lst (hx : Eqq k (.lst xs)) (hy : Eqq k (.lst (y :: ys))) (hk : k ≤ 64) : D.eqb (.lst xs) (.lst (y :: ys)) = some (PyData.eqv (D.lst xs).py (D.lst (y :: ys)).py) := if_pos (hx.cond hy hk)
theorem eqv_str {a b : Str} : PyData.eqv (D.str a).py (D.str b).py = decide (a = b) := by
  show PyData.eqv (.str a) (.str b) = _
  unfold PyData.eqv
  rw [Bool.eq_iff_iff]
  simp
theorem Fit.bl {b : Bool} : Fit 1 0 (.bl b) := ⟨rfl, by cases b <;> decide, Nat.le_refl _⟩
theorem Fit.non : Fit 1 0 .non := ⟨rfl, by decide, Nat.le_refl _⟩
theorem Fit.wd {z : Str} (h : Wd z) : Fit 150 0 (.str z) := Fit.str (by have := h.2.1; omega) (by decide) h.2.2.sm
theorem Eqq.wd {z : Str} (h : Wd z) : Eqq 0 (.str z) := .str (wd_ok h.2.2)
end
section
variable {α : Type} {C : Addr} {f : Str} {ks : List Str} {ds : List D} {v : D} {k : D → M α} {l : List D → M D} {nm : Str} {m : M α}
theorem setF_ev (h : f ∉ ks ∧ ks.length < 1000) : D.setF C f (.ins C ks ds) v k = k (.ins C (ks ++ [f]) (ds ++ [v])) := by
  show (if C = C then (if f ∉ ks ∧ ks.length < 1000 then _ else _) else _) = _
  rw [if_pos rfl, if_pos h]
theorem getF_ev : D.getF C f (.ins C ks ds) = M.ofD ((ks.zip ds).lookup f) := if_pos rfl
theorem prp_ev : D.prp C l (.ins C ks ds) = l [.ins C ks ds] := if_pos rfl
theorem mth_ev (h : nm ∉ ks) : D.mth C nm (.ins C ks ds) m = m := by
  show (if C = C then (if nm ∉ ks then m else .fail) else _) = _
  rw [if_pos rfl, if_pos h]
end
end VB
namespace VB
open PySem PySem.Spec PyProof.Rows L2
section
variable {X : Cx} {CX : CXT} {C f : Addr} {k : Nat} {fd : FuncData} {ps : List Str} {sp : Sp} {E : XK}
/-- v in x, x an instance -/
def rInO (C : Addr) (sp : Sp) (E : XK) : R2 := fun v x H Q => ∃ a dx fs, x = .ref a ∧ H a = some (.ins C dx fs) ∧ sp [x, v] H (fun z H' => ∃ b, z = .bl b ∧ Q (.bl b) H') E
theorem op_inO (hm : Meth X.K C "__contains__" f) (F : FnOk X.prog X.w X.K X.mg X.base CX k f fd ps sp) (hb : Binds X.K fd ps []) (hr : Room k X.A) (hx : Passes CX X E) : OpR X (compareOp .In) (rInO C sp E) := by
  intro pins s σ H x y v u Q I rx ry h
  obtain ⟨a, dx, fs, rfl, ea, q⟩ := h
  cases (show u = Value.ref a from ry)
  obtain ⟨ox, od, J⟩ := ins_inst I ea
  obtain ⟨m, hF⟩ := I.fr
  refine PySem.W.in_K hF I.ok.mod.kin J hm.at_ hm.fn (wpAny_mono (run_fn F hr hb .nil hx I (.cons ry (.cons rx .nil)) q) (fun w s' z => ?_) fun _ _ x => x)
  obtain ⟨z', H', I', rz, b, rfl, qz⟩ := z
  cases (show w = Value.bool b from rz)
  exact wpAny_of_eq (a := b) (by rfl) ⟨.bl b, H', I', rfl, qz⟩
end
section
variable {K : PySem.W.Frag} {C : Addr} {l : List D → M D} {E : XK} {ρ : List En} {te : TE} {md : M D}
def D.inO (C : Addr) (l : List D → M D) (v x : D) : M D := D.instK C x fun _ _ => (l [x, v]).bind fun z => z.asB.bind fun b => .ret (.bl b)
theorem inO_d : OpD K (rInO C (spM K [.bor, .bor] l) E) (D.inO C l) := fun x y P w B W H v u b sx sy Q q => by
  obtain ⟨ks, ds, rfl, w2⟩ := instK_at w
  obtain ⟨a, dx, fs, rfl, n, h1, r⟩ := id sy
  refine ⟨a, dx, fs, rfl, h1, B, W, [.ins C ks ds, x], _, b, .cons (show Am K B W H _ .bor (.ins C ks ds) from sy) (.cons (show Am K B W H _ .bor x from sx) .nil), wp_bind.mp w2, fun v d H' g s p => ?_⟩
  obtain ⟨k, rfl, p2⟩ := asB_at (wp_bind.mp p)
  cases s
  exact ⟨k, rfl, q _ (.bl _) H' g (.bl _) p2⟩
end
end VB
namespace VB
open PySem PySem.Spec PyProof.Rows L2
end VB
namespace VB
open PySem PySem.Spec PyProof.Rows L2
abbrev lxB : Int × Int → Int × Int → Bool := SrtO.lexB
def insP (z : Int × Int) : List (Int × Int) → List (Int × Int)
  | [] => [z]
  | y :: r => if lxB y z = true then y :: insP z r else z :: y :: r
def sortP (l : List (Int × Int)) : List (Int × Int) := l.foldr insP []
abbrev UpP (l : List (Int × Int)) : Prop := l.Pairwise fun a b => lxB b a = false
theorem insP_perm {z : Int × Int} : ∀ {l : List (Int × Int)}, (insP z l).Perm (z :: l)
  | [] => List.Perm.refl _
  | y :: r => by
    unfold insP
    split
    · exact (List.Perm.cons y insP_perm).trans (List.Perm.swap z y r)
    · exact List.Perm.refl _
theorem sortP_perm : ∀ l : List (Int × Int), (sortP l).Perm l
  | [] => List.Perm.refl _
  | z :: r => insP_perm.trans (List.Perm.cons z (sortP_perm r))
theorem insP_up {z : Int × Int} : ∀ {l : List (Int × Int)}, UpP l → UpP (insP z l)
  | [], _ => by
    unfold insP
    exact List.pairwise_singleton _ _
  | y :: r, h => by
    obtain ⟨h1, h2⟩ := List.pairwise_cons.mp h
    unfold insP
    split
    · rename_i lt
      refine List.pairwise_cons.mpr ⟨fun x m => ?_, insP_up h2⟩
      rcases List.mem_cons.mp (insP_perm.mem_iff.mp m) with e | m
      · rw [e]
        have a := SrtO.lexB_iff.mp lt
        exact SrtO.lexB_no.mpr (by omega)
      · exact h1 x m
    · rename_i nlt
      have nlt := SrtO.lexB_no.mp (Bool.not_eq_true _ ▸ nlt)
      refine List.pairwise_cons.mpr ⟨fun x m => ?_, h⟩
      rcases List.mem_cons.mp m with e | m
      · rw [e]
        exact SrtO.lexB_no.mpr nlt
      · have b := SrtO.lexB_no.mp (h1 x m)
        exact SrtO.lexB_no.mpr (by omega)
theorem sortP_up : ∀ l : List (Int × Int), UpP (sortP l)
  | [] => List.Pairwise.nil
  | z :: r => insP_up (sortP_up r)
theorem upP_unique {l m : List (Int × Int)} (hl : UpP l) (hm : UpP m) (p : l.Perm m) : l = m :=
  p.eq_of_pairwise (le := fun a b => lxB b a = false) (fun a b _ _ h1 h2 => by
    have x := SrtO.lexB_no.mp h1
    have y := SrtO.lexB_no.mp h2
    exact Prod.ext (by omega) (by omega)) hl hm
inductive PrA (K : PySem.W.Frag) (H : Hp) : List V → List (Int × Int) → Prop
  | nil : PrA K H [] []
  | cons {t : Addr} {p : Int × Int} {xs : List V} {ps : List (Int × Int)} : SqT K H t [.int p.1, .int p.2] → PrA K H xs ps → PrA K H (.ref t :: xs) (p :: ps)
theorem PrA.ref {K : PySem.W.Frag} {H : Hp} : ∀ {xs : List V} {ps : List (Int × Int)}, PrA K H xs ps → ∀ x ∈ xs, ∃ t, x = .ref t
  | _, _, .nil, x, m => nomatch m
  | _, _, @PrA.cons _ _ t p xs ps _ r, x, m => (List.mem_cons.mp m).elim (fun e => ⟨t, e⟩) (r.ref x)
theorem PrA.at_ {K : PySem.W.Frag} {H : Hp} : ∀ {xs : List V} {ps : List (Int × Int)}, PrA K H xs ps → ∀ z ∈ xs.zip ps, ∃ t, z.1 = .ref t ∧ SqT K H t [.int z.2.1, .int z.2.2]
  | _, _, .nil, z, m => nomatch m
  | _, _, @PrA.cons _ _ t p xs ps h r, z, m => by
    rcases List.mem_cons.mp (List.zip_cons_cons ▸ m) with e | m
    · rw [e]
      exact ⟨t, rfl, h⟩
    · exact r.at_ z m
theorem PrA.len {K : PySem.W.Frag} {H : Hp} : ∀ {xs : List V} {ps : List (Int × Int)}, PrA K H xs ps → xs.length = ps.length
  | _, _, .nil => rfl
  | _, _, .cons _ r => congrArg (· + 1) r.len
abbrev pD (p : Int × Int) : D := .tup [.int p.1, .int p.2]
end VB
namespace VB
open PySem PySem.Spec PyProof.Rows L2
end VB
namespace VB
open PySem PySem.Spec PyProof.Rows L2
end VB
namespace VB
open PySem PySem.Spec PyProof.Rows L2
/-- each list or tuple under way holds an instance -/
def GH (g : List Code) (H : Hp) (N : Addr → Prop) : Prop := ∀ id v rest kw, Code.builtin id ⟨v :: rest, kw⟩ ∈ g → ∃ a vs x C dx fs, v = .ref a ∧ ((H a = some (.lst vs) ∧ N a) ∨ H a = some (.tup vs)) ∧ V.ref x ∈ vs ∧ H x = some (.ins C dx fs) ∧ N x
theorem GH.gs {g : List Code} {W : List Addr} {H H' : Hp} (h : GH g H fun a => a ∉ W) (k : Gs W H H') : GH g H' fun a => a ∉ W := fun id v rest kw m => by
  obtain ⟨a, vs, x, C, dx, fs, e, h1, h2, h3, h5⟩ := h id v rest kw m
  exact ⟨a, vs, x, C, dx, fs, e, h1.imp (fun z => ⟨k.gw.keep _ _ z.2 z.1, z.2⟩) (k.gw.tups _ _), h2, k.gw.keep _ _ h5 h3, h5⟩
end VB
namespace VB
open PySem PySem.Spec PyProof.Rows L2 Builtin Builtin.List
structure FnQ (P : Program) (w : World) (K : PySem.W.Frag) (mg : Str → Option Value) (base : Heap) (CX : CXT) (k : Nat) (f : Addr) (fd : FuncData) (ps : List Str) (sp : List Code → Sp) : Prop where
  len : ∀ g vs H Q E, sp g vs H Q E → List.length vs = List.length ps
  run : ∀ A outer s H args us vs Q E g, A.guards = some g → Room k A → Env0 P w K mg base A outer s H → BindsTo s fd args (ps.zip us) → Vals vs us → sp g vs H Q E →
      codeAny (model P w) A (.call (.ref f) args) (CR CX outer P w H s Q E) s
section
variable {P : Program} {w : World} {K : PySem.W.Frag} {mg : Str → Option Value} {base : Heap} {CX : CXT} {f : Addr} {fd : FuncData} {ps : List Str} {k : Nat} {sp : List Code → Sp}
theorem okQ {x qual : Str} {pa : Arguments} {body : List Stmt} {sc : Scope} {dvs : List V} {kws : List (Str × V)} {N : List Str} (F : FunD K x qual pa body sc dvs kws f fd) (S : FnScope N ps sc) (len : ∀ g vs H Q E, sp g vs H Q E → List.length vs = List.length ps)
    (hb : ∀ (cdv : Value) (A : Around) (outer : List Env) (s : Shared) (H : Hp) (vs : List V) (Q : VK) (E : XK) (g : List Code), A.guards = some g → Room k (A.deeper (envOfC qual sc s.heap.objs.size f cdv)) → sp g vs H Q E →
      ∃ t, PSs (cxOf CX P w K mg base N qual sc f cdv A outer s H E) body t ∧ t ⟨fun _ H' => Q .non H', Q, fun _ _ => False, fun _ _ => False⟩ (start N vs) H) : FnQ P w K mg base CX (k + 1) f fd ps sp := by
  obtain ⟨oc, od, dV, kV, doc, pm, an, cdv, ct, osl, rfl, lk, hcd, _⟩ := F.ex
  refine ⟨len, fun A outer s H args us vs Q E g hg hr e0 hbi rv hs => ?_⟩
  have inK : K.In s.heap := e0.mod.kin.keeps fun b o e => (e0.bs b o e).1
  have lim : s.heap.NoLimit := e0.mod.nolimit.keeps fun b o e => (e0.bs b o e).1
  refine codeAny_call_function hr.depth (inK _ _ lk) rfl S.co S.gen rfl (PySem.W.codeRec_of inK hcd) (hbi _ _ _ _ ?_)
  refine wpAny_newFunctionEnv_cells S.kind (fun y hy => ?_) fun env he s1 x1 => ?_
  · rcases S.par y.1 (List.of_mem_zip hy).1 with q | q
    · exact Or.inl q
    · exact Or.inr ⟨q, PySem.W.cellsFrom_some _ _ _ (Or.inl q)⟩
  · subst he
    refine ⟨lim.keeps x1.toInCall.keep, codeAny_func ?_⟩
    obtain ⟨t, ht, hq⟩ := hb cdv A outer s H vs Q E g hg (hr.deeper _) hs
    refine wpAny_mono (ht.run [] s1 _ H _ (inv_start S hr.hd e0 (len g vs H Q E hs) rv x1) hq) (fun fl s' hf => ?_) fun _ _ hf => hf
    match fl, hf with
    | .ret u, ⟨v, σ', H', J, r2, q⟩ => exact ⟨v, H', J.os, J.bare, J.base, J.hok, r2, q⟩
    | .next, ⟨σ', H', J, q⟩ => exact ⟨V.non, H', J.os, J.bare, J.base, J.hok, rfl, q⟩
    | .brk, ⟨_, _, _, q⟩ => exact q.elim
    | .cont, ⟨_, _, _, q⟩ => exact q.elim
end
section
variable {K : PySem.W.Frag} {ρ : List En} {g : List Code} {l : List D → M D}
theorem GH.any {H : Hp} {N : Addr → Prop} (h : GH g H N) : GH g H fun _ => True := fun id v rest kw m => by
  obtain ⟨a, vs, x, C, dx, fs, e, h1, h2, h3, _⟩ := h id v rest kw m
  exact ⟨a, vs, x, C, dx, fs, e, h1.imp (fun z => ⟨z.1, trivial⟩) (fun z => z), h2, h3, trivial⟩
end
end VB
namespace VB
open PySem PySem.Spec PyProof.Rows L2 Builtin Builtin.List
end VB
namespace VB
open PySem PySem.Spec PyProof.Rows L2 Builtin Builtin.List
end VB
namespace VB
open PySem PySem.Spec PyProof.Rows L2
end VB
namespace VB
open PySem PySem.Spec PyProof.Rows L2
/-- a dict, of texts and ints or of tuples -/
def IsDc (H : Hp) (d : Addr) : Prop := (∃ kvs : List (Key × V), Rd H d (.dK kvs)) ∨ ∃ kvs : List (List Key × V), Rd H d (.dT kvs)
/-- its rows as values -/
def PsOf (H : Hp) (d : Addr) (ps : List (V × V)) : Prop :=
  (∃ kvs : List (Key × V), Rd H d (.dK kvs) ∧ ps = kvs.map fun kv => (kV kv.1, kv.2)) ∨
  ∃ kvs : List (List Key × V), Rd H d (.dT kvs) ∧ ps.length = kvs.length ∧ ∀ (i : Nat) (k : List Key) (v : V), kvs[i]? = some (k, v) → ∃ q : Addr, ps[i]? = some ((V.ref q, v) : V × V) ∧ H q = some (.tup (k.map kV))
section
variable {X : Cx} {pins : List (Addr × Obj)} {σ : L2.St} {H : Hp} {s : Shared} {d : Addr}
theorem pairs_at {P : Program} {w : World} : ∀ {es : List DictEntry} {vs : List (Key × Value)}, Pairs (mixKind P w) es vs → ∀ {i : Nat} {k : Key} {v : Value}, vs[i]? = some (k, v) → ∃ en, es[i]? = some en ∧ keyIs k en.key = true ∧ en.val = v
  | _, _, .nil, i, k, v, h => by simp at h
  | _, _, @Pairs.cons _ _ _ _ _ e kv es kvs h1 h2 r, 0, k, v, h => by
    simp at h
    subst h
    exact ⟨e, rfl, h1, h2⟩
  | _, _, @Pairs.cons _ _ _ _ _ e kv es kvs h1 h2 r, i + 1, k, v, h => pairs_at r (i := i) (by simpa using h)
theorem pairs_len {P : Program} {w : World} : ∀ {es : List DictEntry} {vs : List (Key × Value)}, Pairs (mixKind P w) es vs → es.length = vs.length
  | _, _, .nil => rfl
  | _, _, .cons _ _ r => congrArg (· + 1) (pairs_len r)
theorem lift_list {α β : Type} (f : Nat → β → Prop) : ∀ (n : Nat), (∀ i, i < n → ∃ b, f i b) → ∃ bs : List β, bs.length = n ∧ ∀ i, i < n → ∃ b, bs[i]? = some b ∧ f i b
  | 0, _ => ⟨[], rfl, fun i h => absurd h (Nat.not_lt_zero i)⟩
  | n + 1, h => by
    obtain ⟨bs, e, hb⟩ := lift_list (α := α) f n fun i hi => h i (Nat.lt_succ_of_lt hi)
    obtain ⟨b, fb⟩ := h n (Nat.lt_succ_self n)
    refine ⟨bs ++ [b], by rw [List.length_append, e]; rfl, fun i hi => ?_⟩
    by_cases z : i < n
    · obtain ⟨c, e1, e2⟩ := hb i z
      exact ⟨c, by rw [List.getElem?_append_left (by omega)]; exact e1, e2⟩
    · have : i = n := by omega
      subst this
      exact ⟨b, by rw [List.getElem?_append_right (by omega), e, Nat.sub_self]; rfl, fb⟩
/-- the rows as they stand -/
theorem ents_of (I : Inv X pins σ H s) (h : IsDc H d) : ∃ (ps : List (V × V)) (es : Array DictEntry) (ep : Nat), PsOf H d ps ∧ (d == sysModules) = false ∧ DT.Raw s.heap d es ep ∧ es.size = ps.length ∧ ps.length ≤ sizeLine ∧
    ∀ (i : Nat) (x y : V), ps[i]? = some (x, y) → ∃ en : DictEntry, es[i]? = some en ∧ RelV x en.key ∧ RelV y en.val := by
  rcases h with ⟨kvs, h⟩ | ⟨kvs, h⟩
  · obtain ⟨hz, hn, vs, kv, o, es, ep, ho, hx, hd, _, hp, _⟩ := dk_rd I.hok h
    have l1 := pairs_len hp
    have l2 : kvs.length = vs.length := Paired.length kv
    rw [Array.length_toList] at l1
    refine ⟨_, es, ep, .inl ⟨kvs, h, rfl⟩, hn, ⟨o, ho, hx, hd⟩, by rw [List.length_map]; omega, by rw [List.length_map]; exact hz, fun i x y e => ?_⟩
    rw [List.getElem?_map] at e
    cases ek : kvs[i]? with
    | none =>
      rw [ek] at e
      cases e
    | some p =>
      rw [ek] at e
      cases e
      obtain ⟨qv, e1, e2, e3⟩ := L2.paired_get kv ek
      obtain ⟨en, f1, f2, f3⟩ := pairs_at hp (i := i) (k := qv.1) (v := qv.2) e1
      refine ⟨en, by rw [← Array.getElem?_toList]; exact f1, ?_, by rw [f3]; exact e3⟩
      rw [show p.1 = qv.1 from e2]
      exact relV_key f2
  · obtain ⟨hz, hn, xs, pr, o, es, ep, ho, hx, hd, he, _⟩ := dt_rd I.hok h
    have l1 : es.size = xs.length := size_of_entries he
    have l2 : kvs.length = xs.length := Paired.length pr
    have at_ : ∀ i, i < kvs.length → ∃ b : V × V, ∃ (k : List Key) (v : V) (q : Addr) (en : DictEntry), kvs[i]? = some (k, v) ∧ b = (V.ref q, v) ∧ H q = some (.tup (k.map kV)) ∧ es[i]? = some en ∧ en.key = .ref q ∧ RelV v en.val := fun i hi => by
      have ek := List.getElem?_eq_getElem hi
      obtain ⟨b, hb, e1, e2, e3⟩ := L2.paired_get pr ek
      have q := entry_at he i
      rw [hb] at q
      exact ⟨_, kvs[i].1, kvs[i].2, b.2.1, _, ek, rfl, e2, q, rfl, e3⟩
    obtain ⟨ps, pl, hp⟩ := lift_list (α := Unit) _ kvs.length at_
    refine ⟨ps, es, ep, .inr ⟨kvs, h, pl, fun i k v e => ?_⟩, hn, ⟨o, ho, hx, hd⟩, by omega, by omega, fun i x y e => ?_⟩
    · obtain ⟨b, e1, k', v', q, en, f1, f2, f3, _⟩ := hp i (List.getElem?_eq_some_iff.mp e).1
      rw [e] at f1
      cases f1
      exact ⟨q, by rw [e1, f2], f3⟩
    · obtain ⟨b, e1, k', v', q, en, f1, f2, f3, f4, f5, f6⟩ := hp i (by
        have := (List.getElem?_eq_some_iff.mp e).1
        omega)
      rw [e] at e1
      cases e1
      cases f2
      exact ⟨en, f4, f5, f6⟩
end
end VB
namespace VB
open PySem PySem.Spec PyProof.Rows L2
def kDD : Key → D
  | .inl i => .int i
  | .inr x => .str x
def tkD (k : List Key) : D := .tup (k.map kDD)
def D.rowsD : D → Option (List (D × D))
  | .dic ks ds => some ((ks.map kDD).zip ds)
  | .dit ks ds => some ((ks.map tkD).zip ds)
  | _ => none
/-- rows of values stand for rows of data -/
def PrD (K : PySem.W.Frag) (B : List Addr) (H : Hp) (ps : List (V × V)) (rs : List (D × D)) : Prop := ps.length = rs.length ∧ ∀ (i : Nat) (x y : V), ps[i]? = some (x, y) → ∃ d e : D, rs[i]? = some (d, e) ∧ Sg K B H x d ∧ Sg K B H y e
section
variable {K : PySem.W.Frag} {B W : List Addr} {H : Hp} {v : V} {d : D}
theorem rd_one {a : Addr} {u u' : HO} (h : Rd H a u) (h' : Rd H a u') (n : ∀ o w, u ≠ .frz o w) (n' : ∀ o w, u' ≠ .frz o w) : u = u' := by
  rcases h with h | ⟨o, h⟩ <;> rcases h' with h' | ⟨o', h'⟩ <;> rw [h] at h' <;> cases h'
  · rfl
  · exact absurd rfl (n _ _)
  · exact absurd rfl (n' _ _)
  · rfl
theorem sg_kD (k : Key) : Sg K B H (kV k) (kDD k) := by
  cases k with
  | inl i => exact .int i
  | inr x => exact .str x
theorem sg_kDs : ∀ k : List Key, SgA K B H (k.map kV) (k.map kDD)
  | [] => .nil
  | x :: k => .cons (sg_kD x) (sg_kDs k)
theorem sr_rows {rs : List (D × D)} (s : Sr K B W H v d) (e : d.rowsD = some rs) : ∃ a, v = .ref a ∧ a ∉ W ∧ IsDc H a ∧ ∀ ps, PsOf H a ps → PrD K B H ps rs := by
  cases d with
  | dic ks ds =>
    cases e
    obtain ⟨a, kvs, rfl, n, h, ek, r⟩ := s
    refine ⟨a, rfl, n, .inl ⟨kvs, h⟩, fun ps hp => ?_⟩
    rcases hp with ⟨kvs', h', e'⟩ | ⟨kvs', h', _⟩
    · have z := rd_one h h' (fun _ _ z => nomatch z) (fun _ _ z => nomatch z)
      cases z
      subst e'
      subst ek
      have l := r.length
      rw [List.length_map] at l
      refine ⟨?_, fun i x y q => ?_⟩
      · simp only [List.length_map, List.length_zip]
        omega
      · rw [List.getElem?_map] at q
        cases ei : kvs[i]? with
        | none =>
          rw [ei] at q
          cases q
        | some p =>
          rw [ei] at q
          cases q
          obtain ⟨d, e1, e2⟩ := r.getV (i := i) (v := p.2) (by rw [List.getElem?_map, ei]; rfl)
          refine ⟨kDD p.1, d, ?_, sg_kD _, e2⟩
          rw [List.getElem?_zip_eq_some]
          exact ⟨by simp [ei], e1⟩
    · have z := rd_one h h' (fun _ _ z => nomatch z) (fun _ _ z => nomatch z)
      cases z
  | dit ks ds =>
    cases e
    obtain ⟨a, kvs, rfl, n, h, ek, r⟩ := s
    refine ⟨a, rfl, n, .inr ⟨kvs, h⟩, fun ps hp => ?_⟩
    rcases hp with ⟨kvs', h', e'⟩ | ⟨kvs', h', l', e'⟩
    · have z := rd_one h h' (fun _ _ z => nomatch z) (fun _ _ z => nomatch z)
      cases z
    · have z := rd_one h h' (fun _ _ z => nomatch z) (fun _ _ z => nomatch z)
      cases z
      subst ek
      have l := r.length
      rw [List.length_map] at l
      refine ⟨?_, fun i x y q => ?_⟩
      · simp only [List.length_map, List.length_zip]
        omega
      · have hi : i < kvs.length := by
          have := (List.getElem?_eq_some_iff.mp q).1
          omega
        have ei := List.getElem?_eq_getElem hi
        obtain ⟨b, f1, f2⟩ := e' i kvs[i].1 kvs[i].2 ei
        rw [q] at f1
        cases f1
        obtain ⟨d, e1, e2⟩ := r.getV (i := i) (v := kvs[i].2) (by rw [List.getElem?_map, ei]; rfl)
        refine ⟨tkD kvs[i].1, d, ?_, .tup trivial f2 (sg_kDs _), e2⟩
        rw [List.getElem?_zip_eq_some]
        exact ⟨by simp [ei], e1⟩
  | _ => cases e
theorem IsDc.ty {X : Cx} {pins : List (Addr × Obj)} {σ : L2.St} {s : Shared} {a : Addr} (I : Inv X pins σ H s) (h : IsDc H a) : s.TypeIs (.ref a) "dict" ∧ ∀ c, Value.ref a = .ref c → ∃ ob, s.heap.get? c = some ob ∧ ob.dict = none := by
  obtain ⟨ps, es, ep, _, _, ⟨o, e, x, _⟩, _⟩ := ents_of I h
  refine ⟨⟨o, e, x.1⟩, fun c z => ?_⟩
  cases z
  exact ⟨o, e, x.2.1⟩
theorem PsOf.kp {H' : Hp} {a : Addr} {ps : List (V × V)} (k : ∀ b o, H b = some o → H' b = some o) (h : PsOf H a ps) : PsOf H' a ps := by
  rcases h with ⟨kvs, h, e⟩ | ⟨kvs, h, l, e⟩
  · exact .inl ⟨kvs, rd_map h (k _), e⟩
  · refine .inr ⟨kvs, rd_map h (k _), l, fun i x y q => ?_⟩
    obtain ⟨b, e1, e2⟩ := e i x y q
    exact ⟨b, e1, k _ _ e2⟩
theorem Gs.kp {H' : Hp} (k : ∀ b o, H b = some o → H' b = some o) : Gs W H H' := by
  refine ⟨⟨fun a o _ e => k a o e, fun a e => ?_, fun a xs e => k a _ e⟩, fun b _ c ns _ h => ?_⟩
  · cases h : H a with
    | none => rfl
    | some o =>
      rw [k a o h] at e
      cases e
  · obtain ⟨⟨z, s, i, e, v⟩, e2, h2⟩ := h
    exact ⟨⟨z, s, i, k _ _ e, v⟩, k _ _ e2, h2⟩
end
mutual
theorem reads_low {h : Heap} : ∀ (d : PyData) (v : Value) (as : List Addr), d.hasDict = false → Reads h v d as → ∀ a ∈ as, a < h.objs.size
  | .none, _, _, _, r, a, m => by cases r; cases m
  | .bool _, _, _, _, r, a, m => by cases r; cases m
  | .int _, _, _, _, r, a, m => by cases r; cases m
  | .str _, _, _, _, r, a, m => by cases r; cases m
  | .list xs, _, _, hd, r, a, m => by
    cases r with
    | list h1 h2 h3 h4 =>
      rcases List.mem_cons.mp m with rfl | m
      · exact Heap.lt_size h1
      · exact readsAll_low xs _ _ (by simpa [PyData.hasDict] using hd) h4 a m
  | .tuple xs, _, _, hd, r, a, m => by
    cases r with
    | tuple h1 h2 h3 h4 => exact readsAll_low xs _ _ (by simpa [PyData.hasDict] using hd) h4 a m
  | .dict _, _, _, hd, _, _, _ => by simp [PyData.hasDict] at hd
theorem readsAll_low {h : Heap} : ∀ (ds : List PyData) (vs : List Value) (as : List Addr), PyData.hasDictAll ds = false → ReadsAll h vs ds as → ∀ a ∈ as, a < h.objs.size
  | [], _, _, _, r, a, m => by cases r; cases m
  | d :: ds, _, _, hd, r, a, m => by
    cases r with
    | cons h1 h2 =>
      simp only [PyData.hasDictAll, Bool.or_eq_false_iff] at hd
      rcases List.mem_append.mp m with m | m
      · exact reads_low d _ _ hd.1 h1 a m
      · exact readsAll_low ds _ _ hd.2 h2 a m
end
mutual
theorem alike_noDict : ∀ d : PyData, PySem.W.alike d d = true → d.hasDict = false
  | .none, _ => rfl
  | .bool _, _ => rfl
  | .int _, _ => rfl
  | .str _, _ => rfl
  | .list xs, h => by
    have z := alikeAll_noDict xs (by simpa [PySem.W.alike] using h)
    simpa [PyData.hasDict] using z
  | .tuple xs, h => by
    have z := alikeAll_noDict xs (by simpa [PySem.W.alike] using h)
    simpa [PyData.hasDict] using z
  | .dict _, h => by simp [PySem.W.alike] at h
theorem alikeAll_noDict : ∀ ds : List PyData, PySem.W.alikeAll ds ds = true → PyData.hasDictAll ds = false
  | [], _ => rfl
  | d :: ds, h => by
    simp only [PySem.W.alikeAll, Bool.and_eq_true] at h
    simp [PyData.hasDictAll, alike_noDict d h.1, alikeAll_noDict ds h.2]
end
section
variable {X : Cx}
theorem each_of_ix {α β : Type} {R : α → β → Prop} : ∀ {as : List α} {bs : List β}, as.length = bs.length → (∀ (i : Nat) (a : α) (b : β), as[i]? = some a → bs[i]? = some b → R a b) → PySem.W.EachIs R as bs
  | [], [], _, _ => .nil
  | [], _ :: _, h, _ => nomatch h
  | _ :: _, [], h, _ => nomatch h
  | a :: as, b :: bs, h, k => .cons (k 0 a b rfl rfl) (each_of_ix (Nat.succ.inj h) fun i x y e1 e2 => k (i + 1) x y (by simpa using e1) (by simpa using e2))
end
def pairD (r : D × D) : D := .tup [r.1, r.2]
/-- data that can be sorted -/
def okSort (ds : List D) : Bool := ds.all fun d => d.pu && decide (d.py.depth ≤ 30) && ds.all fun e => PySem.W.alike d.py e.py
def sortD (ds : List D) : List D := ds.mergeSort (PySem.W.dataLe false D.py)
section
variable {K : PySem.W.Frag} {ρ : List En} {te : TE} {m : M D}
theorem sga_map {α : Type} {B : List Addr} {H : Hp} {f : α → V} {g : α → D} : ∀ l : List α, (∀ z ∈ l, Sg K B H (f z) (g z)) → SgA K B H (l.map f) (l.map g)
  | [], _ => .nil
  | z :: l, h => .cons (h z (List.mem_cons_self ..)) (sga_map l fun y m => h y (List.mem_cons_of_mem _ m))
end
end VB
namespace VB
open PySem PySem.Spec PyProof.Rows L2
def D.keyK : D → Option Key
  | .int i => some (.inl i)
  | .str x => some (.inr x)
  | _ => none
def keysK : List D → Option (List Key)
  | [] => some []
  | d :: ds => match d.keyK, keysK ds with
    | some k, some ks => some (k :: ks)
    | _, _ => none
def D.keyT : D → Option (List Key)
  | .tup ds => keysK ds
  | _ => none
section
variable {K : PySem.W.Frag} {B W : List Addr} {H : Hp}
theorem sg_keyK {v : V} {d : D} {k : Key} (s : Sg K B H v d) (e : d.keyK = some k) : v = kV k := by
  cases s <;> cases e <;> rfl
theorem sg_keysK : ∀ {xs : List V} {ds : List D} {k : List Key}, SgA K B H xs ds → keysK ds = some k → xs = k.map kV
  | _, _, _, .nil, e => by cases e; rfl
  | _, d :: ds, k, .cons h r, e => by
    have e : (match d.keyK, keysK ds with | some k, some ks => some (k :: ks) | _, _ => none) = some k := e
    cases e1 : d.keyK with
    | none =>
      rw [e1] at e
      cases e
    | some j =>
      cases e2 : keysK ds with
      | none =>
        rw [e1, e2] at e
        cases e
      | some js =>
        rw [e1, e2] at e
        cases e
        rw [sg_keyK h e1, sg_keysK r e2]
        rfl
theorem sr_keyK {v : V} {d : D} {k : Key} (s : Sr K B W H v d) (e : d.keyK = some k) : v = kV k := by
  cases d with
  | int i => exact sg_keyK (show Sg K B H v (.int i) from s) e
  | str x => exact sg_keyK (show Sg K B H v (.str x) from s) e
  | _ => cases e
theorem sr_keyT {v : V} {d : D} {k : List Key} (s : Sr K B W H v d) (e : d.keyT = some k) : ∃ b, v = .ref b ∧ H b = some (.tup (k.map kV)) := by
  cases d with
  | tup ds =>
    cases (show Sg K B H v (.tup ds) from s) with
    | @tup a xs _ _ h r =>
      rw [sg_keysK r e] at h
      exact ⟨a, rfl, h⟩
  | _ => cases e
def lookD {κ : Type} [DecidableEq κ] : List κ → List D → κ → Option D
  | k :: ks, d :: ds, j => if k = j then some d else lookD ks ds j
  | _, _, _ => none
def RelD (K : PySem.W.Frag) (B : List Addr) (H : Hp) : Option V → Option D → Prop
  | some z, some e => Sg K B H z e
  | none, none => True
  | _, _ => False
theorem val_look {κ : Type} [DecidableEq κ] : ∀ {kvs : List (κ × V)} {ds : List D}, SgA K B H (kvs.map (·.2)) ds → ∀ k : κ, RelD K B H (valV kvs k) (lookD (kvs.map (·.1)) ds k)
  | [], _, .nil, k => trivial
  | p :: kvs, d :: ds, .cons h r, k => by
    show RelD K B H (valV (p :: kvs) k) (if p.1 = k then some d else lookD (kvs.map (·.1)) ds k)
    by_cases e : p.1 = k
    · rw [valV_pos e, if_pos e]
      exact h
    · rw [valV_neg e, if_neg e]
      exact val_look r k
/-- what the dict x holds at y -/
def D.dlook (x y : D) : Option (Option D) := match x with
  | .dic ks ds => y.keyK.map fun k => lookD ks ds k
  | .dit ks ds => y.keyT.map fun k => lookD ks ds k
  | _ => none
theorem dget_of {v u : V} {x y : D} {o : Option D} (s : Sr K B W H v x) (t : Sr K B W H u y) (e : x.dlook y = some o) : ∃ a r, v = .ref a ∧ L2.IsD H a ∧ DGet H a u r ∧ RelD K B H r o := by
  cases x with
  | dic ks ds =>
    obtain ⟨k, e1, rfl⟩ := Option.map_eq_some_iff.mp e
    obtain ⟨a, kvs, rfl, _, h, rfl, r⟩ := s
    exact ⟨a, _, rfl, .inl ⟨kvs, h⟩, .inl ⟨kvs, k, h, sr_keyK t e1, rfl⟩, val_look r k⟩
  | dit ks ds =>
    obtain ⟨k, e1, rfl⟩ := Option.map_eq_some_iff.mp e
    obtain ⟨a, kvs, rfl, _, h, rfl, r⟩ := s
    obtain ⟨b, rfl, eb⟩ := sr_keyT t e1
    exact ⟨a, _, rfl, .inr ⟨kvs, h⟩, .inr ⟨kvs, k, b, h, rfl, eb, rfl⟩, val_look r k⟩
  | _ => cases e
end
def rDIx : R2 := fun x y H Q => ∃ a v, x = .ref a ∧ DGet H a y (some v) ∧ Q v H
section
variable {X : Cx} {K : PySem.W.Frag}
theorem ix_dc (hu : X.A.units + 65 < cLine) : IxR X rDIx := by
  intro value slice pins s σ H x y v u Q I rx ry h hs
  obtain ⟨a, z, rfl, g, q⟩ := h
  cases (show v = Value.ref a from rx)
  have ty := dict_typeIs I g
  unfold subscriptTail
  refine wpAny_bind ?_
  rw [getitemInPython_of_ne ty.not_modules]
  have go : wpAny (model X.prog X.w) X.A (subscripted slice false (.ref a) u) (fun r s3 => wpAny (model X.prog X.w) X.A (letTemporaryGo value (.ref a) r >>= fun _ => pure r) (EP X pins σ Q) X.xe s3) X.xe s := by
    rw [hs]
    refine wpAny_operating (d_getItem (by omega) I g ry fun w' s' I' r' => ?_)
    refine wpAny_bind (wpAny_letTemporaryGo ?_)
    exact wpAny_pure ⟨z, H, I', r', q⟩
  refine wpAny_bind (wpAny_specialOf ty PySem.F.slot_dict_getitem.lookup ?_)
  first | exact wpAny_pure (wpAny_bind go) | exact wpAny_bind (wpAny_pure (wpAny_bind go)) | exact wpAny_bind go
abbrev rIxA (K : PySem.W.Frag) : R2 := rOr (rIx K) rDIx
theorem ixA (h : X.K = K) (hu : X.A.units + 65 < cLine) : IxR X (rIxA K) := ixr_or (ixX h) (ix_dc hu)
def M.ofOO {α : Type} (o : Option (Option D)) (k : Option D → M α) : M α := match o with
  | some o => k o
  | none => .fail
theorem ofOO_at {α : Type} {o : Option (Option D)} {k : Option D → M α} {P : α → Prop} (w : wp (M.ofOO o k) P) : ∃ o', o = some o' ∧ wp (k o') P := by
  cases o with
  | none => exact w.elim
  | some o => exact ⟨o, rfl, w⟩
def D.isDc : D → Bool
  | .dic _ _ => true
  | .dit _ _ => true
  | _ => false
def D.ixA (x y : D) : M D := if x.isDc = true then M.ofOO (x.dlook y) M.ofD else D.ix x y
theorem ixA_d : OpD K (rIxA K) D.ixA := by
  intro x y P w B W H v u b sv su Q q
  unfold D.ixA at w
  by_cases h : x.isDc = true
  · rw [if_pos h] at w
    obtain ⟨o, e, w⟩ := ofOO_at w
    obtain ⟨d, rfl, w⟩ := ofD_at w
    obtain ⟨a, r, rfl, _, g, hr⟩ := dget_of sv su e
    cases r with
    | none => exact hr.elim
    | some z => exact .inr ⟨a, z, rfl, g, q _ _ H Gs.refl hr w⟩
  · rw [if_neg h] at w
    exact .inl (ix_d x y P w B W H v u b sv su Q q)
/-- d.get(k, x) -/
def D.get2 (x y z : D) : M D := M.ofOO (x.dlook y) fun o => .ret (o.getD z)
theorem kGet2 {o e f : Expr} {apos cpos : Pos} {td ty tx : TE} (hu : X.A.units + 65 < cLine) (ho : PE X o td) (he : PE X e ty) (hf : PE X f tx) (m : M2 X o "get" apos e f cpos) : PE X (.Call (.Attribute o "get" apos) [e, f] [] cpos) (tDGet2 td ty tx) := pe_dget2 (by omega) ho he hf m
theorem RE.get2 {ρ : List En} {td ty tx : TE} {md my mx : M D} (hd : RR K td ρ md) (hy : RR K ty ρ my) (hx : RE K tx ρ mx) : RE K (tDGet2 td ty tx) ρ (md.bind fun x => my.bind fun y => mx.bind fun z => D.get2 x y z) := fun P w B W H σ e Q q =>
  hd _ (wp_bind.mp w) B W H σ e _ fun v x H1 g1 s1 w1 => by
    have nd : ∃ o y', x.dlook y' = some o := wp_use (wp_bind.mp w1) fun y w2 => wp_use (wp_bind.mp w2) fun z w3 => by
      obtain ⟨o, e, _⟩ := ofOO_at w3
      exact ⟨o, y, e⟩
    have isd : ∀ {H' : Hp}, Sr K B W H' v x → ∃ a, v = .ref a ∧ L2.IsD H' a := fun s => by
      obtain ⟨o, y', e⟩ := nd
      cases x with
      | dic ks ds =>
        obtain ⟨a, kvs, rfl, _, h, _⟩ := s
        exact ⟨a, rfl, .inl ⟨kvs, h⟩⟩
      | dit ks ds =>
        obtain ⟨a, kvs, rfl, _, h, _⟩ := s
        exact ⟨a, rfl, .inr ⟨kvs, h⟩⟩
      | _ => cases e
    obtain ⟨a, rfl, hisd⟩ := isd s1
    have e1 := e.gs g1
    refine ⟨a, rfl, hisd, hy _ (wp_bind.mp w1) B W H1 σ e1 _ fun u y H2 g2 s2 w2 => hx _ (wp_bind.mp w2) B W H2 σ (e1.gs g2) _ fun z dz H3 g3 s3 w3 => ?_⟩
    obtain ⟨o, eo, w4⟩ := ofOO_at w3
    have bw := (e1.gs g2).bw
    obtain ⟨a', r, ea, _, g, hr⟩ := dget_of ((s1.gs e.bw.sub g2).gs bw.sub g3) (s2.gs bw.sub g3) eo
    cases ea
    refine ⟨r, g, q _ _ H3 ((g1.trans g2).trans g3) ?_ w4⟩
    cases r with
    | none =>
      cases o with
      | none => exact s3
      | some _ => exact hr.elim
    | some r =>
      cases o with
      | none => exact hr.elim
      | some o => exact hr
end
section
variable {X : Cx} {K : PySem.W.Frag}
def rLenDc : List V → Hp → VK → Prop := fun xs H Q => ∃ (a : Addr) (n : Nat), xs = [.ref a] ∧ ((∃ kvs, Rd H a (.dK kvs) ∧ n = kvs.length) ∨ ∃ kvs, Rd H a (.dT kvs) ∧ n = kvs.length) ∧ Q (.int n) H
theorem call_lenDc : CallR X (.builtin "len") rLenDc := by
  intro pins s σ H xs us Q I r h
  obtain ⟨a, n, rfl, hk, q⟩ := h
  obtain ⟨u, rfl, ru⟩ := r.one
  cases ru
  rcases hk with ⟨kvs, hk, rfl⟩ | ⟨kvs, hk, rfl⟩
  · refine d_len I hk fun t s' I' => ?_
    exact ⟨.int kvs.length, H, I', ⟨_, rfl⟩, q⟩
  · obtain ⟨z, hd, ys, rel, dd⟩ := dt_rd I.hok hk
    have hl : kvs.length = ys.length := Paired.length rel
    rw [sizeLine_eq] at z
    refine call_len_dictH hd dd (by omega) ?_
    rw [← hl]
    exact ⟨.int kvs.length, H, I.tok _, ⟨_, rfl⟩, q⟩
def D.lenA (x : D) : M D := match x with
  | .dic ks _ => .ret (.int ks.length)
  | .dit ks _ => .ret (.int ks.length)
  | .etup => .ret (.int 0)
  | d => d.len
abbrev rLenA (K : PySem.W.Frag) := rOrC (rLenK K) rLenDc
theorem kLenA (h : X.K = K) : CallR X (.builtin "len") (rLenA K) := cr_or (kLen h) call_lenDc
theorem lenA_c : CaD K (rLenA K) (M.one D.lenA) := by
  intro ds P w B W H vs b s Q q
  match ds, w with
  | [x], w =>
    cases x with
    | dic ks ds =>
      cases s with
      | cons s1 s2 =>
        cases s2
        obtain ⟨a, kvs, rfl, _, h, rfl, r⟩ := s1
        exact .inr ⟨a, _, rfl, .inl ⟨kvs, h, (List.length_map _)⟩, q _ _ H Gs.refl (.int _) w⟩
    | dit ks ds =>
      cases s with
      | cons s1 s2 =>
        cases s2
        obtain ⟨a, kvs, rfl, _, h, rfl, r⟩ := s1
        exact .inr ⟨a, _, rfl, .inr ⟨kvs, h, (List.length_map _)⟩, q _ _ H Gs.refl (.int _) w⟩
    | etup =>
      cases s with
      | cons s1 s2 =>
        cases s2
        cases (show Sg K B H _ .etup from s1) with
        | etup hz => exact .inl ⟨_, _, rfl, Or.inr ⟨_, hz H, rfl⟩, q _ _ H Gs.refl (.int 0) w⟩
    | _ =>
      refine .inl (len_c _ P ?_ B W H vs b s Q q)
      exact w
/-- the keys in their order -/
def rListDc : List V → Hp → VK → Prop := fun xs H Q => ∃ a, xs = [V.ref a] ∧ ((∃ kvs : List (Key × V), Rd H a (.dK kvs) ∧ ∀ p, H p = none → Q (.ref p) (upd H p (.lst (kvs.map fun kv => kV kv.1)))) ∨
  ∃ kvs : List (List Key × V), Rd H a (.dT kvs) ∧ ∀ p bs, H p = none → IsKeys H kvs bs → Q (.ref p) (upd H p (.lst (bs.map V.ref))))
theorem call_listDc (hc : X.calm = true) : CallR X (.type "list") rListDc := by
  intro pins s σ H xs us Q I r h
  obtain ⟨a, rfl, h⟩ := h
  rcases h with ⟨kvs, hk, q⟩ | ⟨kvs, hk, q⟩
  · exact call_listD hc pins s σ H _ us Q I r ⟨a, kvs, rfl, hk, q⟩
  · exact call_list_dT hc pins s σ H _ us Q I r ⟨a, kvs, rfl, hk, q⟩
def D.toLstA (x : D) : M D := match x with
  | .dic ks _ => .ret (.lst (ks.map kDD))
  | .dit ks _ => .ret (.lst (ks.map tkD))
  | d => d.toLst
abbrev rLstA (K : PySem.W.Frag) := rOrC (rLstK K) rListDc
theorem kLstA (h : X.K = K) (hc : X.calm = true) : CallR X (.type "list") (rLstA K) := cr_or (kLst h) (call_listDc hc)
theorem sga_tks {B : List Addr} {H : Hp} : ∀ {kvs : List (List Key × V)} {bs : List Addr}, IsKeys H kvs bs → SgA K B H (bs.map V.ref) ((kvs.map (·.1)).map tkD) := fun {kvs bs} h => by
  unfold IsKeys at h
  induction h with
  | nil => exact .nil
  | cons h t ih => exact .cons (.tup trivial h (sg_kDs _)) ih
theorem lstA_c : CaN K (rLstA K) (M.one D.toLstA) := by
  intro ds P w B W H vs b s Q q
  match ds, w with
  | [x], w =>
    cases x with
    | dic ks ds =>
      cases s with
      | cons s1 s2 =>
        cases s2
        obtain ⟨a, kvs, rfl, _, h, rfl, r⟩ := s1
        have w1 : P (.lst ((kvs.map (·.1)).map kDD)) := w
        refine .inr ⟨a, rfl, .inl ⟨kvs, h, fun p np => q p (.lst ((kvs.map (·.1)).map kDD)) _ (Gs.new np) np ⟨_, upd_same, ?_⟩ w1⟩⟩
        have z : SgA K B H ((kvs.map (·.1)).map kV) ((kvs.map (·.1)).map kDD) := sg_kDs _
        rw [List.map_map] at z
        exact z.out np
    | dit ks ds =>
      cases s with
      | cons s1 s2 =>
        cases s2
        obtain ⟨a, kvs, rfl, _, h, rfl, r⟩ := s1
        have w1 : P (.lst ((kvs.map (·.1)).map tkD)) := w
        exact .inr ⟨a, rfl, .inr ⟨kvs, h, fun p bs np ik => q p (.lst ((kvs.map (·.1)).map tkD)) _ (Gs.new np) np ⟨_, upd_same, (sga_tks ik).out np⟩ w1⟩⟩
    | _ =>
      refine .inl (lst_c _ P ?_ B W H vs b s Q q)
      exact w
end
def putKs {κ : Type} [DecidableEq κ] (ks : List κ) (k : κ) : List κ := if k ∈ ks then ks else ks ++ [k]
def putDs {κ : Type} [DecidableEq κ] (ks : List κ) (ds : List D) (k : κ) (x : D) : List D := if k ∈ ks then ks.zipWith (fun j d => if j = k then x else d) ds else ds ++ [x]
section
variable {K : PySem.W.Frag} {B : List Addr} {H : Hp}
theorem put_keys {κ : Type} [DecidableEq κ] (kvs : List (κ × V)) (k : κ) (v : V) : (putK kvs k v).map (·.1) = putKs (kvs.map (·.1)) k := by
  unfold putK putKs
  have e : ((kvs.any fun kv => decide (kv.1 = k)) = true) ↔ k ∈ kvs.map (·.1) := by
    rw [List.any_eq_true]
    simp only [decide_eq_true_eq, List.mem_map]
  by_cases h : k ∈ kvs.map (·.1)
  · rw [if_pos (e.mpr h), if_pos h, List.map_map]
    refine List.map_congr_left fun p _ => ?_
    by_cases z : p.1 = k <;> simp [z]
  · rw [if_neg (fun z => h (e.mp z)), if_neg h, List.map_append]
    rfl
theorem put_vals {κ : Type} [DecidableEq κ] {kvs : List (κ × V)} {ds : List D} {k : κ} {v : V} {x : D} (r : SgA K B H (kvs.map (·.2)) ds) (s : Sg K B H v x) : SgA K B H ((putK kvs k v).map (·.2)) (putDs (kvs.map (·.1)) ds k x) := by
  unfold putK putDs
  have e : ((kvs.any fun kv => decide (kv.1 = k)) = true) ↔ k ∈ kvs.map (·.1) := by
    rw [List.any_eq_true]
    simp only [decide_eq_true_eq, List.mem_map]
  by_cases h : k ∈ kvs.map (·.1)
  · rw [if_pos (e.mpr h), if_pos h]
    clear h e
    induction kvs generalizing ds with
    | nil =>
      cases r
      exact .nil
    | cons p kvs ih =>
      cases r with
      | cons h r =>
        refine .cons ?_ (ih r)
        by_cases z : p.1 = k
        · simp only [z, if_true]
          exact s
        · simp only [z, if_false]
          exact h
  · rw [if_neg (fun z => h (e.mp z)), if_neg h, List.map_append]
    exact r.append (.cons s .nil)
end
/-- a list's item or a dict's value set -/
def rSetA : TSet := fun o i v H Q => rSetL o i v H Q ∨ rSetD o i v H Q
def D.setA {α : Type} (d y x : D) (k : D → M α) : M α := match d with
  | .lst ds => y.asI.bind fun n => match ixN ds.length n with
    | some j => k (.lst (ds.set j x))
    | none => .fail
  | .dic ks ds => match y.keyK with
    | some j => if ks.length < 16777216 then k (.dic (putKs ks j) (putDs ks ds j x)) else .fail
    | none => .fail
  | .dit ks ds => match y.keyT with
    | some j => if ks.length < 16777216 then k (.dit (putKs ks j) (putDs ks ds j x)) else .fail
    | none => .fail
  | _ => .fail
section
variable {K : PySem.W.Frag} {R : Po → Prop} {u : TS} {ρ : List En} {α : Type} {C : Po → α → Prop} {te tk : TE} {md mk : M D} {i : Nat} {tg : Option Addr} {d : D}
theorem own_goA {F B W : List Addr} {H H1 : Hp} {σ : L2.St} {a : Addr} {o' : HO} {d d' : D} {M : List En → Prop} {Q : L2.St → Hp → Prop} (e : EnvOk K B W H σ ρ) (f : Fr F B W σ ρ) (g : Gs W H H1) (hi : ρ[i]? = some (.own ⟨tg, d⟩)) (hv : σ[i]? = some (some (.ref a)))
    (r : OwAt K B (upd H1 a o') a d') (q : Cn K F W H σ ρ M Q) (p : M (ρ.set i (.own ⟨tg, d'⟩))) : Q σ (upd H1 a o') := by
  have e1 := e.gs g
  obtain ⟨aB, aW, aK⟩ := e1.ownB ⟨i, _, hi, hv⟩
  have aT : NoT H1 a := by
    obtain ⟨b, eb, _, _, _, ow⟩ := e1.sl i _ hi
    rw [hv] at eb
    cases eb
    exact ow.nt
  have e2 := e1.upO (d' := d') (u := o') hi hv r
  have os : ∀ x, Own σ (ρ.set i (.own ⟨tg, d'⟩)) x → Own σ ρ x := fun x ⟨j, dj, h1, h2⟩ => by
    by_cases z : i = j
    · subst z
      exact ⟨i, _, hi, h2⟩
    · rw [List.getElem?_set_ne z] at h1
      exact ⟨j, dj, h1, h2⟩
  obtain ⟨B2, e3, f3⟩ := e2.fix (F := F) f.fb (fun x m o => f.no x m (os x o)) f.wf
  have gw : Gw [a] H1 (upd H1 a o') := Gw.wr (List.mem_singleton_self a) aT
  refine q _ _ _ B2 ⟨fun x o nw nu ex => ?_, fun x z => g.gw.free x (gw.free x z), fun b m c ns nc nu hb => ?_, fun x o => .inl (os x o), fun x ys ex => gw.tups x ys (g.gw.tups x ys ex)⟩ e3 f3 p
  · refine gw.keep x o (fun z => nu ?_) (g.gw.keep x o nw ex)
    rw [List.mem_singleton.mp z]
    exact ⟨i, _, hi, hv⟩
  · refine (g.bag b m c ns nc hb).wr (fun z => aW (z ▸ m)) fun z => nu ?_
    rw [z]
    exact ⟨i, _, hi, hv⟩
theorem G.setA {kk : D → M α} (hi : ρ[i]? = some (.own ⟨tg, d⟩)) (he : RE K te ρ md) (hk : RE K tk ρ mk) (h : ∀ d', G K R u (ρ.set i (.own ⟨tg, d'⟩)) (kk d') C) :
    G K R (tSeq (tAsg te (gSub (tVar i) tk rSetA)) u) ρ (md.bind fun x => mk.bind fun y => D.setA d y x kk) C := fun P r w => ST.seq fun F B W H σ e f E q1 q2 q3 q4 =>
  he _ (wp_bind.mp w) B W H σ e _ fun v x H1 g1 s1 w1 => by
    obtain ⟨a, ea, aB, aW, _, _⟩ := e.sl i _ hi
    refine ⟨_, ea, hk _ (wp_bind.mp w1) B W H1 σ (e.gs g1) _ fun y yd H2 g2 s2 w2 => ?_⟩
    have g12 := g1.trans g2
    obtain ⟨a', ea', _, _, _, ow⟩ := (e.gs g12).sl i _ hi
    rw [ea] at ea'
    cases ea'
    have s1' := s1.gw ((e.gs g1).bw.gw g2)
    have aT : NoT H2 a := ow.nt
    cases d with
    | lst ds =>
      obtain ⟨xs, hx, r'⟩ := ow
      obtain ⟨n, rfl, w3⟩ := asI_at (wp_bind.mp (show wp (yd.asI.bind fun n => match ixN ds.length n with | some j => kk (.lst (ds.set j x)) | none => .fail) (C P) from w2))
      have w3 : wp (match ixN ds.length n with | some j => kk (.lst (ds.set j x)) | none => .fail) (C P) := w3
      cases s2
      cases ej : ixN ds.length n with
      | none =>
        rw [ej] at w3
        exact w3.elim
      | some j =>
        rw [ej] at w3
        exact .inl ⟨a, xs, n, j, rfl, rfl, hx, by rw [r'.length]; exact ej, own_goA (d' := .lst (ds.set j x)) e f g12 hi ea ⟨_, upd_same, (SgA.setAt s1' j r').gw (Gw.wr aB aT)⟩ q1 (h _ P r w3)⟩
    | dic ks ds =>
      obtain ⟨kvs, hx, rfl, r'⟩ := ow
      have w3 : wp (match yd.keyK with | some j => if (kvs.map (·.1)).length < 16777216 then kk (.dic (putKs (kvs.map (·.1)) j) (putDs (kvs.map (·.1)) ds j x)) else .fail | none => .fail) (C P) := w2
      cases ej : yd.keyK with
      | none =>
        rw [ej] at w3
        exact w3.elim
      | some j =>
        rw [ej] at w3
        obtain ⟨hz, w4⟩ := wp_ite w3
        rw [List.length_map] at hz
        refine .inr ⟨a, _, rfl, .inl ⟨kvs, j, hx, sg_keyK s2 ej, by rw [sizeLine_eq]; exact hz, rfl⟩, own_goA (d' := .dic _ _) e f g12 hi ea ⟨_, upd_same, put_keys _ _ _, (put_vals r' s1').gw (Gw.wr aB aT)⟩ q1 (h _ P r w4)⟩
    | dit ks ds =>
      obtain ⟨kvs, hx, rfl, r'⟩ := ow
      have w3 : wp (match yd.keyT with | some j => if (kvs.map (·.1)).length < 16777216 then kk (.dit (putKs (kvs.map (·.1)) j) (putDs (kvs.map (·.1)) ds j x)) else .fail | none => .fail) (C P) := w2
      cases ej : yd.keyT with
      | none =>
        rw [ej] at w3
        exact w3.elim
      | some j =>
        rw [ej] at w3
        obtain ⟨hz, w4⟩ := wp_ite w3
        rw [List.length_map] at hz
        obtain ⟨b, rfl, eb⟩ := sr_keyT (s2.sr (W := W) (e.gs g12).bw.sub) ej
        refine .inr ⟨a, _, rfl, .inr ⟨kvs, j, b, hx, rfl, eb, by rw [sizeLine_eq]; exact hz, rfl⟩, own_goA (d' := .dit _ _) e f g12 hi ea ⟨_, upd_same, put_keys _ _ _, (put_vals r' s1').gw (Gw.wr aB aT)⟩ q1 (h _ P r w4)⟩
    | _ => exact w2.elim
end
end VB
namespace VB
open PySem PySem.Spec PyProof.Rows L2
def DcO (u : HO) : Prop := (∃ kvs : List (Key × V), u = .dK kvs) ∨ ∃ kvs : List (List Key × V), u = .dT kvs
theorem DcO.nf {u : HO} (h : DcO u) : ∀ o w, u ≠ .frz o w := fun o w z => by
  rcases h with ⟨_, rfl⟩ | ⟨_, rfl⟩ <;> cases z
theorem DcO.mut {u : HO} (h : DcO u) : Mut (some u) := by
  rcases h with ⟨_, rfl⟩ | ⟨_, rfl⟩ <;> exact True.intro
/-- any dict -/
def DcA (u : HO) : Prop := DcO u ∨ ∃ (w : World) (a : Addr) (kvs : List KvN), u = DicNX w a kvs
theorem DcA.nf {u : HO} (h : DcA u) : ∀ o w, u ≠ .frz o w := fun o w z => by
  rcases h with h | ⟨_, _, _, rfl⟩
  · exact h.nf o w z
  · cases z
theorem DcA.mut {u : HO} (h : DcA u) : Mut (some u) := by
  rcases h with h | ⟨_, _, _, rfl⟩
  · exact h.mut
  · exact True.intro
/-- the dict at a is locked, or unlocked -/
structure Lk (a : Addr) (H H' : Hp) : Prop where
  off : ∀ b, b ≠ a → H' b = H b
  at_ : ∃ u, DcA u ∧ Rd H a u ∧ Rd H' a u
section
variable {K : PySem.W.Frag} {B W : List Addr} {H H' : Hp} {a : Addr}
theorem Lk.lock {u : HO} (d : DcA u) (e : H a = some u) (o : Obj) : Lk a H (upd H a (.frz o u)) := ⟨fun b n => upd_ne n, u, d, .inl e, .inr ⟨o, upd_same⟩⟩
theorem Lk.unlock {u : HO} {o : Obj} (d : DcA u) (e : H a = some (.frz o u)) : Lk a H (upd H a u) := ⟨fun b n => upd_ne n, u, d, .inr ⟨o, e⟩, .inl upd_same⟩
theorem Lk.ne (l : Lk a H H') {b : Addr} {o : HO} (e : H b = some o) (n : ¬ DcA o) (nf : ∀ z w, o ≠ .frz z w) : b ≠ a := by
  rintro rfl
  obtain ⟨u, d, h, _⟩ := l.at_
  rcases h with h | ⟨z, h⟩
  · rw [e] at h
    cases h
    exact n d
  · rw [e] at h
    cases h
    exact nf _ _ rfl
theorem Lk.keep (l : Lk a H H') {b : Addr} {o : HO} (e : H b = some o) (n : ¬ DcA o) (nf : ∀ z w, o ≠ .frz z w) : H' b = some o := by
  rw [l.off b (l.ne e n nf)]
  exact e
theorem Lk.rd (l : Lk a H H') {b : Addr} {w : HO} (h : Rd H b w) (d : DcA w) : Rd H' b w := by
  by_cases z : b = a
  · subst z
    obtain ⟨u, du, hu, hu'⟩ := l.at_
    have e := rd_one h hu d.nf du.nf
    subst e
    exact hu'
  · exact rd_map h fun o e => by
      rw [l.off b z]
      exact e
theorem nd_lst {xs : List V} : ¬ DcA (.lst xs) := fun h => by rcases h with (⟨_, z⟩ | ⟨_, z⟩) | ⟨_, _, _, z⟩ <;> cases z
theorem nd_tup {xs : List V} : ¬ DcA (.tup xs) := fun h => by rcases h with (⟨_, z⟩ | ⟨_, z⟩) | ⟨_, _, _, z⟩ <;> cases z
theorem nd_ins {C dx : Addr} {fs : List (Str × V)} : ¬ DcA (.ins C dx fs) := fun h => by rcases h with (⟨_, z⟩ | ⟨_, z⟩) | ⟨_, _, _, z⟩ <;> cases z
mutual
theorem Lk.sg (l : Lk a H H') : ∀ {v : V} {d : D}, Sg K B H v d → Sg K B H' v d
  | _, _, .non => .non
  | _, _, .bl b => .bl b
  | _, _, .int i => .int i
  | _, _, .str x => .str x
  | _, _, .ty n => .ty n
  | _, _, .raw a => .raw a
  | _, _, .tup n h r => .tup n (l.keep h nd_tup fun _ _ z => nomatch z) (Lk.sga l r)
  | _, _, .etup h => .etup h
  | _, _, .lst n h r => .lst n (l.keep h nd_lst fun _ _ z => nomatch z) (Lk.sga l r)
  | _, _, .dic n h e r => .dic n (l.rd h (.inl (.inl ⟨_, rfl⟩))) e (Lk.sga l r)
  | _, _, .dit n h e r => .dit n (l.rd h (.inl (.inr ⟨_, rfl⟩))) e (Lk.sga l r)
  | _, _, .din n h e q r => .din n (l.rd h (.inr ⟨_, _, _, rfl⟩)) e (Lk.sga l q) (Lk.sga l r)
  | _, _, .ins n h e r => .ins n (l.keep h nd_ins fun _ _ z => nomatch z) e (Lk.sga l r)
theorem Lk.sga (l : Lk a H H') : ∀ {vs : List V} {ds : List D}, SgA K B H vs ds → SgA K B H' vs ds
  | _, _, .nil => .nil
  | _, _, .cons h r => .cons (Lk.sg l h) (Lk.sga l r)
end
theorem Lk.sr (l : Lk a H H') {v : V} {d : D} (s : Sr K B W H v d) : Sr K B W H' v d := by
  cases d with
  | lst ds =>
    obtain ⟨b, xs, rfl, n, h, r⟩ := s
    exact ⟨b, xs, rfl, n, l.keep h nd_lst (fun _ _ z => nomatch z), l.sga r⟩
  | dic ks ds =>
    obtain ⟨b, xs, rfl, n, h, e, r⟩ := s
    exact ⟨b, xs, rfl, n, l.rd h (.inl (.inl ⟨_, rfl⟩)), e, l.sga r⟩
  | dit ks ds =>
    obtain ⟨b, xs, rfl, n, h, e, r⟩ := s
    exact ⟨b, xs, rfl, n, l.rd h (.inl (.inr ⟨_, rfl⟩)), e, l.sga r⟩
  | din w kk ks ds =>
    obtain ⟨b, xs, rfl, n, h, e, q, r⟩ := s
    exact ⟨b, xs, rfl, n, l.rd h (.inr ⟨_, _, _, rfl⟩), e, l.sga q, l.sga r⟩
  | ins C ks ds =>
    obtain ⟨b, dx, xs, rfl, n, h, e, r⟩ := s
    exact ⟨b, dx, xs, rfl, n, l.keep h nd_ins (fun _ _ z => nomatch z), e, l.sga r⟩
  | _ => exact Lk.sg l s
theorem Lk.bag (l : Lk a H H') {b c : Addr} {ns : List Int} (h : BagC H b c ns) : BagC H' b c ns := by
  obtain ⟨⟨z, s, i, e, v⟩, e2, h2⟩ := h
  exact ⟨⟨z, s, i, l.keep e nd_lst (fun _ _ z => nomatch z), v⟩, l.keep e2 nd_lst (fun _ _ z => nomatch z), h2⟩
theorem Lk.owat (l : Lk a H H') {b : Addr} {d : D} (n : b ≠ a) (h : OwAt K B H b d) : OwAt K B H' b d := h.mv (fun o e => by
  rw [l.off b n]
  exact e) fun _ _ r => l.sga r
theorem Lk.none (l : Lk a H H') {b : Addr} : H' b = none ↔ H b = none := by
  by_cases z : b = a
  · subst z
    obtain ⟨u, _, h, h'⟩ := l.at_
    exact ⟨fun e => absurd e (rd_some h'), fun e => absurd e (rd_some h)⟩
  · rw [l.off b z]
theorem Lk.env (l : Lk a H H') {σ : L2.St} {ρ : List En} (e : EnvOk K B W H σ ρ) (no : ¬ Own σ ρ a) : EnvOk K B W H' σ ρ := by
  refine ⟨⟨e.bw.sub, fun b m z => e.bw.kn b m (l.none.mp z)⟩, e.len, fun i en h => ?_, e.one, e.sep⟩
  have k := e.sl i en h
  cases en with
  | no => trivial
  | dat d =>
    obtain ⟨v, e1, s⟩ := k
    exact ⟨v, e1, l.sg s⟩
  | bag b =>
    obtain ⟨e1, m, c, ns, nc, hb⟩ := k
    exact ⟨e1, m, c, ns, nc, l.bag hb⟩
  | own d =>
    obtain ⟨p, e1, m, n, ht, ow⟩ := k
    exact ⟨p, e1, m, n, ht, l.owat (fun z => no (z ▸ ⟨i, d, h, e1⟩)) ow⟩
  | bor d =>
    obtain ⟨v, e1, s⟩ := k
    exact ⟨v, e1, l.sr s⟩
end
/-- the dict of that local is locked -/
def D.isDcA : D → Bool
  | .dic _ _ => true
  | .dit _ _ => true
  | .din _ _ _ _ => true
  | _ => false
def LkAt (i : Nat) (σ : L2.St) (H : Hp) : Prop := ∃ (a : Addr) (od : Obj) (u : HO), σ[i]? = some (some (.ref a)) ∧ H a = some (.frz od u) ∧ DcA u
section
variable {K : PySem.W.Frag} {ρ : List En} {P : Po} {t : TS} {i : Nat} {d : D}
/-- a walk that may take it that the dict is locked -/
def iL (i : Nat) (wi : TI) : TI := fun σ H R => LkAt i σ H → wi σ H R
end
def ItR (d : Addr) (o : Obj) (n : Nat) : It :=
  ⟨fun i H => (∃ u, H d = some (.frz o u) ∧ DcO u) ∧ i < n, fun i H x H' => ∃ (T : Addr) (ps : List (V × V)) (k v : V), PsOf H d ps ∧ ps[i]? = some (k, v) ∧ x = .ref T ∧ H T = none ∧ H' = upd H T (.tup [k, v]), fun i H => (∃ u, H d = some (.frz o u) ∧ DcO u) ∧ n ≤ i⟩
theorem DcO.isDc {H : Hp} {d : Addr} {u : HO} (h : DcO u) (r : Rd H d u) : IsDc H d := by
  rcases h with ⟨kvs, rfl⟩ | ⟨kvs, rfl⟩
  · exact .inl ⟨kvs, r⟩
  · exact .inr ⟨kvs, r⟩
section
variable {P : Program} {w : World} {K : PySem.W.Frag} {d : Addr} {o : Obj} {es : Array DictEntry} {ep : Nat}
theorem ents_frz {X : Cx} {pins : List (Addr × Obj)} {σ : L2.St} {H : Hp} {s : Shared} {u : HO} (I : Inv X pins σ H s) (h : H d = some (.frz o u)) (du : DcO u) (hod : o.data = .dict es ep) : ∃ ps : List (V × V), PsOf H d ps ∧ DT.Raw s.heap d es ep ∧ es.size = ps.length ∧ ps.length ≤ sizeLine ∧
    ∀ (i : Nat) (x y : V), ps[i]? = some (x, y) → ∃ en : DictEntry, es[i]? = some en ∧ RelV x en.key ∧ RelV y en.val := by
  obtain ⟨ps, es', ep', h1, _, raw, h2, h3, h4⟩ := ents_of I (du.isDc (.inr ⟨o, h⟩))
  have eo : s.heap.get? d = some o := (I.hok d _ h).1
  obtain ⟨o', e1, e2, e3⟩ := id raw
  rw [eo] at e1
  cases e1
  rw [hod] at e3
  cases e3
  exact ⟨ps, h1, raw, h2, h3, h4⟩
theorem turn_itR {elts : List Expr} {kk : Nat} {tpos : Pos} (it : Addr) (hod : o.data = .dict es ep) : Turn P w K (.Tuple elts kk tpos) (ItR d o es.size) [it] it (fun i h => ∃ ok ov, IsItemIter h it d i es.size ep ok ov) where
  mem := List.mem_singleton_self it
  obj := fun i h st b hb => by
    obtain ⟨ok, ov, e⟩ := st
    rw [List.mem_singleton.mp hb]
    exact ⟨_, e, fun v z => nomatch z⟩
  keep := fun i h h' st k => by
    obtain ⟨ok, ov, e⟩ := st
    exact ⟨ok, ov, k it (List.mem_singleton_self it) _ e⟩
  item := by
    intro X hP hw hK hc i pins s σ H E I hf st hg
    subst hP hw hK
    obtain ⟨⟨u, hu, du⟩, hi⟩ := hg
    obtain ⟨ps, hps, raw, hl, _, ent⟩ := ents_frz I hu du hod
    have ei := List.getElem?_eq_getElem (l := ps) (i := i) (by omega)
    obtain ⟨en, e1, e2, e3⟩ := ent i _ _ ei
    have een : es[i] = en := by
      rw [Array.getElem?_eq_getElem hi] at e1
      exact Option.some.inj e1
    obtain ⟨ok, ov, he⟩ := st
    have hlt : it < s.heap.objs.size := Heap.lt_size he
    refine DT.nextI he raw hi fun h' ho hT hz hk => ?_
    rw [een] at ho hT
    refine ⟨_, rfl, ?_⟩
    refine wpAny_letOwnedTupleGo_items (s := { s with heap := h' }) ho fun h2 he2 sb => ?_
    have hT2 : h2.get? s.heap.objs.size = some { cls := .type "tuple", data := .seq #[en.key, en.val] } := by
      rw [sb.2 _ (Nat.ne_of_gt hlt)]
      exact hT
    have new : ObjOk X.prog X.w (upd H s.heap.objs.size (.tup [ps[i].1, ps[i].2])) h2 s.heap.objs.size (.tup [ps[i].1, ps[i].2]) := by
      refine ⟨by rw [sizeLine_eq]; show 2 ≤ 16777216; omega, [en.key, en.val], .cons e2 (.cons e3 .nil), ⟨_, hT2, rfl, _, rfl⟩⟩
    have I1 : Inv X pins σ (upd H s.heap.objs.size (.tup [ps[i].1, ps[i].2])) { s with heap := h2 } := by
      refine I.turnedNew (t' := s.toks) (ch := [it]) (fun b ob hb e => ?_) hf (Nat.le_refl _) new
      have nb : b ≠ it := fun z => hb (List.mem_singleton.mpr z)
      rw [sb.2 b nb]
      exact hk b ob nb e
    refine ⟨.ref s.heap.objs.size, _, I1, rfl, ⟨_, ps, _, _, hps, ei, rfl, I.hok.fresh (Nat.le_refl _), rfl⟩, ⟨en.key, en.val, he2⟩, fun b hb => ?_⟩
    rw [List.mem_singleton.mp hb, upd_ne (Nat.ne_of_lt hlt)]
    exact (hf it (List.mem_singleton_self it)).1
  done := by
    intro X hP hw hK hc i pins s σ H E I hf st hg
    subst hP hw hK
    obtain ⟨⟨u, hu, du⟩, hi⟩ := hg
    obtain ⟨f0, f1, f2, f3, f4, f5⟩ := hf it (List.mem_singleton_self it)
    obtain ⟨ps, hps, raw, hl, _, ent⟩ := ents_frz I hu du hod
    obtain ⟨ok, ov, he⟩ := st
    refine DT.endI (I.ok.hd hc) he raw hi fun h' eb => ⟨rfl, ?_⟩
    exact I.turned (t' := s.toks) (fun b ob hb e => eb b ob hb e) f0 f1 f3 f4 f5
  self := fun A i s Q E st h => by
    obtain ⟨_, _, e⟩ := st
    exact PySem.W.kcp_self e h
end
theorem PsOf.len {H : Hp} {d : Addr} {ps qs : List (V × V)} (h : PsOf H d ps) (h' : PsOf H d qs) : ps.length = qs.length := by
  rcases h with ⟨kvs, h, e⟩ | ⟨kvs, h, e, _⟩ <;> rcases h' with ⟨kvs', h', e'⟩ | ⟨kvs', h', e', _⟩ <;> have z := rd_one h h' (fun _ _ z => nomatch z) (fun _ _ z => nomatch z) <;> cases z
  · rw [e, e']
  · omega
def iItR (td : TE) : TI := fun σ H R => td σ H fun x H1 => ∃ d o u, x = .ref d ∧ H1 d = some (.frz o u) ∧ DcO u ∧ ∀ ps, PsOf H1 d ps → ps.length ≤ 16777216 → R (ItR d o ps.length) H1
section
variable {X : Cx} {e : Expr} {td : TE} {apos cpos : Pos}
theorem pi_itR {elts : List Expr} {kk : Nat} {tpos : Pos} (he : PE X e td) (hbase : attributeBase e "items" X.env (eval e X.env) = eval e X.env := by rfl) (hline : (apos.endLine == cpos.line) = true := by rfl) : PI X (.Tuple elts kk tpos) (.Call (.Attribute e "items" apos) [] [] cpos) (iItR td) := by
  refine ⟨fun pins s σ H R I h => ?_⟩
  refine wpAny_Call_method0_late hbase hline ?_
  refine thn (he.run pins s σ H _ I h) fun v s1 z => ?_
  obtain ⟨x, H1, I1, r1, d, o, u, e, hd, du, q⟩ := z
  subst e
  cases r1
  have isd := du.isDc (H := H1) (d := d) (.inr ⟨o, hd⟩)
  obtain ⟨h1, h2⟩ := isd.ty I1
  refine ⟨"dict", "dict.items", F.plainAttrs_dict, F.slot_dict_items, F.type_dict_items, h1, h2, ?_⟩
  obtain ⟨ps, es, ep, hps, hn, raw, l1, l2, _⟩ := ents_of I1 isd
  have eo : s1.heap.get? d = some o := (I1.hok d _ hd).1
  have hod : o.data = .dict es ep := by
    obtain ⟨o', e1, e2, e3⟩ := id raw
    rw [eo] at e1
    cases e1
    exact e3
  refine Calls.callWith_builtin rfl (PySem.evalArgs_none (DT.callItems hn raw ?_))
  have I2 : Inv X pins σ H1 { s1 with heap := s1.heap.push { cls := .type "dict_items", data := .fields #[.ref d] } } := I1.kept (t' := s1.toks) fun b ob q => Heap.get?_push_of_some _ q
  refine DT.iterI (d := d) ⟨_, Heap.get?_push_size _ rfl, rfl, rfl⟩ (raw.push _) ?_
  rw [sizeLine_eq] at l2
  have q2 := q ps hps l2
  rw [← l1] at q2
  exact pi_one (tk := s1.toks) I2 _ (turn_itR _ hod) ⟨.none, .none, Heap.get?_push_size _ rfl⟩ q2
end
def D.rowsM (d : D) : M (List D) := match d.rowsD with
  | some rs => .ret (rs.map pairD)
  | none => .fail
theorem rowsM_dc {d : D} {P : List D → Prop} (w : wp d.rowsM P) : d.isDcA = true := by
  cases d with
  | dic ks ds => rfl
  | dit ks ds => rfl
  | _ => exact (show False from w).elim
section
variable {K : PySem.W.Frag} {B W : List Addr} {U : Addr → Prop} {H1 : Hp} {a : Addr} {o : Obj} {u : HO} {d : D} {rs : List (D × D)} {ρ : List En} {i : Nat}
theorem rows_at {H' : Hp} {ps : List (V × V)} {j : Nat} {k v : V} (s : Sr K B W H1 (.ref a) d) (er : d.rowsD = some rs) (hr : ∀ w, Rd H1 a w → Rd H' a w) (hp : PsOf H' a ps) (ej : ps[j]? = some (k, v)) : ∃ kd vd, rs[j]? = some (kd, vd) ∧ (∀ B' : List Addr, Sg K B' H' k kd) ∧ Sg K B H1 v vd := by
  cases d with
  | dic ks ds =>
    cases er
    obtain ⟨_, kvs, e, n, h, rfl, r⟩ := s
    cases e
    rcases hp with ⟨kvs', h', rfl⟩ | ⟨kvs', h', _⟩ <;> have z := rd_one (hr _ h) h' (fun _ _ z => nomatch z) (fun _ _ z => nomatch z) <;> cases z
    rw [List.getElem?_map] at ej
    cases eq : kvs[j]? with
    | none =>
      rw [eq] at ej
      cases ej
    | some p =>
      rw [eq] at ej
      cases ej
      obtain ⟨vd, e1, e2⟩ := r.getV (i := j) (v := p.2) (by rw [List.getElem?_map, eq]; rfl)
      exact ⟨kDD p.1, vd, by rw [List.getElem?_zip_eq_some]; exact ⟨by simp [eq], e1⟩, fun B' => sg_kD _, e2⟩
  | dit ks ds =>
    cases er
    obtain ⟨_, kvs, e, n, h, rfl, r⟩ := s
    cases e
    rcases hp with ⟨kvs', h', rfl⟩ | ⟨kvs', h', hl, at_⟩ <;> have z := rd_one (hr _ h) h' (fun _ _ z => nomatch z) (fun _ _ z => nomatch z) <;> cases z
    have hj : j < kvs.length := by
      have := (List.getElem?_eq_some_iff.mp ej).1
      omega
    have eq := List.getElem?_eq_getElem hj
    obtain ⟨b, f1, f2⟩ := at_ j kvs[j].1 kvs[j].2 eq
    rw [ej] at f1
    cases f1
    obtain ⟨vd, e1, e2⟩ := r.getV (i := j) (v := kvs[j].2) (by rw [List.getElem?_map, eq]; rfl)
    exact ⟨tkD kvs[j].1, vd, by rw [List.getElem?_zip_eq_some]; exact ⟨by simp [eq], e1⟩, fun B' => .tup trivial f2 (sg_kDs _), e2⟩
  | _ => cases er
theorem walkd_itR (s : Sr K B W H1 (.ref a) d) (er : d.rowsD = some rs) (lk : H1 a = some (.frz o u)) (du : DcO u) (hk : ∀ H', Kp W U H1 H' → H' a = some (.frz o u)) (hz : rs.length ≤ 16777216) : WalkD K B W U H1 (ItR a o rs.length) (rs.map pairD) where
  len := by rw [List.length_map]; exact hz
  goes := fun i H' hi k => by
    rw [List.length_map] at hi
    exact ⟨⟨u, hk H' k, du⟩, hi⟩
  stops := fun H' k => by
    rw [List.length_map]
    exact ⟨⟨u, hk H' k, du⟩, Nat.le_refl _⟩
  yields := fun i H' x H2 hi k y => by
    obtain ⟨T, ps, kx, vx, hp, ej, rfl, nT, rfl⟩ := y
    refine ⟨Gs.new nT, fun B' kn t => ?_⟩
    have eH := hk H' k
    have hr : ∀ w, Rd H1 a w → Rd H' a w := fun w hw => by
      rcases hw with hw | ⟨o', hw⟩
      · rw [lk] at hw
        cases hw
        exact .inl eH
      · rw [lk] at hw
        cases hw
        exact .inr ⟨_, eH⟩
    obtain ⟨kd, vd, e1, e2, e3⟩ := rows_at (H' := H') s er hr hp ej
    refine ⟨pairD (kd, vd), ?_, sg_pair nT kn (e2 B') (t _ _ e3)⟩
    rw [List.getElem?_map, e1]
    rfl
theorem rs_len {ps : List (V × V)} (s : Sr K B W H1 (.ref a) d) (er : d.rowsD = some rs) (hp : PsOf H1 a ps) : ps.length = rs.length := by
  obtain ⟨a', e, _, _, h⟩ := sr_rows s er
  cases e
  exact (h ps hp).1
theorem RI.itR (h : ρ[i]? = some (.dat d)) : RI K true (iL i (iItR (tVar i))) ρ d.rowsM := fun P w B W H σ e R q lk => by
  obtain ⟨v, ev, sv⟩ := e.sl i _ h
  obtain ⟨a, od, u, ea, hl, du⟩ := lk
  rw [ev] at ea
  cases ea
  have w1 : wp (match d.rowsD with | some rs => M.ret (rs.map pairD) | none => .fail) P := w
  cases er : d.rowsD with
  | none =>
    rw [er] at w1
    exact w1.elim
  | some rs =>
    rw [er] at w1
    have s := sv.sr e.bw.sub
    have na : a ∉ B := by
      cases sv with
      | dic n _ _ _ => exact n
      | dit n _ _ _ => exact n
      | _ => cases er
    have du : DcO u := by
      cases sv with
      | dic n hr _ _ => exact .inl ⟨_, rd_one (.inr ⟨od, hl⟩) hr du.nf (fun _ _ z => nomatch z)⟩
      | dit n hr _ _ => exact .inr ⟨_, rd_one (.inr ⟨od, hl⟩) hr du.nf (fun _ _ z => nomatch z)⟩
      | _ => cases er
    refine ⟨_, ev, a, od, u, rfl, hl, du, fun ps hps hn => ?_⟩
    have el : ps.length = rs.length := rs_len s er hps
    rw [el] at hn ⊢
    exact q _ _ H Gs.refl (walkd_itR s er hl du (fun H' k => k.kp a _ (fun m => na (e.bw.sub a m)) (fun z => na (e.ownB z.2).1) hl) hn) w1
end
end VB
namespace VB
open PySem PySem.Spec PyProof.Rows L2
/-- the dict a comprehension starts with -/
inductive Mt0 : HO → Prop
  | k : Mt0 (.dK [])
  | t : Mt0 (.dT [])
section
variable {X : Cx} {pins : List (Addr × Obj)} {σ : L2.St} {H : Hp} {s : Shared}
theorem mt0_ok {P : Program} {w : World} {u0 : HO} (m : Mt0 u0) (h : Heap) (big : sysModules < h.objs.size) : ObjOk P w H (h.push { cls := .type "dict", data := .dict #[] }) h.objs.size u0 := by
  cases m with
  | k => exact dk_empty h big
  | t => exact dt_empty h big
/-- one more row -/
theorem row_put {E : Value → Shared → Prop} {D : Addr} {H' : Hp} {y z : V} {u r : Value} {Q : Unit → Shared → Prop} (hu : X.A.units + 65 < cLine) (I : Inv X pins σ H s) (g : DPut H D y z H') (ry : RelV y u) (rz : RelV z r) (q : ∀ s', Inv X pins σ H' s' → Q () s') : wpAny (model X.prog X.w) X.A (dictSet D u r) Q E s := by
  rcases g with ⟨kvs, k, e, rfl, l, rfl⟩ | ⟨kvs, k, b, e, rfl, eb, l, rfl⟩
  · exact d_dictSet I e l ry rz q
  · cases (show u = Value.ref b from ry)
    obtain ⟨zz, hd, xs, rel, dd⟩ := dt_of I.hok e
    have lx := Paired.length rel
    have lp := length_putK kvs k z
    refine wpAny_dictSet_heap (hsz := by omega) (show X.A.units < cLine by omega) (key_of I.hok eb) dd fun h' dd' same => q _ ?_
    obtain ⟨ob, es, ep, g1, g2, g3, g4, _, g6⟩ := dd'
    refine d_write I (by rw [e]; trivial) same ⟨ob, g1⟩ ⟨by omega, hd, _, (rel.put k eb rz).keeps fun c ys ec => ?_, ob, es, ep, g1, g2, g3, g4, g6⟩
    have nc : c ≠ D := ne_of ec e fun z => nomatch z
    rw [upd_ne nc]
    exact ec
end
/-- the reading: the new dict is at D, u0 what it starts as -/
def tDcA (u0 : HO) (wi : TI) (g : TG) (tt : TT) (tk tv : TE) (vs : List Nat) : TE := fun σ H Q => wi σ H fun J H1 => ∀ D, H1 D = none → ∃ W : Nat → Nat → Hp → Prop, (∃ m, W 0 m (upd H1 D u0)) ∧ ∀ i m Ha, W i m Ha →
  (J.stop i Ha ∧ Q (.ref D) Ha) ∨ (J.go i Ha ∧ ∃ N : Hp → Prop, (∀ Hb, N Hb → ∃ m', m' < m ∧ W (i + 1) m' Hb) ∧ ∀ x Hb, J.yld i Ha x Hb → g x (wipe σ vs) Hb fun σ2 Hc => wipe σ2 vs = wipe σ vs ∧ tt σ2 Hc fun b Hd =>
    if b = true then tk σ2 Hd fun y He => tv σ2 He fun z Hf => ∃ Hg, DPut Hf D y z Hg ∧ N Hg else N Hd)
abbrev AllB (X : Cx) (scope : Scope) (p : Cx → Prop) : Prop := ∀ (s : Shared) (H : Hp) (C : Addr) (cl : List (Str × Addr)) (fp : List Addr), p (X.blk s H scope (compEnvC scope cl C X.env) fp)
theorem dc_core {X : Cx} {pins : List (Addr × Obj)} {s : Shared} {σ : L2.St} {H : Hp} {Q : VK} {use : Option (Value → Sem Unit)} {Qf : Value → Shared → Prop} {pos' : Pos} {u0 : HO} {kx vx tg iter : Expr} {ifs : List Expr} {scope : Scope} {own : List (Str × Nat)} {pos : Pos} {wi : TI} {g : TG} {tt : TT} {tk tv : TE} (m0 : Mt0 u0) (hu : X.A.units + 65 < cLine) (hc : X.calm = true) (hN : X.N.Nodup) (I : Inv X pins σ H s) (hi : PI X tg iter wi) (ok : BlkOk X.N X.env.scope scope own)
    (hg : AllB X scope fun Y => PG Y tg g) (ht : AllB X scope fun Y => PTs Y ifs tt) (hk : AllB X scope fun Y => PE Y kx tk) (hv : AllB X scope fun Y => PE Y vx tv) (hs : ∀ x, foldedSetIterable iter X.env x = pure x)
    (h : tDcA u0 wi g tt tk tv (own.map (·.2)) σ H Q)
    (hRR : ∀ D C s' m H', Inv X pins σ H' s' → Q (.ref D) H' → s'.heap.Ns C m → FpOk X pins H' C → compPost (model X.prog X.w) X.A X.xe use Qf (.ref D) C (.ok .next) s') :
    wpAny (model X.prog X.w) X.A (comprehension (.DictComp kx vx [⟨tg, iter, ifs, 0⟩] scope pos) scope X.env pos' newDict false (eval iter X.env) use) Qf X.xe s := by
  have free : ∀ y ∈ scope.names, y.2 = .free → ∃ c, X.env.cells.lookup y.1 = some c := fun y my ey => I.ok.has _ ((ok.free y my ey).elim .inl .inr)
  refine wpAny_comprehension_free (use := use) rfl hs (closure_ok free) ok.kind (fun y my ey => (ok.uniq y my).trans (congrArg some ey)) ?_
  refine thn (hi.run pins s σ H _ I h) fun xv s1 hx => thn hx fun itv sA hA => ?_
  obtain ⟨it, fp, tn, J, HA, rfl, IA, T, stA, fA, q⟩ := hA
  refine wpAny_newObj_type (newEnv_comp ?_)
  obtain ⟨D, eD⟩ : ∃ D, sA.heap.objs.size = D := ⟨_, rfl⟩
  have nD : HA D = none := IA.hok.fresh (by omega)
  obtain ⟨Wn, ⟨nn, wn0⟩, turn⟩ := q D nD
  -- the heap with the new dict
  obtain ⟨sB, eB⟩ : ∃ sB : Shared, ({ sA with heap := sA.heap.push { cls := .type "dict", data := .dict #[] } } : Shared) = sB := ⟨_, rfl⟩
  have hB : sB.heap = sA.heap.push { cls := .type "dict", data := .dict #[] } := by rw [← eB]
  have grow : ∀ b o, sA.heap.get? b = some o → sB.heap.get? b = some o := fun b o e => by
    rw [hB]
    exact Heap.get?_push_of_some _ e
  have IB : Inv X pins σ (upd HA D u0) sB := by
    subst eB eD
    exact IA.laid (t' := sA.toks) (fun b o => Heap.get?_push_of_some _) (Nat.le_refl _) (mt0_ok m0 sA.heap IA.big)
  have fpB : ∀ b ∈ fp, FpOk X pins (upd HA D u0) b ∧ b < sB.heap.objs.size := fun b mb => by
    obtain ⟨o, eo, _⟩ := T.obj _ _ stA b mb
    have lt := Heap.lt_size eo
    have z := fA b mb
    have nb : b ≠ D := eD ▸ Nat.ne_of_lt lt
    refine ⟨⟨?_, z.2⟩, Heap.lt_size (grow b o eo)⟩
    rw [upd_ne nb]
    exact z.1
  have stB : tn 0 sB.heap := T.keep _ _ _ stA fun b _ o => grow b o
  have I0 := block_start IB ok hN fpB
  obtain ⟨HB, eHB⟩ : ∃ HB, upd HA D u0 = HB := ⟨_, rfl⟩
  rw [eHB] at wn0 IB fpB I0
  obtain ⟨cl, ecl⟩ : ∃ cl, cellsFrom (sB.heap.objs.size + 1) scope.names (cloFrom X.env.cells scope.names []) = cl := ⟨_, rfl⟩
  have pg := hg sB HB sB.heap.objs.size cl fp
  have pt := ht sB HB sB.heap.objs.size cl fp
  have pk := hk sB HB sB.heap.objs.size cl fp
  have pv := hv sB HB sB.heap.objs.size cl fp
  rw [eB, eD]
  show codeAny _ _ (.compStart (.DictComp kx vx [⟨tg, iter, ifs, 0⟩] scope pos) 0 (.ref it) (.ref D) (compEnvC scope (cellsFrom (sB.heap.objs.size + 1) scope.names (cloFrom X.env.cells scope.names [])) sB.heap.objs.size X.env)) (compPost (model X.prog X.w) X.A X.xe use Qf (.ref D) sB.heap.objs.size) { sB with heap := pushCells (sB.heap.push { cls := .type "dict", data := .dict #[] }) scope.names }
  rw [ecl] at I0 ⊢
  obtain ⟨ce, ece⟩ : ∃ ce, compEnvC scope cl sB.heap.objs.size X.env = ce := ⟨_, rfl⟩
  have locC : ce.locals = sB.heap.objs.size := by
    rw [← ece]
    rfl
  rw [ece] at I0 pg pt pk pv ⊢
  obtain ⟨sC, eC⟩ : ∃ sC : Shared, ({ sB with heap := pushCells (sB.heap.push { cls := .type "dict", data := .dict #[] }) scope.names } : Shared) = sC := ⟨_, rfl⟩
  rw [eC] at I0 ⊢
  have stC : tn 0 sC.heap := T.keep _ _ _ stB fun b _ o e => by
    rw [← eC]
    exact pushCells_keeps _ _ _ _ (Heap.get?_push_of_some _ e)
  have n0 : ∀ b ∈ fp, HB b = none := fun b mb => (fpB b mb).1.1
  have fpX : ∀ {σ' : L2.St} {H' : Hp} {s' : Shared}, Inv (X.blk sB HB scope ce fp) [] σ' H' s' → (∀ b ∈ fp, H' b = none) → ∀ b ∈ fp, FpOk (X.blk sB HB scope ce fp) [] H' b := fun I' hn b mb => by
    have z := I'.ok.exf b mb
    exact ⟨hn b mb, z.1, I'.ok.exfs b mb, .inl mb, fun x c e => z.2 x c e, fun p hp => by simp at hp⟩
  have back : ∀ {H' : Hp} {s' : Shared}, Inv (X.blk sB HB scope ce fp) [] (wipe σ (own.map (·.2))) H' s' → Q (.ref D) H' → compPost (model X.prog X.w) X.A X.xe use Qf (.ref D) sB.heap.objs.size (.ok .next) s' := fun {H' s'} I' qq => by
    have IZ : Inv X pins σ H' s' := IB.call' (ch := fp) I'.os I'.base I'.hok I'.bare fun b mb => by
      obtain ⟨⟨_, z1, _, z3, z4, z5⟩, _⟩ := fpB b mb
      exact ⟨z3, z1, z4, z5⟩
    have nC : H' sB.heap.objs.size = none := by
      have z : H' ce.locals = none := I'.free
      rw [locC] at z
      exact z
    obtain ⟨m, hm, _⟩ := I'.loc
    replace hm : s'.heap.Ns ce.locals m := hm
    rw [locC] at hm
    exact hRR D sB.heap.objs.size s' m H' IZ qq hm (IB.fpOk (Nat.le_refl _) nC)
  have loop : codeAny (model X.prog X.w) X.A (.compLoop (.DictComp kx vx [⟨tg, iter, ifs, 0⟩] scope pos) 0 (.ref it) (.ref D) ce) (compPost (model X.prog X.w) X.A X.xe use Qf (.ref D) sB.heap.objs.size) sC := by
    refine compLoop_anyD (fun n s' => ∃ i H', Inv (X.blk sB HB scope ce fp) [] (wipe σ (own.map (·.2))) H' s' ∧ tn i s'.heap ∧ (∀ b ∈ fp, H' b = none) ∧ Wn i n H') (fun n s5 hn => ?_) nn ⟨0, HB, I0, stC, n0, wn0⟩
    obtain ⟨i, H5, I5, st5, n5, w5⟩ := hn
    rcases turn i n H5 w5 with ⟨stop, qq⟩ | ⟨go, N, hN', step⟩
    · refine thnF (T.done (X.blk sB HB scope ce fp) rfl rfl rfl hc i [] s5 _ H5 (fun _ _ => False) I5 (fpX I5 n5) st5 stop) fun r s6 hr => ?_
      obtain ⟨rfl, I6⟩ := hr
      exact back I6 qq
    · refine thnF (T.item (X.blk sB HB scope ce fp) rfl rfl rfl hc i [] s5 _ H5 (fun _ _ => False) I5 (fpX I5 n5) st5 go) fun r s6 h6 => ?_
      obtain ⟨u, rfl, h6⟩ := h6
      refine thnF h6 fun _ s7 h7 => ?_
      obtain ⟨x, H7, I7, r7, y7, st7, n7⟩ := h7
      refine thnF (pg.run _ s7 _ H7 x u _ (I7.pinned (fpX I7 n7) (T.obj _ _ st7)) r7 (step x H7 y7)) fun _ s8 h8 => ?_
      obtain ⟨σ8, H8, I8, hw8, q8⟩ := h8
      refine thnF (pt.run _ s8 σ8 H8 _ I8 q8) fun b s9 h9 => ?_
      obtain ⟨H9, I9, q9⟩ := h9
      have next : ∀ {s' : Shared} {H' : Hp}, Inv (X.blk sB HB scope ce fp) ([] ++ pinsAt fp s7.heap) σ8 H' s' → N H' → ∃ m, m < n ∧ ∃ i H', Inv (X.blk sB HB scope ce fp) [] (wipe σ (own.map (·.2))) H' s' ∧ tn i s'.heap ∧ (∀ b ∈ fp, H' b = none) ∧ Wn i m H' := fun {s' H'} I' nx => by
        obtain ⟨m', lt, w'⟩ := hN' H' nx
        have pins' : ∀ b ∈ fp, ∀ o, s7.heap.get? b = some o → s'.heap.get? b = some o ∧ H' b = none := fun b mb o e => by
          have z := I'.pin (b, o) (List.mem_append_right _ (List.mem_append_right _ (mem_pinsAt mb e)))
          exact ⟨z.1, z.2.1⟩
        refine ⟨m', lt, i + 1, H', (I'.unpinned (pins := [])).weak ?_ (fun j v e => ?_), T.keep _ _ _ st7 fun b mb o e => (pins' b mb o e).1, fun b mb => ?_, w'⟩
        · rw [← wipe_length σ8 (own.map (·.2)), hw8]
        · rw [← hw8] at e
          exact (wipe_some e).1
        · obtain ⟨o, e, _⟩ := T.obj _ _ st7 b mb
          exact (pins' b mb o e).2
      cases b with
      | false =>
        rw [if_neg Bool.false_ne_true] at q9 ⊢
        exact next I9 q9
      | true =>
        rw [if_pos rfl] at q9 ⊢
        refine thnF (pk.run _ s9 σ8 H9 _ I9 q9) fun kv sK hK => ?_
        obtain ⟨yk, HK, IK, rK, qK⟩ := hK
        refine thnF (pv.run _ sK σ8 HK _ IK qK) fun vv sV hV => ?_
        obtain ⟨yv, HV, IV, rV, HG, put, nx⟩ := hV
        exact row_put (X := X.blk sB HB scope ce fp) hu IV put rK rV fun s12 I12 => next I12 nx
  exact codeAny_compStart_dict loop (T.self X.A 0 _ _ _ stC loop)
theorem pe_dcA {X : Cx} {u0 : HO} {kx vx tg iter : Expr} {ifs : List Expr} {scope : Scope} {own : List (Str × Nat)} {pos : Pos} {wi : TI} {g : TG} {tt : TT} {tk tv : TE} (m0 : Mt0 u0) (hu : X.A.units + 65 < cLine) (hc : X.calm = true) (hN : X.N.Nodup) (hi : PI X tg iter wi) (ok : BlkOk X.N X.env.scope scope own)
    (hg : AllB X scope fun Y => PG Y tg g) (ht : AllB X scope fun Y => PTs Y ifs tt) (hk : AllB X scope fun Y => PE Y kx tk) (hv : AllB X scope fun Y => PE Y vx tv) (hs : ∀ x, foldedSetIterable iter X.env x = pure x := by intro _; rfl) :
    PE X (.DictComp kx vx [⟨tg, iter, ifs, 0⟩] scope pos) (tDcA u0 wi g tt tk tv (own.map (·.2))) := by
  refine ⟨fun pins s σ H Q I h => ?_⟩
  rw [arm_eval_DictComp]
  refine dc_core (use := Option.none) m0 hu hc hN I hi ok hg ht hk hv hs h fun D C s' m H' I' q hn f => ⟨m, hn, fun h2 sb => ⟨.ref D, H', ?_, rfl, q⟩⟩
  obtain ⟨f0, f1, f2, f3, f4, f5⟩ := f
  exact I'.turned (t' := s'.toks) (fun b o nb e => (sb.2 b nb).trans e) f0 f1 f3 f4 f5
/-- name = {..} on one line, the name a local -/
theorem ps_setDc {i : Nat} {y : Str} {py spos : Pos} {X : Cx} {u0 : HO} {kx vx tg iter : Expr} {ifs : List Expr} {scope : Scope} {own : List (Str × Nat)} {pos : Pos} {wi : TI} {g : TG} {tt : TT} {tk tv : TE} (m0 : Mt0 u0) (hu : X.A.units + 65 < cLine) (hc : X.calm = true) (hN : X.N.Nodup) (hy : X.N[i]? = some y) (hyl : X.env.scope.names.lookup y = some .local) (hsw : swapsWith (.DictComp kx vx [⟨tg, iter, ifs, 0⟩] scope pos) (some (.Name y py)) spos.line X.env = pure true) (hi : PI X tg iter wi) (ok : BlkOk X.N X.env.scope scope own)
    (hg : AllB X scope fun Y => PG Y tg g) (ht : AllB X scope fun Y => PTs Y ifs tt) (hk : AllB X scope fun Y => PE Y kx tk) (hv : AllB X scope fun Y => PE Y vx tv) (hs : ∀ x, foldedSetIterable iter X.env x = pure x := by intro _; rfl) :
    PS X (.Assign [.Name y py] (.DictComp kx vx [⟨tg, iter, ifs, 0⟩] scope pos) spos) (tAsg (tDcA u0 wi g tt tk tv (own.map (·.2))) (gName i)) := by
  refine ⟨fun pins s σ H D I h => ?_⟩
  rw [exec_Assign_Name_used _ _ _ _ hsw]
  refine wpAny_bind (wpAny_standAt (wpAny_bind ?_))
  show wpAny _ X.A (do let _ ← comprehension (.DictComp kx vx [⟨tg, iter, ifs, 0⟩] scope pos) scope X.env (firstIterPos [⟨tg, iter, ifs, 0⟩] pos) newDict false (eval iter X.env) (some (assign (.Name y py) X.env))) _ _ s
  have h : tDcA u0 wi g tt tk tv (own.map (·.2)) σ H (fun x H1 => gName i x σ H1 D.nx) := h
  refine wpAny_bind (thn (dc_core (Qf := fun _ s' => SP X pins D .next s') m0 hu hc hN I hi ok hg ht hk hv hs h fun L C s' m H' I' q hn f => ?_) fun _ s' hq => wpAny_pure (wpAny_pure hq))
  show wpAny _ _ (assign (.Name y py) X.env (.ref L)) _ _ _
  refine wpAny_assign_Name (store_ok2 (v := V.ref L) I' hN hy (.inl hyl) rfl (fun s2 I2 ⟨a, sb, ha⟩ => ?_) (.inr hyl))
  obtain ⟨f0, f1, f2, f3, f4, f5⟩ := f
  have haC : C ≠ a := by
    rcases ha with z | z
    · rw [z]; exact f1
    · exact fun e => f4 y a z e.symm
  refine ⟨m, hn.sameBut sb haC, fun h3 sb3 => ?_⟩
  exact ⟨_, H', I2.turned (t' := s2.toks) (fun b o hb e => (sb3.2 b hb).trans e) f0 f1 f3 f4 f5, q⟩
theorem sw_trueD {kx vx : Expr} {gs : List Comprehension} {scope : Scope} {pos py : Pos} {y : Str} {l : Nat} {env : Env} (hk : env.scope.kind = .function) (hy : env.scope.names.lookup y = some .local) (hl : (py.line == pos.line) = true)
    (ha : (scope.names.any fun (n, k) => n == y && (k == .local || k == .cell)) = false) : swapsWith (.DictComp kx vx gs scope pos) (some (.Name y py)) l env = pure true := by
  have ky : env.kindOf y = some .local := hy
  have hb : env.blockKind = .function := by unfold Env.blockKind; rw [hk]; rfl
  unfold swapsWith
  simp only [hb, ky, ha, Expr.pos, hl]
  rfl
/-- a new dict of that kind -/
def D0 : Bool → D
  | false => .dic [] []
  | true => .dit [] []
def U0 : Bool → HO
  | false => .dK []
  | true => .dT []
theorem mt0 : ∀ b, Mt0 (U0 b)
  | false => .k
  | true => .t
/-- one more row of data -/
def D.row {α : Type} (d y x : D) (k : D → M α) : M α := if d.isDc = true then D.setA d y x k else .fail
/-- the rows that the turns come to -/
def M.dc (k : D → M (Option (D × D))) : List D → D → M D
  | [], d => .ret d
  | x :: xs, d => (k x).bind fun o => match o with
    | some r => d.row r.1 r.2 fun d' => M.dc k xs d'
    | none => M.dc k xs d
def DT1 (K : PySem.W.Frag) (tt : TT) (tk tv : TE) (P : Option (D × D) → Prop) (ρ : List En) : Prop := ET K tt ρ fun b => if b = true then EV K tk ρ fun y => EV K tv ρ fun z => P (some (y, z)) else P none
section
variable {K : PySem.W.Frag} {ρ : List En} {tk tv : TE} {tt : TT} {p : Pt} {js : List Nat} {wi : TI} {mi : M (List D)} {kd : Bool}
theorem DT1.plain {mk mv : M D} (hk : RE K tk ρ mk) (hv : RE K tv ρ mv) {P : Option (D × D) → Prop} (w : wp (mk.bind fun y => mv.bind fun z => .ret (some (y, z))) P) : DT1 K tYes tk tv P ρ := ET.yes (by
  rw [if_pos rfl]
  exact EV.imp (hk _ (wp_bind.mp w)) fun y w1 => hv _ (wp_bind.mp w1))
theorem DT1.test {mt : M Bool} {mk mv : M D} (ht : RT K tt ρ mt) (hk : RE K tk ρ mk) (hv : RE K tv ρ mv) {P : Option (D × D) → Prop} (w : wp (mt.bind fun b => if b = true then mk.bind fun y => mv.bind fun z => .ret (some (y, z)) else .ret none) P) : DT1 K tt tk tv P ρ := ET.imp (ht _ (wp_bind.mp w)) fun b w1 => by
  cases b with
  | true =>
    rw [if_pos rfl] at w1 ⊢
    exact EV.imp (hk _ (wp_bind.mp w1)) fun y w1 => hv _ (wp_bind.mp w1)
  | false =>
    rw [if_neg Bool.false_ne_true] at w1 ⊢
    exact w1
/-- the state between two turns: rows stand at Dl -/
def DS1 (K : PySem.W.Frag) (B W : List Addr) (H1 : Hp) (Dl : Addr) (σ : L2.St) (ρ : List En) (k : D → M (Option (D × D))) (ds : List D) (P : D → Prop) (i : Nat) (H : Hp) : Prop :=
  ∃ d : D, d.isDc = true ∧ OwAt K (Dl :: B) H Dl d ∧ wp (M.dc k (ds.drop i) d) P ∧ EnvOk K (Dl :: B) W H σ ρ ∧ Gs W H1 H
theorem RN.dc {k : D → M (Option (D × D))} (hi : RI K false wi ρ mi) (hs : ∀ j ∈ p.sl, j ∈ js) (hk : PB p (clrL ρ js) k (DT1 K tt tk tv)) : RN K (tDcA (U0 kd) wi (p.g K) tt tk tv js) ρ (mi.bind fun ds => M.dc k ds (D0 kd)) := fun P w B W H σ e Q q =>
  hi _ (wp_bind.mp w) B W H σ e _ fun J ds H1 g1 wk w1 Dl nD => by
    have e1 := e.gs g1
    have dB : Dl ∉ B := e1.bw.notNew nD
    have dW : Dl ∉ W := fun m => dB (e1.bw.sub _ m)
    obtain ⟨e2, o2, b2⟩ := e1.clrs js
    have kp : ∀ {H' : Hp}, Gs W H1 H' → Kp W (fun a => false = true ∧ Own σ ρ a) H1 H' := fun g => ⟨fun a o nW _ h => g.gw.keep a o nW h, g.gw.tups⟩
    have nO : ¬ Own (wipe σ js) (clrL ρ js) Dl := fun o => (e1.ownB (o2 _ o)).2.2 nD
    have nB : ¬ Bor (wipe σ js) (clrL ρ js) Dl := fun o => e1.borK (b2 _ o) nD
    have s0 : OwAt K (Dl :: B) (upd H1 Dl (U0 kd)) Dl (D0 kd) := by
      cases kd
      · exact ⟨[], upd_same, rfl, .nil⟩
      · exact ⟨[], upd_same, rfl, .nil⟩
    refine ⟨fun i m H' => m = ds.length - i ∧ i ≤ ds.length ∧ DS1 K B W H1 Dl (wipe σ js) (clrL ρ js) k ds P i H', ⟨ds.length, by simp, Nat.zero_le _, D0 kd, by cases kd <;> rfl, s0, w1, e2.out nD, Gs.new nD⟩, ?_⟩
    rintro i m H2 ⟨rfl, hle, dd, hdc, hD, w2, en, g⟩
    have kn : H2 Dl ≠ none := hD.kn
    by_cases hlt : i < ds.length
    · refine .inr ⟨wk.goes i H2 hlt (kp g), fun H' => i + 1 ≤ ds.length ∧ DS1 K B W H1 Dl (wipe σ js) (clrL ρ js) k ds P (i + 1) H', fun H' z => ⟨ds.length - (i + 1), by omega, rfl, z⟩, fun x H3 hy => ?_⟩
      obtain ⟨g3, hy⟩ := wk.yields i H2 x H3 hlt (kp g) hy
      obtain ⟨d, hd, s⟩ := hy (Dl :: B) (fun a m => en.bw.kn a m) fun v d s => by
        refine Sg.mv (B := B) (fun b o nb eb => ?_) g.gw.tups (fun b mb => (List.mem_cons.mp mb).elim (fun z => .inr (z ▸ nD)) .inl) s
        exact g.gw.keep b o (fun m => nb (e1.bw.sub _ m)) eb
      rw [List.drop_eq_getElem_cons hlt, show ds[i] = d from Option.some.inj (by rw [← hd, List.getElem?_eq_getElem hlt])] at w2
      have w3 := wp_bind.mp (show wp ((k d).bind fun o => match o with | some r => dd.row r.1 r.2 fun d' => M.dc k (ds.drop (i + 1)) d' | none => M.dc k (ds.drop (i + 1)) dd) P from w2)
      obtain ⟨ρ', hb, hC⟩ := hk d _ w3
      have en3 := en.gs g3
      refine Pt.ok p en3 s hb fun σ4 a4 => ⟨a4.wi js hs |>.trans ?_, hC (Dl :: B) W H3 σ4 a4.en _ fun b H5 g5 c5 => ?_⟩
      · apply List.ext_getElem?
        intro z
        rw [wipe_get, wipe_get, wipe_length]
        by_cases hz : z ∈ js
        · simp only [if_pos hz]
        · simp only [if_neg hz]
      · cases b with
        | true =>
          rw [if_pos rfl] at c5 ⊢
          refine c5 (Dl :: B) W H5 σ4 (a4.en.gs g5) _ fun y dy H6 g6 s6 w6 => ?_
          refine w6 (Dl :: B) W H6 σ4 ((a4.en.gs g5).gs g6) _ fun z dz H7 g7 s7 w7 => ?_
          have g37 := ((g3.trans g5).trans g6).trans g7
          have hD7 : OwAt K (Dl :: B) H7 Dl dd := hD.mv (fun o eo => g37.gw.keep _ _ dW eo) fun _ _ r => r.gw (en.bw.gw g37)
          have en7 := en.gs g37
          have s6' := s6.gw (((a4.en.gs g5).gs g6).bw.gw g7)
          have w8 : wp (dd.row dy dz fun d' => M.dc k (ds.drop (i + 1)) d') P := w7
          obtain ⟨_, w8⟩ := wp_ite w8
          have nt := hD7.nt
          have fin : ∀ {u : HO} {d' : D}, d'.isDc = true → OwAt K (Dl :: B) (upd H7 Dl u) Dl d' → wp (M.dc k (ds.drop (i + 1)) d') P → i + 1 ≤ ds.length ∧ DS1 K B W H1 Dl (wipe σ js) (clrL ρ js) k ds P (i + 1) (upd H7 Dl u) := fun {u d'} h1 h2 h3 => ⟨hlt, d', h1, h2, h3, en7.wr nt (List.mem_cons_self ..) dW nO nB, (g.trans g37).mut nD⟩
          cases dd with
          | dic ks vs =>
            obtain ⟨kvs, hx, rfl, r'⟩ := hD7
            have w9 : wp (match dy.keyK with | some j => if (kvs.map (·.1)).length < 16777216 then M.dc k (ds.drop (i + 1)) (.dic (putKs (kvs.map (·.1)) j) (putDs (kvs.map (·.1)) vs j dz)) else .fail | none => .fail) P := w8
            cases ej : dy.keyK with
            | none =>
              rw [ej] at w9
              exact w9.elim
            | some j =>
              rw [ej] at w9
              obtain ⟨hz, w10⟩ := wp_ite w9
              rw [List.length_map] at hz
              exact ⟨_, .inl ⟨kvs, j, hx, sg_keyK s6 ej, by rw [sizeLine_eq]; exact hz, rfl⟩, fin (d' := .dic (putKs (kvs.map (·.1)) j) (putDs (kvs.map (·.1)) vs j dz)) rfl ⟨_, upd_same, put_keys _ _ _, (put_vals r' s7).gw (Gw.wr (List.mem_cons_self ..) nt)⟩ w10⟩
          | dit ks vs =>
            obtain ⟨kvs, hx, rfl, r'⟩ := hD7
            have w9 : wp (match dy.keyT with | some j => if (kvs.map (·.1)).length < 16777216 then M.dc k (ds.drop (i + 1)) (.dit (putKs (kvs.map (·.1)) j) (putDs (kvs.map (·.1)) vs j dz)) else .fail | none => .fail) P := w8
            cases ej : dy.keyT with
            | none =>
              rw [ej] at w9
              exact w9.elim
            | some j =>
              rw [ej] at w9
              obtain ⟨hz, w10⟩ := wp_ite w9
              rw [List.length_map] at hz
              obtain ⟨b, rfl, eb⟩ := sr_keyT (s6'.sr (W := W) en7.bw.sub) ej
              exact ⟨_, .inr ⟨kvs, j, b, hx, rfl, eb, by rw [sizeLine_eq]; exact hz, rfl⟩, fin (d' := .dit (putKs (kvs.map (·.1)) j) (putDs (kvs.map (·.1)) vs j dz)) rfl ⟨_, upd_same, put_keys _ _ _, (put_vals r' s7).gw (Gw.wr (List.mem_cons_self ..) nt)⟩ w10⟩
          | _ => cases hdc
        | false =>
          rw [if_neg Bool.false_ne_true] at c5 ⊢
          have g35 := g3.trans g5
          exact ⟨hlt, dd, hdc, hD.mv (fun o eo => g35.gw.keep _ _ dW eo) fun _ _ r => r.gw (en.bw.gw g35), c5, en.gs g35, g.trans g35⟩
    · have hi2 : i = ds.length := by omega
      subst hi2
      rw [List.drop_length] at w2
      exact .inl ⟨wk.stops H2 (kp g), q Dl dd H2 (g1.trans g) (g1.gw.free _ nD) hD w2⟩
end
end VB
namespace VB
open PySem PySem.Spec PyProof.Rows L2
/-- each text once -/
def disS : List Str → List Str
  | [] => []
  | x :: xs => if x ∈ xs then disS xs else x :: disS xs
theorem disS_mem {z : Str} : ∀ {xs : List Str}, z ∈ disS xs ↔ z ∈ xs
  | [] => Iff.rfl
  | x :: xs => by
    unfold disS
    by_cases h : x ∈ xs
    · rw [if_pos h, disS_mem, List.mem_cons]
      exact ⟨.inr, fun m => m.elim (fun e => e ▸ h) id⟩
    · rw [if_neg h, List.mem_cons, List.mem_cons, disS_mem]
theorem disS_nodup : ∀ xs : List Str, (disS xs).Nodup
  | [] => List.Pairwise.nil
  | x :: xs => by
    unfold disS
    by_cases h : x ∈ xs
    · rw [if_pos h]
      exact disS_nodup xs
    · rw [if_neg h]
      exact List.nodup_cons.mpr ⟨fun m => h (disS_mem.mp m), disS_nodup xs⟩
theorem disS_len {xs ys : List Str} (mem : ∀ z, z ∈ ys ↔ z ∈ xs) (nd : ys.Nodup) : ys.length = (disS xs).length := by
  have h1 := nodup_le nd fun z m => disS_mem.mpr ((mem z).mp m)
  have h2 := nodup_le (disS_nodup xs) fun z m => (mem z).mpr (disS_mem.mp m)
  omega
def D.lenSet (d : D) : M D := match d.txs with
  | some zs => if zs.length < 4000 then .ret (.int (disS zs).length) else .fail
  | none => .fail
theorem RE.lenSet {K : PySem.W.Frag} {Pg : Program} {w : World} {ρ : List En} {te : TE} {md : M D} (h : RR K te ρ md) : RE K (tCB (rLenX Pg w) (tCons (tCB (rSetX K Pg w) (tCons te tNil)) tNil)) ρ (md.bind D.lenSet) := fun P w1 B W H σ e Q q =>
  h _ (wp_bind.mp w1) B W H σ e _ fun v d H1 g1 s1 w2 => by
    cases ed : d.txs with
    | none =>
      rw [D.lenSet, ed] at w2
      exact w2.elim
    | some zs =>
      rw [D.lenSet, ed] at w2
      obtain ⟨hz, w3⟩ := wp_ite w2
      show rSetX K Pg w [v] H1 fun x H2 => rLenX Pg w [x] H2 Q
      refine setX_ofR s1 (txs_at ed) hz fun a ys na mem nd => ⟨a, ys, rfl, upd_same, ?_⟩
      rw [disS_len mem nd]
      exact q _ _ _ (g1.trans (Gs.new na)) (.int _) w3
def tupTy : Value → Bool
  | .type t => t == "tuple"
  | _ => false
def etB (p : Str × Option Str) (i : Nat) (K : PySem.W.Frag) : Bool := match K.lookup (He.dflAt p i K) with
  | some ⟨cl, _, .seq its _, _⟩ => tupTy cl && its.isEmpty
  | _ => false
theorem etB_ok {p : Str × Option Str} {i : Nat} {K : PySem.W.Frag} (h : etB p i K = true) : ∀ H : Hp, SqT K H (He.dflAt p i K) [] := fun H => by
  unfold etB at h
  generalize He.dflAt p i K = a at h ⊢
  cases e : K.lookup a with
  | none =>
    rw [e] at h
    cases h
  | some o =>
    rw [e] at h
    obtain ⟨cl, dc, dt, sl⟩ := o
    cases dt with
    | seq its n =>
      have h : (tupTy cl && its.isEmpty) = true := h
      obtain ⟨h1, h2⟩ := He.ba h
      have e3 : its = #[] := Array.isEmpty_iff.mp h2
      subst e3
      cases cl with
      | type t =>
        have e4 : t = "tuple" := beq_iff_eq.mp (show (t == "tuple") = true from h1)
        subst e4
        exact .inr ⟨_, #[], n, e, rfl, rfl, Nat.zero_le _, .nil⟩
      | _ => cases h1
    | _ => cases h
end VB
namespace VB
open PySem PySem.Spec PySem.W PyProof.Rows L2
end VB
namespace VB
open PySem PySem.Spec PyProof.Rows L2
end VB
namespace VB
open PySem PySem.Spec PyProof.Rows L2
def rSortA (K : PySem.W.Frag) : List V → Hp → VK → Prop := fun vs H Q => ∃ (a : Addr) (xs : List V) (ds : List PyData), vs = [.ref a] ∧ (SqL K H a xs ∨ SqT K H a xs) ∧
  xs.length = ds.length ∧ (∀ (j : Nat) (x : V), xs[j]? = some x → ∃ d, ds[j]? = some d ∧ Dp K H x d) ∧ PySem.W.AllAlike ds ∧ PySem.W.Sortable ds ∧ (∀ d ∈ ds, d.depth ≤ 30) ∧
  ∀ (l : Addr) (zs : List (V × Nat)), H l = none → zs.map (·.2) = (List.range ds.length).mergeSort (PySem.W.dataLe false fun j => ds.getD j .none) → (∀ z ∈ zs, xs[z.2]? = some z.1) → Q (.ref l) (upd H l (.lst (zs.map (·.1))))
theorem vals_at : ∀ {xs : List V} {us : List Value}, Vals xs us → ∀ {j : Nat} {u : Value}, us[j]? = some u → ∃ x, xs[j]? = some x ∧ RelV x u
  | _, _, .nil, j, u, e => by simp at e
  | _, _, .cons h r, 0, u, e => by
    simp at e
    subst e
    exact ⟨_, rfl, h⟩
  | _, _, .cons h r, j + 1, u, e => by
    obtain ⟨x, e1, e2⟩ := vals_at r (j := j) (u := u) (by simpa using e)
    exact ⟨x, by simpa using e1, e2⟩
theorem cr_sortA {X : Cx} {K : PySem.W.Frag} (hK : X.K = K) (hu : X.A.units + 64 < cLine) : CallR X (.builtin "sorted") (rSortA K) := by
  subst hK
  intro pins s σ H vs us Q I r h
  obtain ⟨a, xs, ds, rfl, hq, lx, hat, hal, hks, hdep, q⟩ := h
  obtain rfl := Vals.ref1 r
  obtain ⟨its, rv, T, o, n, hT, ho, hc, hd, hz⟩ : ∃ (its : List Value) (_ : Vals xs its) (T : String) (o : Obj) (n : Nat), (T = "list" ∨ T = "tuple") ∧ s.heap.get? a = some o ∧ o.cls = .type T ∧ o.data = .seq its.toArray n ∧ its.length ≤ sizeLine := by
    rcases hq with hq | hq
    · obtain ⟨its, rv, ⟨o, n, e, c, _, d⟩, z⟩ := I.list hq
      exact ⟨its, rv, "list", o, n, .inl rfl, e, c, d, by rw [← rv.length]; exact z⟩
    · obtain ⟨its, rv, ⟨o, e, c, n, d⟩, z⟩ := I.tuple hq
      exact ⟨its, rv, "tuple", o, n, .inr rfl, e, c, d, by rw [← rv.length]; exact z⟩
  have li : its.length = ds.length := by rw [← rv.length]; exact lx
  refine Calls.call_function_entry kind_sorted plain_sorted entry_sorted (args_sorted1 _) ?_
  unfold Builtin.«sorted»
  refine wpAny_bind (m := checkCount "sorted" 1 1 _) (wpAny_pure ?_)
  refine wpAny_bind (wpAny_collect_seq (A := X.A.in1) a hT ho hc hd (fun h' k1 => ?_) (by rw [List.size_toArray]; exact hz))
  refine wpAny_bind (wpAny_newList ?_ (by simpa using hz))
  rw [List.toList_toArray]
  refine wpAny_bind (wpAny_holding ?_)
  have old : ∀ b ob, s.heap.get? b = some ob → (h'.push { cls := .type "list", data := .seq its.toArray }).get? b = some ob := fun b ob e => Heap.get?_push_of_some _ (k1 b ob e)
  have eL : (h'.push { cls := .type "list", data := .seq its.toArray }).get? h'.objs.size = some (seqObj "list" its.toArray 0) := Heap.get?_push_size _ rfl
  have I1 : Inv X pins σ H { s with heap := h' } := I.kept (t' := s.toks) k1
  have rd : ∀ (j : Nat) (u : Value), its[j]? = some u → ∃ bs, Reads (h'.push { cls := .type "list", data := .seq its.toArray }) u (ds.getD j .none) bs ∧ h'.objs.size ∉ bs := fun j u e => by
    obtain ⟨x, ex, rx⟩ := vals_at rv e
    obtain ⟨d, ed, dp⟩ := hat j x ex
    obtain ⟨bs, rb⟩ := Dp.reads I d x u dp rx
    rw [List.getD_eq_getElem?_getD, ed]
    refine ⟨bs, PyProof.Rows.Reads.keeps old rb, fun m => ?_⟩
    exact absurd (reads_low d u bs (alike_noDict d (hal d (List.mem_of_getElem? ed) d (List.mem_of_getElem? ed))) (PyProof.Rows.Reads.keeps k1 rb) _ m) (Nat.lt_irrefl _)
  have eR : PySem.W.EachIs (fun (v : Value) (j : Nat) => its[j]? = some v) its (List.range ds.length) := each_of_ix (by rw [List.length_range, li]) fun i v j e1 e2 => by
    have := (List.getElem?_eq_some_iff.mp e2).1
    rw [List.length_range] at this
    rw [List.getElem?_range this] at e2
    cases e2
    exact e1
  have eD : (List.range ds.length).map (fun j => ds.getD j .none) = ds := by
    refine List.ext_getElem (by simp) fun i g1 g2 => ?_
    simp [List.getElem?_eq_getElem g2]
  refine PySem.W.list_sort_data (s := { s with heap := h'.push { cls := .type "list", data := .seq its.toArray } }) (R := fun (v : Value) (j : Nat) => its[j]? = some v) (enc := fun j => ds.getD j .none) (vs := its) (bs := List.range ds.length) (n := 0) eL eR (eR.mono fun v j z => rd j v z) (by rw [eD]; exact hal) (by rw [eD]; exact hks) (by rw [List.length_range]; omega) (fun j hj => ?_) fun out lo eo => ?_
  · have hj2 : j < ds.length := by simpa using hj
    have := hdep (ds.getD j .none) (by rw [List.getD_eq_getElem?_getD, List.getElem?_eq_getElem hj2]; exact List.getElem_mem hj2)
    show X.A.units + 1 + 1 + _ < cLine
    omega
  · refine wpAny_pure ⟨_, rfl, ?_⟩
    obtain ⟨c, eF⟩ := PyProof.Rows.sortedHeap_at (vs := its) (out := out.toArray) eL
    have kF : ∀ b ob, h'.get? b = some ob → (sortedHeap (h'.push { cls := .type "list", data := .seq its.toArray }) h'.objs.size its out.toArray).get? b = some ob := fun b ob e => (PyProof.Rows.sortedHeap_old (Nat.ne_of_lt (Heap.lt_size e)) (Heap.lt_size (Heap.get?_push_of_some _ e))).trans (Heap.get?_push_of_some _ e)
    have n0 : H h'.objs.size = none := I1.hok.fresh (Nat.le_refl _)
    have I2 : Inv X pins σ H { s with heap := sortedHeap (h'.push { cls := .type "list", data := .seq its.toArray }) h'.objs.size its out.toArray } := I1.kept (t' := s.toks) kF
    generalize hjs : (List.range ds.length).mergeSort (PySem.W.dataLe false fun j => ds.getD j .none) = js at eo
    have lj : js.length = ds.length := by rw [← hjs, List.length_mergeSort, List.length_range]
    have vj : Vals (js.map fun j => xs.getD j .non) out ∧ ∀ j ∈ js, xs[j]? = some (xs.getD j .non) := by
      clear hjs lj eF kF I2 lo
      induction eo with
      | nil => exact ⟨.nil, fun _ m => nomatch m⟩
      | @cons v j out js h t ih =>
        obtain ⟨x, ex, rx⟩ := vals_at rv h
        have eg : xs.getD j .non = x := by rw [List.getD_eq_getElem?_getD, ex]; rfl
        refine ⟨.cons (show RelV (xs.getD j .non) v from eg.symm ▸ rx) ih.1, fun k m => ?_⟩
        rcases List.mem_cons.mp m with rfl | m
        · rw [eg]
          exact ex
        · exact ih.2 k m
    have I3 : Inv X pins σ (upd H h'.objs.size (.lst (js.map fun j => xs.getD j .non))) { s with heap := sortedHeap (h'.push { cls := .type "list", data := .seq its.toArray }) h'.objs.size its out.toArray } := by
      refine I2.take (h' := sortedHeap (h'.push { cls := .type "list", data := .seq its.toArray }) h'.objs.size its out.toArray) (t' := s.toks) (fun b ob _ e => e) (I1.fpOk (Nat.le_refl _) n0) ⟨?_, out, c, vj.1, eF⟩
      rw [List.length_map]
      omega
    have e1 : (js.map fun j => (xs.getD j .non, j)).map (·.1) = js.map fun j => xs.getD j .non := by
      rw [List.map_map]
      rfl
    have e2 : (js.map fun j => (xs.getD j V.non, j)).map (·.2) = js := by
      rw [List.map_map]
      exact List.map_id _
    have fin := q h'.objs.size (js.map fun j => (xs.getD j .non, j)) n0 (by rw [e2, hjs]) fun z m => by
      obtain ⟨j, mj, rfl⟩ := List.mem_map.mp m
      exact vj.2 j mj
    rw [e1] at fin
    exact ⟨.ref h'.objs.size, _, I3, rfl, fin⟩
/-- no pairs within pairs of nothing: what the order can go by -/
def okKind (ds : List D) : Bool := (ds.all fun d => match d with
    | .tup (_ :: _) => true
    | _ => false) || ds.all fun d => match d with
    | .non => false
    | .tup _ => false
    | _ => true
def D.sortedA (d : D) : M D := match d with
  | .lst ds => if okSort ds = true ∧ okKind ds = true then .ret (.lst (sortD ds)) else .fail
  | .tup ds => if okSort ds = true ∧ okKind ds = true then .ret (.lst (sortD ds)) else .fail
  | .etup => .ret (.lst [])
  | _ => .fail
theorem okKind_s {ds : List D} (pu : ∀ d ∈ ds, d.pu = true) (h : okKind ds = true) : PySem.W.Sortable (ds.map D.py) := by
  rcases Bool.or_eq_true_iff.mp h with h | h
  · refine .inl fun z m => ?_
    obtain ⟨d, md, rfl⟩ := List.mem_map.mp m
    have := List.all_eq_true.mp h d md
    cases d with
    | tup xs =>
      cases xs with
      | nil => cases this
      | cons x xs => exact ⟨x.py, D.pyA xs, rfl⟩
    | _ => cases this
  · refine .inr fun z m => ?_
    obtain ⟨d, md, rfl⟩ := List.mem_map.mp m
    have := List.all_eq_true.mp h d md
    have p := pu d md
    cases d with
    | non => cases this
    | tup _ => cases this
    | ty _ => cases p
    | raw _ => cases p
    | dic _ _ => cases p
    | dit _ _ => cases p
    | din _ _ _ _ => cases p
    | etup => cases p
    | ins _ _ _ => cases p
    | bl b => exact ⟨(fun z => nomatch z), (fun _ z => nomatch z)⟩
    | int b => exact ⟨(fun z => nomatch z), (fun _ z => nomatch z)⟩
    | str b => exact ⟨(fun z => nomatch z), (fun _ z => nomatch z)⟩
    | lst b =>
      unfold D.py
      exact ⟨(fun z => nomatch z), (fun _ z => nomatch z)⟩
theorem sortA_c {K : PySem.W.Frag} : CaN K (rSortA K) (M.one D.sortedA) := .one fun x P w B W H v b s Q q => by
  have go : ∀ {a : Addr} {xs : List V} {ds : List D}, (SqL K H a xs ∨ SqT K H a xs) → SgA K B H xs ds → okSort ds = true ∧ okKind ds = true → P (.lst (sortD ds)) → rSortA K [V.ref a] H Q := fun {a xs ds} hq r ok p => by
    have ok2 : ∀ z ∈ ds, (z.pu = true ∧ z.py.depth ≤ 30) ∧ ∀ y ∈ ds, PySem.W.alike z.py y.py = true := fun z m => by
      have := List.all_eq_true.mp ok.1 z m
      simp only [Bool.and_eq_true, decide_eq_true_eq] at this
      exact ⟨this.1, fun y my => List.all_eq_true.mp this.2 y my⟩
    refine ⟨a, xs, ds.map D.py, rfl, hq, by rw [List.length_map]; exact r.length, fun j x e => ?_, fun z mz y my => ?_, okKind_s (fun d m => (ok2 d m).1.1) ok.2, fun z mz => ?_, fun l zs nl ez hz => ?_⟩
    · obtain ⟨d, ed, sd⟩ := r.getV e
      exact ⟨d.py, by rw [List.getElem?_map, ed]; rfl, sd.dp (ok2 d (List.mem_of_getElem? ed)).1.1⟩
    · obtain ⟨z', mz', rfl⟩ := List.mem_map.mp mz
      obtain ⟨y', my', rfl⟩ := List.mem_map.mp my
      exact (ok2 z' mz').2 y' my'
    · obtain ⟨z', mz', rfl⟩ := List.mem_map.mp mz
      exact (ok2 z' mz').1.2
    · rw [List.length_map] at ez
      have em : sortD ds = zs.map fun z => ds.getD z.2 .non := by
        have e1 : (List.range ds.length).map (fun j => ds.getD j .non) = ds := by
          refine List.ext_getElem (by simp) fun i g1 g2 => ?_
          simp only [List.getElem_map, List.getElem_range, List.getD_eq_getElem?_getD]
          rw [List.getElem?_eq_getElem g2]
          simp
        have e2 := List.map_mergeSort (r := PySem.W.dataLe false fun j => (ds.map D.py).getD j .none) (s := PySem.W.dataLe false D.py) (f := fun j => ds.getD j .non) (l := List.range ds.length) fun i mi j mj => by
          have f : ∀ i, i < ds.length → (ds.map D.py).getD i .none = D.py (ds.getD i .non) := fun i hi => by
            rw [List.getD_eq_getElem?_getD, List.getD_eq_getElem?_getD, List.getElem?_map, List.getElem?_eq_getElem hi]
            rfl
          have hi := f i (List.mem_range.mp mi)
          have hj := f j (List.mem_range.mp mj)
          simp only [PySem.W.dataLe, PySem.W.sortLe, hi, hj]
        rw [e1, ← ez, List.map_map] at e2
        exact e2.symm
      refine q l (.lst (sortD ds)) _ (Gs.new nl) nl ⟨_, upd_same, ?_⟩ p
      rw [em]
      refine (sga_map zs fun z mz => ?_).out nl
      obtain ⟨d, ed, sd⟩ := r.getV (hz z mz)
      rw [List.getD_eq_getElem?_getD, ed]
      exact sd
  cases x with
  | lst ds =>
    obtain ⟨a, xs, rfl, _, h, r⟩ := s
    obtain ⟨ok, p⟩ := wp_ite w
    exact go (.inl (SqL.of h)) r ok p
  | tup ds =>
    obtain ⟨a, xs, rfl, h, r, _⟩ := s.sqT
    obtain ⟨ok, p⟩ := wp_ite w
    exact go (.inr h) r ok p
  | etup =>
    cases (show Sg K B H v .etup from s) with
    | etup hz =>
      have e : sortD [] = [] := by
        unfold sortD
        simp
      exact go (.inr (hz H)) .nil ⟨rfl, rfl⟩ (by rw [e]; exact w)
  | _ => exact w.elim
end VB
namespace VB
open PySem PySem.Spec PyProof.Rows L2
end VB
namespace VB
open PySem PySem.Spec PyProof.Rows L2
def tLockEX (t : TE) : TE := fun σ H Q => tLockE t σ H Q ∨ t σ H Q
theorem pe_lockX {X : Cx} {e : Expr} {t : TE} (h : PE X e t) : PE X e (tLockEX t) := by
  refine ⟨fun pins s σ H Q I hw => ?_⟩
  rcases hw with hw | hw
  · exact (pe_lock h).run pins s σ H Q I hw
  · exact h.run pins s σ H Q I hw
section
variable {K : PySem.W.Frag} {ρ : List En} {i : Nat} {d : D} {t : TE} {m : M D}
def RNL (K : PySem.W.Frag) (i : Nat) (t : TE) (ρ : List En) (m : M D) : Prop := ∀ P : D → Prop, wp m P → ∀ (B W : List Addr) (H : Hp) (σ : L2.St), EnvOk K B W H σ ρ → LkAt i σ H → ∀ Q : VK, (∀ a d H', Gs W H H' → H a = none → OwAt K (a :: B) H' a d → P d → Q (.ref a) H') → t σ H Q
theorem RN.lock (hi : ρ[i]? = some (.dat d)) (hd : ∀ {P : D → Prop}, wp m P → d.isDcA = true) (h : RNL K i t ρ m) : RN K (tLockEX t) ρ m := fun P w B W H σ e Q q => by
  obtain ⟨v, ev, sv⟩ := e.sl i _ hi
  have hdc := hd w
  obtain ⟨a, u, rfl, na, hr, du⟩ : ∃ a u, v = .ref a ∧ a ∉ B ∧ Rd H a u ∧ DcA u := by
    cases sv with
    | dic n h _ _ => exact ⟨_, _, rfl, n, h, .inl (.inl ⟨_, rfl⟩)⟩
    | dit n h _ _ => exact ⟨_, _, rfl, n, h, .inl (.inr ⟨_, rfl⟩)⟩
    | din n h _ _ _ => exact ⟨_, _, rfl, n, h, .inr ⟨_, _, _, rfl⟩⟩
    | _ => cases hdc
  have no : ¬ Own σ ρ a := fun o => na (e.ownB o).1
  have nW : a ∉ W := fun m => na (e.bw.sub a m)
  rcases hr with hr | ⟨od, hr⟩
  · refine .inl ⟨a, u, hr, du.mut, fun od => ?_⟩
    have l1 := Lk.lock du hr od
    have ea : upd H a (.frz od u) a = some (.frz od u) := upd_same
    refine h P w B W _ σ (l1.env e no) ⟨a, od, u, ev, ea, du⟩ _ fun b d' H' g n k p => ?_
    have ek : H' a = some (.frz od u) := g.gw.keep a _ nW ea
    have l2 := Lk.unlock du ek
    have nb : b ≠ a := fun z => by
      rw [z, ea] at n
      cases n
    refine ⟨ek, q b d' _ ⟨⟨fun c o nc hc => ?_, fun c z => l1.none.mp (g.gw.free c (l2.none.mp z)), fun c xs hc => ?_⟩, fun c mc b2 ns nc hc => l2.bag (g.bag c mc b2 ns nc (l1.bag hc))⟩ (l1.none.mp n) (l2.owat nb k) p⟩
    · by_cases z : c = a
      · subst z
        rw [upd_same]
        rw [hr] at hc
        exact hc
      · rw [l2.off c z]
        refine g.gw.keep c o nc ?_
        rw [l1.off c z]
        exact hc
    · exact l2.keep (g.gw.tups c xs (l1.keep hc nd_tup fun _ _ z => nomatch z)) nd_tup fun _ _ z => nomatch z
  · exact .inr (h P w B W H σ e ⟨a, od, u, ev, hr, du⟩ Q q)
theorem RNL.dc {u0 : HO} {wi : TI} {g : TG} {tt : TT} {tk tv : TE} {js : List Nat} (h : RN K (tDcA u0 (iL i wi) g tt tk tv js) ρ m) : RNL K i (tDcA u0 wi g tt tk tv js) ρ m := fun P w B W H σ e l Q q => h P w B W H σ e Q q l
theorem RI.tf {wi : TI} {mi : M (List D)} (h : RI K true wi ρ mi) : RI K false wi ρ mi := fun P w B W H σ e R q => h P w B W H σ e R fun J ds H1 g wk p => q J ds H1 g
  ⟨wk.len, fun i H' hi k => wk.goes i H' hi ⟨fun a o nW nU z => k.kp a o nW (fun z => nomatch z.1) z, k.tups⟩, fun H' k => wk.stops H' ⟨fun a o nW nU z => k.kp a o nW (fun z => nomatch z.1) z, k.tups⟩, fun i H' x H2 hi k y => wk.yields i H' x H2 hi ⟨fun a o nW nU z => k.kp a o nW (fun z => nomatch z.1) z, k.tups⟩ y⟩ p
end
theorem dcw {k : D → M (Option (D × D))} {x d0 : D} {P : D → Prop} (w : wp (x.rowsM.bind fun ds => M.dc k ds d0) P) : x.isDcA = true := rowsM_dc (wp_bind.mp w)
end VB
namespace VB
open PySem PySem.Spec PyProof.Rows L2
def addQ {α : Type} : List Addr → Nat → List Addr → (List Addr → Nat → α) → α
  | [], m, acc, k => k acc m
  | a :: as, m, acc, k => match Nat.testBit m a with
    | true => addQ as m acc k
    | false => HandSHeadRun.frNat (m ||| (1 <<< a)) fun m => addQ as m (a :: acc) k
def expQ {α : Type} (g : Addr → Option Obj) : List Addr → Nat → List Addr → (List Addr → Nat → α) → α
  | [], m, acc, k => k acc m
  | a :: as, m, acc, k => match g a with
    | some o => addQ (He.refsD o) m acc fun acc m => expQ g as m acc k
    | none => expQ g as m acc k
def goQ (g : Addr → Option Obj) : Nat → List Addr → Nat → List Addr → List Addr
  | 0, _, _, out => out
  | n + 1, fr, m, out => expQ g fr m [] fun new m => goQ g n new m (out ++ new)
def asQ (g : Addr → Option Obj) (n : Nat) : List Addr := goQ g n [mainGlobals] (1 <<< mainGlobals) [mainGlobals]
def obsRG (n : Nat) (ex : List (PySem.W.Frag → Bool)) (fa : List He.Fa) (fn : List DefQ) (g : Addr → Option Obj) : AlQ := obsQ ex fa fn (He.frG g (sysModules :: cStatics :: asQ g n))
def hookR (n : Nat) (ex : List (PySem.W.Frag → Bool)) (fa : List He.Fa) (fn : List DefQ) : PySem.W.Hook where
  α := AlQ
  obs := fun s => obsRG n ex fa fn s.heap.get?
  val := fun _ => valQ fn
  says := fun _ h => ∃ K : PySem.W.Frag, K.In h ∧ SaysQ ex fa fn K
  of := fun _ _ e => ⟨_, He.frG_in, e⟩
  keeps := fun _ _ _ ⟨K, hK, c⟩ k => ⟨K, PySem.W.Frag.In.keeps hK k, c⟩
theorem obsRG_eq {n : Nat} {ex : List (PySem.W.Frag → Bool)} {fa : List He.Fa} {fn : List DefQ} {g : Addr → Option Obj} {s : Shared} (h : ∀ a, g a = s.heap.get? a) : obsRG n ex fa fn g = (hookR n ex fa fn).obs s := by
  have e : g = s.heap.get? := funext h
  rw [e]
  rfl
end VB
namespace VB
open PySem PySem.W PySem.Calls PySem.Spec PyProof.Rows L2
section
variable {ex ex2 : List (PySem.W.Frag → Bool)} {fa fa2 : List He.Fa} {fn fn2 : List DefQ} {K : PySem.W.Frag} {n : Nat} {g : Addr → Option Obj}
theorem obsQ_app (h1 : obsQ ex fa fn K = valQ fn) (h2 : obsQ ex2 fa2 fn2 K = valQ fn2) : obsQ (ex ++ ex2) (fa ++ fa2) (fn ++ fn2) K = valQ (fn ++ fn2) := by
  have a := SaysQ.all (show SaysQ ex fa fn K from h1)
  have b := SaysQ.all (show SaysQ ex2 fa2 fn2 K from h2)
  have e1 : fn.map (fun d => fnA K (d.p K)) = fn.map DefQ.val := congrArg (fun z : AlQ => z.2) h1
  have e2 : fn2.map (fun d => fnA K (d.p K)) = fn2.map DefQ.val := congrArg (fun z : AlQ => z.2) h2
  unfold obsQ valQ
  rw [List.all_append, List.all_append, List.all_append, List.map_append, List.map_append, e1, e2, a.1, a.2.1, a.2.2.1, a.2.2.2, b.2.1, b.2.2.1, b.2.2.2]
  rfl
theorem obsRG_app (h1 : obsRG n ex fa fn g = valQ fn) (h2 : obsRG n ex2 fa2 fn2 g = valQ fn2) : obsRG n (ex ++ ex2) (fa ++ fa2) (fn ++ fn2) g = valQ (fn ++ fn2) := obsQ_app h1 h2
/-- one part of the look -/
def RunOb (r : PySem.W.OpenRow) (M n : Nat) (ex : List (PySem.W.Frag → Bool)) (fa : List He.Fa) (fn : List DefQ) (w : World) : Prop :=
  ∀ os : OsState, (HandSHeadRun.endF (HandSHeadRun.stepQ (HandSHeadRun.denQ HandSHeadRun.tabQ) r.prog w) M r.prog w os).map (fun s => obsRG n ex fa fn (HandSHeadRun.getT s)) = some (valQ fn)
variable {r : PySem.W.OpenRow} {q : Program} {M : Nat} {loose : List PySem.Str} {w : World}
theorem RunOb.app (h1 : RunOb r M n ex fa fn w) (h2 : RunOb r M n ex2 fa2 fn2 w) : RunOb r M n (ex ++ ex2) (fa ++ fa2) (fn ++ fn2) w := fun os => by
  obtain ⟨s, hs, v1⟩ := Option.map_eq_some_iff.mp (h1 os)
  have z := h2 os
  rw [hs] at z ⊢
  exact congrArg some (obsRG_app v1 (Option.some.inj z))
end
end VB
namespace VB
open PySem PySem.Spec PyProof.Rows L2
section
variable {X : Cx} {e : Expr} {es : List Expr} {ta : TA} {p1 p2 pos : Pos} {pl : Sem Bool} {x : Str} {C0 : Addr}
theorem pe_veinitC (hg : Gl X x) (hm : X.mg x = some (.ref C0)) (hr : PySem.W.readsIn X.K C0 (.type "type") = true) (hs : PySem.W.specialIn X.K (.ref C0) "__getattribute__" = some (some (.builtin "type.__getattribute__")))
    (ef : PySem.W.findCls X.K (.ref C0) (.type "type") "__init__" = some (.val (.builtin "ValueError.__init__"))) (ha : PA X (e :: es) ta) (hdb : (x == ("__debug__" : Str)) = false := by decide)
    (hc : eval (.Call (.Attribute (.Name x p1) "__init__" p2) (e :: es) [] pos) X.env = (do
      let ov ← eval (.Name x p1) X.env
      standAt p2.atName
      let (f, first) ← holding [ov] (getMethod ov "__init__" pl)
      callWith pos f first (backTo pos (starEach (e :: es) X.env)) (backToKw pos (keywordEach [] X.env))) := by rfl)
    (he : starEach (e :: es) X.env = (false, eval e X.env) :: starEach es X.env := by rfl) (hpl : (backTo pos (starEach es X.env)).any (·.1) = false := by rfl) :
    PE X (.Call (.Attribute (.Name x p1) "__init__" p2) (e :: es) [] pos) (tVeI X.K ta) := by
  refine ⟨fun pins s σ H Q I h => ?_⟩
  refine PySem.W.methodCall_KW (pl := pl) (ld_glob I hg hm ?_ hdb) hc
  refine PySem.W.method_cls I.kIn hs ?_
  refine PySem.W.cls_value I.kIn hr ef (by decide +kernel) ?_
  show wpAny _ _ (callWith pos (Value.builtin "ValueError.__init__") [] (backTo pos (starEach (e :: es) X.env)) []) _ _ _
  refine PyProof.Rows.callWith_method1 (thn (ha.run pos pins _ σ H _ (I.tok _) h) fun us s1 ⟨vs, H1, I1, r1, a, C, ws, ev, hl, T, ea, q⟩ => ?_) he hpl
  subst ev
  cases r1 with
  | @cons _ u0 _ ur ra rw' =>
    obtain rfl : u0 = Value.ref a := ra
    have hlen : ur.length ≤ sizeLine := by
      rw [← Paired.length rw', sizeLine_eq]
      omega
    exact oinit_ok T I1 ea hlen fun s' J => ⟨.non, H1, J, rfl, q⟩
end
end VB
namespace VB
open PySem PySem.Spec PyProof.Rows L2
/-- an error's __init__: it keeps what it is given at f -/
def spEr1 (K : PySem.W.Frag) (C : Addr) (f : Str) : Sp := fun vs H Q _ => ∃ (a : Addr) (v : V), vs = [.ref a, v] ∧ OexC K C ∧ PySem.W.findIn K (.ref C) f = some none ∧ H a = some (exo a C none) ∧
  ∀ dx, H dx = none → dx ≠ a → Q .non (upd (upd H dx (exd dx [(f, v)])) a (exo a C (some dx)))
theorem spEr1_len {K : PySem.W.Frag} {C : Addr} {f : Str} {vs : List V} {H : Hp} {Q : VK} {E : XK} (h : spEr1 K C f vs H Q E) : vs.length = 2 := by
  obtain ⟨a, v, rfl, _⟩ := h
  rfl
theorem er1_body {K : PySem.W.Frag} {C : Addr} {f : Str} {N : List Str} {vs : List V} {H : Hp} {Q : VK} {E : XK} (h : spEr1 K C f vs H Q E) (hN : N.length = 2) :
    tSeq (tDrop (tVeI K (tCons (tVar 0) tNil))) (tOst K f (tVar 0) (tVar 1)) ⟨fun _ H' => Q .non H', Q, fun _ _ => False, fun _ _ => False⟩ (start N vs) H := by
  obtain ⟨a, v, rfl, T, hf, ha, q⟩ := h
  have hs : start N [.ref a, v] = [some (.ref a), some v] := by
    unfold L2.start
    rw [show N.length - [V.ref a, v].length = 0 by rw [hN]; rfl]
    rfl
  rw [hs]
  refine ⟨.ref a, rfl, a, C, [], rfl, by decide, T, ha, ?_⟩
  exact ⟨v, rfl, .ref a, rfl, a, C, rfl, T, hf, .inl ⟨ha, fun dx n ne => q dx n ne⟩⟩
/-- an error in the air: its class, its field -/
structure XAt (K : PySem.W.Frag) (B : List Addr) (H : Hp) (C : Addr) (f : Str) (d : D) (cls : Value) (dd : Option Addr) : Prop where
  cls : cls = .ref C
  at_ : ∃ (x : Addr) (v : V), dd = some x ∧ H x = some (.xd [(f, v)]) ∧ Sg K B H v d
/-- raise C(e) -/
theorem mkO_er {K : PySem.W.Frag} {C : Addr} {f : Str} {B W : List Addr} {H : Hp} {σ : L2.St} {ρ : List En} {te : TE} {m : M D} {Qx : XK} (T : OexC K C) (hf : PySem.W.findIn K (.ref C) f = some none) (he : RE K te ρ m) {P : D → Prop} (w : wp m P)
    (e : EnvOk K B W H σ ρ) (q : ∀ (d : D) (cls : Value) (dd : Option Addr) (H' : Hp), Gs W H H' → XAt K B H' C f d cls dd → P d → Qx cls dd H') : tMkO C (spEr1 K C f) [] (tCons te tNil) σ H Qx := by
  refine he _ w B W H σ e _ fun v d H1 g1 s1 p1 => ?_
  refine ⟨by show 1 ≤ 1000; decide, fun a na => ?_⟩
  refine ⟨a, v, rfl, T, hf, upd_same, fun dx nd ne => ⟨rfl, dx, [(f, v)], upd_same, by rw [upd_ne ne]; exact upd_same, by rwa [upd_ne ne] at nd, ?_⟩⟩
  have nd1 : H1 dx = none := by rwa [upd_ne ne] at nd
  have eh : upd (del (upd (upd (upd H1 a (exo a C none)) dx (exd dx [(f, v)])) a (exo a C (some dx))) a) dx (.xd [(f, v)]) = upd H1 dx (.xd [(f, v)]) := by
    funext b
    by_cases h1 : b = dx
    · rw [h1, upd_same, upd_same]
    · rw [upd_ne h1, upd_ne h1]
      unfold del
      by_cases h2 : b = a
      · rw [if_pos h2, h2, na]
      · rw [if_neg h2, upd_ne h2, upd_ne h1, upd_ne h2]
  rw [eh]
  exact q d (.ref C) (some dx) _ (g1.trans (Gs.new nd1)) ⟨rfl, dx, v, rfl, upd_same, s1.gw (Gw.new nd1)⟩ p1
end VB
namespace VB
open PySem PySem.Spec PyProof.Rows L2
/-- how a def ends: data, or an error of the class C with d at f -/
inductive Xr where
  | ok (d : D) | ex (C : Addr) (f : Str) (d : D)
def Xr.on (P : D → Prop) (PX : Addr → Str → D → Prop) : Xr → Prop
  | .ok d => P d
  | .ex C f d => PX C f d
/-- behind a way that may end so -/
def Xr.then {α : Type} (k : D → M α) (kx : Addr → Str → D → M α) : Xr → M α
  | .ok d => k d
  | .ex C f d => kx C f d
def M.ok (m : M D) : M Xr := m.bind fun d => .ret (.ok d)
def Xr.next (k : D → M Xr) : Xr → M Xr := Xr.then k fun C f d => .ret (.ex C f d)
theorem XAt.less {K : PySem.W.Frag} {B F : List Addr} {H : Hp} {C : Addr} {f : Str} {d : D} {cls : Value} {dd : Option Addr} (s : ∀ a ∈ F, a ∈ B) (x : XAt K B H C f d cls dd) : XAt K F H C f d cls dd := by
  obtain ⟨e, y, v, h1, h2, h3⟩ := x
  exact ⟨e, y, v, h1, h2, h3.less s⟩
/-- the wish about errors, from the heap H on -/
def Xw (K : PySem.W.Frag) (F W : List Addr) (U : Addr → Prop) (H : Hp) (PX : Addr → Str → D → Prop) (E : XK) : Prop := ∀ (cls : Value) (dd : Option Addr) (H' : Hp) (C : Addr) (f : Str) (d : D), Gu W U (fun _ => False) H H' → XAt K F H' C f d cls dd → PX C f d → E cls dd H'
theorem Xw.after {K : PySem.W.Frag} {F W : List Addr} {U U' : Addr → Prop} {H H1 : Hp} {PX : Addr → Str → D → Prop} {E : XK} (q : Xw K F W U H PX E) (g : Gu W U U' H H1) : Xw K F W U' H1 PX E := fun cls dd H' C f d g' => q cls dd H' C f d (g.trans g')
/-- a block that may let an error out -/
def GX (K : PySem.W.Frag) (R : Po → Prop) (E : XK) (t : TS) (ρ : List En) (m : M Xr) (C : Po → D → Prop) : Prop := ∀ (P : Po) (PX : Addr → Str → D → Prop), R P → wp m (Xr.on (C P) PX) →
  ∀ (F B W : List Addr) (H : Hp) (σ : L2.St), EnvOk K B W H σ ρ → Fr F B W σ ρ → ∀ Z : Ends, Cn K F W H σ ρ P.nx Z.nx → Cr K P.fr F W H σ ρ P.rt Z.rt → Cn K F W H σ ρ P.bk Z.bk → Cn K F W H σ ρ P.ct Z.ct → Xw K F W (Own σ ρ) H PX E → t Z σ H
/-- an expression that may let an error out -/
def RX (K : PySem.W.Frag) (E : XK) (te : TE) (ρ : List En) (m : M Xr) : Prop := ∀ (P : D → Prop) (PX : Addr → Str → D → Prop), wp m (Xr.on P PX) → ∀ (B W : List Addr) (H : Hp) (σ : L2.St), EnvOk K B W H σ ρ → ∀ Q : VK,
  (∀ v d H', Gs W H H' → Sg K B H' v d → P d → Q v H') → (∀ cls dd H' C f d, Gs W H H' → XAt K B H' C f d cls dd → PX C f d → E cls dd H') → te σ H Q
section
variable {K : PySem.W.Frag} {E : XK} {R : Po → Prop} {ρ : List En} {te ta : TE} {tt : TT} {t u v : TS} {tl : TA} {m m2 : M Xr} {ma md : M D} {mt : M Bool} {C : Po → D → Prop} {ms : List Md} {A : MA} {C0 : Addr} {f : Str}
theorem GX.of (h : G K R t ρ md C) : GX K R E t ρ (M.ok md) C := fun P PX r w F B W H σ e fr Z q1 q2 q3 q4 _ => h P r (wp_bind.mp w) F B W H σ e fr Z q1 q2 q3 q4
theorem GX.one (h : GX K R E (tSeq t tNext) ρ m C) : GX K R E t ρ m C := h
theorem GX.assoc (h : GX K R E (tSeq t (tSeq u v)) ρ m C) : GX K R E (tSeq (tSeq t u) v) ρ m C := h
theorem GX.next (h : GX K R E v ρ m C) : GX K R E (tSeq tNext v) ρ m C := h
/-- if test: raise C0(e) -/
theorem GX.ifRaise (T : OexC K C0) (hf : PySem.W.findIn K (.ref C0) f = some none) (ht : RT K tt ρ mt) (he : RE K te ρ md) (h : GX K R E v ρ m C) :
    GX K R E (tSeq (tIfS tt (fun _ σ H => tMkO C0 (spEr1 K C0 f) [] (tCons te tNil) σ H E) tNext) v) ρ (mt.bind fun b => if b = true then md.bind fun d => .ret (.ex C0 f d) else m) C := fun P PX r w F B W H σ e fr Z q1 q2 q3 q4 q5 =>
  ht _ (wp_bind.mp w) B W H σ e _ fun b H1 g1 w1 => by
    have e1 := e.gs g1
    have g : Gu W (Own σ ρ) (Own σ ρ) H H1 := .of g1 fun _ o => o
    cases b with
    | true =>
      have w2 : wp (md.bind fun d => .ret (.ex C0 f d)) (Xr.on (C P) PX) := w1
      exact mkO_er T hf he (wp_bind.mp w2) e1 fun d cls dd H' g2 x p => q5 cls dd H' C0 f d (.of (g1.trans g2) fun _ z => z.elim) (x.less fr.fb) p
    | false => exact h P PX r w1 F B W H1 σ e1 fr Z (q1.after g) (q2.after g) (q3.after g) (q4.after g) (q5.after g)
/-- name = e -/
theorem GX.asg {i : Nat} {k : D → M Xr} (he : RE K te ρ md) (h : ∀ d, GX K R E u (ρ.set i (.dat d)) (k d) C) : GX K R E (tSeq (tAsg te (gName i)) u) ρ (md.bind k) C := fun P PX r w F B W H σ e fr Z q1 q2 q3 q4 q5 =>
  he _ (wp_bind.mp w) B W H σ e _ fun x d H1 g1 s1 w1 => by
    obtain ⟨B', e2, f2⟩ := (e.gs g1).setF (i := i) fr s1
    have g : Gu W (Own σ ρ) (Own (σ.set i (some x)) (ρ.set i (.dat d))) H H1 := gu_set g1
    exact h d P PX r w1 F B' W H1 _ e2 f2 Z (q1.after g) (q2.after g) (q3.after g) (q4.after g) (q5.after g)
/-- a call as a statement -/
theorem GX.drop {k : D → M Xr} (he : RX K E te ρ m) (h : ∀ d, GX K R E u ρ (k d) C) : GX K R E (tSeq (tDrop te) u) ρ (m.bind (Xr.next k)) C := fun P PX r w F B W H σ e fr Z q1 q2 q3 q4 q5 =>
  he (fun d => wp (k d) (Xr.on (C P) PX)) PX (wp_mono (wp_bind.mp w) fun o z => match o, z with
    | .ok d, z => z
    | .ex _ _ _, z => z) B W H σ e _ (fun x d H1 g1 s1 w1 => by
      have g : Gu W (Own σ ρ) (Own σ ρ) H H1 := .of g1 fun _ o => o
      exact h d P PX r w1 F B W H1 σ (e.gs g1) fr Z (q1.after g) (q2.after g) (q3.after g) (q4.after g) (q5.after g))
    fun cls dd H' C' f' d g x p => q5 cls dd H' C' f' d (.of g fun _ z => z.elim) (x.less fr.fb) p
theorem GX.ret (hR : ∀ P, R P → P.fr = false) (he : RX K E te ρ m) : GX K R E (tSeq (tRet te) v) ρ m CF := fun P PX r w F B W H σ e fr Z q1 q2 q3 q4 q5 =>
  he _ PX w B W H σ e _ (fun x d H1 g1 s1 p => q2 x d H1 (.of g1 fun _ z => z.elim) (by rw [hR P r]; exact s1.less fr.fb) p) fun cls dd H' C' f' d g x p => q5 cls dd H' C' f' d (.of g fun _ z => z.elim) (x.less fr.fb) p
/-- if test: ..; the rest -/
theorem GX.ifS {m1 : M Xr} (ht : RT K tt ρ mt) (h1 : GX K R E (tSeq t v) ρ m1 C) (h2 : GX K R E (tSeq u v) ρ m2 C) : GX K R E (tSeq (tIfS tt t u) v) ρ (mt.bind fun b => if b = true then m1 else m2) C := fun P PX r w F B W H σ e fr Z q1 q2 q3 q4 q5 =>
  ht _ (wp_bind.mp w) B W H σ e _ fun b H1 g1 w1 => by
    have e1 := e.gs g1
    have g : Gu W (Own σ ρ) (Own σ ρ) H H1 := .of g1 fun _ o => o
    cases b with
    | true => exact h1 P PX r w1 F B W H1 σ e1 fr Z (q1.after g) (q2.after g) (q3.after g) (q4.after g) (q5.after g)
    | false => exact h2 P PX r w1 F B W H1 σ e1 fr Z (q1.after g) (q2.after g) (q3.after g) (q4.after g) (q5.after g)
theorem RX.of (h : RE K te ρ md) : RX K E te ρ (M.ok md) := fun P PX w B W H σ e Q q _ => h P (wp_bind.mp w) B W H σ e Q q
theorem RX.ifx {t1 t2 : TE} {m1 : M Xr} (ht : RT K tt ρ mt) (h1 : RX K E t1 ρ m1) (h2 : RX K E t2 ρ m2) : RX K E (tIf tt t1 t2) ρ (mt.bind fun b => if b = true then m1 else m2) := fun P PX w B W H σ e Q q qx =>
  ht _ (wp_bind.mp w) B W H σ e _ fun b H1 g1 w1 => by
    cases b with
    | true => exact h1 P PX w1 B W H1 σ (e.gs g1) Q (fun v d H' g => q v d H' (g1.trans g)) fun cls dd H' C f d g => qx cls dd H' C f d (g1.trans g)
    | false => exact h2 P PX w1 B W H1 σ (e.gs g1) Q (fun v d H' g => q v d H' (g1.trans g)) fun cls dd H' C f d g => qx cls dd H' C f d (g1.trans g)
/-- (e, f(..)): the last part may raise -/
theorem RX.tup2 {t1 t2 : TE} {m1 : M D} (h1 : RE K t1 ρ m1) (h2 : RX K E t2 ρ m2) : RX K E (tTup (tCons t1 (tCons t2 tNil))) ρ (m1.bind fun x => m2.bind (Xr.next fun y => .ret (.ok (.tup [x, y])))) := fun P PX w B W H σ e Q q qx =>
  h1 _ (wp_bind.mp w) B W H σ e _ fun v x H1 g1 s1 w1 => by
    have e1 := e.gs g1
    refine h2 (fun y => P (.tup [x, y])) PX (wp_mono (wp_bind.mp w1) fun o z => match o, z with
      | .ok d, z => z
      | .ex _ _ _, z => z) B W H1 σ e1 _ (fun z y H2 g2 s2 p => ⟨by show 2 ≤ _; rw [sizeLine_eq]; decide, fun a na => ?_⟩) fun cls dd H' C f d g => qx cls dd H' C f d (g1.trans g)
    have e2 := e1.gs g2
    have r : SgA K B H2 [v, z] [x, y] := .cons (s1.gw (e1.bw.gw g2)) (.cons s2 .nil)
    have gn : Gs W H2 (upd H2 a (.tup [v, z])) := Gs.new na
    exact q _ _ _ ((g1.trans g2).trans gn) (.tup trivial upd_same (r.gw (Gw.new na))) p
end
/-- a def that hands data back or lets an error out -/
def spMX (K : PySem.W.Frag) (ms : List Md) (m : List D → M Xr) : Sp := fun vs H Q E => ∃ (B W : List Addr) (ds : List D) (P : D → Prop) (PX : Addr → Str → D → Prop), BW B W H ∧ AmA K B W H ms vs ds ∧ wp (m ds) (Xr.on P PX) ∧
  (∀ v d H', Gs W H H' → Sg K B H' v d → P d → Q v H') ∧ ∀ cls dd H' C f d, Gs W H H' → XAt K B H' C f d cls dd → PX C f d → E cls dd H'
section
variable {K : PySem.W.Frag} {E : XK} {ρ : List En} {te : TE} {ta : TA} {ms : List Md} {A : MA} {m : List D → M Xr}
theorem RX.call (h : RAm K ta ρ ms A) : RX K E (tCall (spMX K ms m) [] E ta) ρ (A Xr m) := fun P PX w B W H σ e Q q qx => h Xr m _ w B W H σ e _ fun vs ds H1 g1 s1 w1 =>
  ⟨B, W, ds, P, PX, (e.gs g1).bw, by rw [List.append_nil]; exact s1, w1, fun v d H2 g2 s p => q v d H2 (g1.trans g2) s p, fun cls dd H2 C f d g2 x p => qx cls dd H2 C f d (g1.trans g2) x p⟩
end
/-- an __init__ that may raise -/
def spMIX (K : PySem.W.Frag) (C : Addr) (ms : List Md) (m : List D → M Xr) : Sp := fun vs H Q E => ∃ (B W : List Addr) (ds : List D) (P : D → Prop) (PX : Addr → Str → D → Prop) (x dx : Addr) (ws : List V), vs = .ref x :: ws ∧ H x = some (.ins C dx []) ∧ x ∉ B ∧ (∀ b ∈ W, b ∈ B) ∧ BW (x :: B) W H ∧
  AmA K (x :: B) W H ms ws ds ∧ NoX x ms ws ds ∧ wp (m ds) (Xr.on P PX) ∧
  (∀ d H', (∀ a o, a ∉ W → a ≠ x → H a = some o → H' a = some o) → (∀ a, H' a = none → H a = none) → (∀ a xs, H a = some (.tup xs) → H' a = some (.tup xs)) → (∀ b, b ∈ W → ∀ c ns, c ∉ W → c ≠ x → BagC H b c ns → BagC H' b c ns) → OwAt K (x :: B) H' x d → P d → Q .non H') ∧
  ∀ cls dd H' C' f d, (∀ a o, a ∉ W → a ≠ x → H a = some o → H' a = some o) → (∀ a, H' a = none → H a = none) → (∀ a xs, H a = some (.tup xs) → H' a = some (.tup xs)) → (∀ b, b ∈ W → ∀ c ns, c ∉ W → c ≠ x → BagC H b c ns → BagC H' b c ns) → XAt K B H' C' f d cls dd → PX C' f d → E cls dd H'
theorem spMIX_len {K : PySem.W.Frag} {C : Addr} {ms : List Md} {m : List D → M Xr} {vs : List V} {H : Hp} {Q : VK} {E : XK} (h : spMIX K C ms m vs H Q E) : vs.length = ms.length + 1 := by
  obtain ⟨_, _, _, _, _, _, _, _, rfl, _, _, _, _, a, _⟩ := h
  show _ + 1 = _
  rw [a.len.1]
section
variable {K : PySem.W.Frag} {E : XK} {ρ : List En} {te : TE} {tl : TA} {ms ms2 : List Md} {A : MA} {l : List D → M Xr} {C : Addr}
theorem RX.makeD {dvs : List V} {dds : List D} (h : RAm K tl ρ ms A) (hd : Dfs K ms2 dvs dds) : RX K E (tMake C (spMIX K C (ms ++ ms2) l) dvs E tl) ρ (A Xr fun ds => l (ds ++ dds)) := fun P PX w B W H σ e Q q qx =>
  h Xr _ _ w B W H σ e _ fun vs es H1 g1 s1 w1 x dx nx ndx ne => by
    have e1 := e.gs g1
    have xB : x ∉ B := e1.bw.notNew nx
    have nx1 : upd H1 dx (.own x) x = none := by
      rw [upd_ne ne.symm]
      exact nx
    have g2 : Gs W H1 (upd (upd H1 dx (.own x)) x (.ins C dx [])) := (Gs.new ndx).trans (Gs.new nx1)
    have g := g1.trans g2
    have s2 := (s1.append (hd B W H1)).gs e1.bw.sub (Gs.new (p := dx) (o := .own x) ndx)
    have e3 : EnvOk K (x :: B) W (upd (upd H1 dx (.own x)) x (.ins C dx [])) σ ρ := (e1.gs (Gs.new ndx)).out nx1
    have nH : H x = none := g1.gw.free x nx
    have gs : ∀ H2, (∀ a o, a ∉ W → a ≠ x → upd (upd H1 dx (.own x)) x (.ins C dx []) a = some o → H2 a = some o) → (∀ a, H2 a = none → upd (upd H1 dx (.own x)) x (.ins C dx []) a = none) → (∀ a xs, upd (upd H1 dx (.own x)) x (.ins C dx []) a = some (.tup xs) → H2 a = some (.tup xs)) →
        (∀ b, b ∈ W → ∀ c ns, c ∉ W → c ≠ x → BagC (upd (upd H1 dx (.own x)) x (.ins C dx [])) b c ns → BagC H2 b c ns) → Gs W H H2 := fun H2 hk hf ht hg => by
      refine ⟨⟨fun a o na ea => ?_, fun a ea => g.gw.free a (hf a ea), fun a xs ea => ht a xs (g.gw.tups a xs ea)⟩, fun b mb c ns nc hB => ?_⟩
      · refine hk a o na (fun z => ?_) (g.gw.keep a o na ea)
        rw [z, nH] at ea
        cases ea
      · refine hg b mb c ns nc (fun z => ?_) (g.bag b mb c ns nc hB)
        have := hB.2.1
        rw [z, nH] at this
        cases this
    exact ⟨B, W, es ++ dds, P, PX, x, dx, vs ++ dvs, rfl, upd_same, xB, e1.bw.sub, e3.bw, s2.out nx1 e1.bw.sub, nox_of nx1 s2, w1,
      fun d H2 hk hf ht hg k p => ⟨rfl, q _ d H2 (gs H2 hk hf ht hg) (k.sg (fun a m => List.mem_cons_of_mem _ m) xB) p⟩,
      fun cls dd H2 C' f d hk hf ht hg xa p => qx cls dd H2 C' f d (gs H2 hk hf ht hg) xa p⟩
theorem RX.make (h : RAm K tl ρ ms A) : RX K E (tMake C (spMIX K C ms l) [] E tl) ρ (A Xr l) := by
  have z := RX.makeD (E := E) (C := C) (l := l) h (dfs_nil (K := K))
  simp only [List.append_nil] at z
  exact z
theorem RX.makeE {m : M Xr} (h : RAm K tl ρ ms A) (e : A Xr l = m) : RX K E (tMake C (spMIX K C ms l) [] E tl) ρ m := e ▸ RX.make h
end
theorem body_MIX {K : PySem.W.Frag} {C : Addr} {ms : List Md} {N : List Str} {t : TS} {vs : List V} {H : Hp} {Q : VK} {E : XK} {m : List D → M Xr} (h : spMIX K C ms m vs H Q E) (hN : ms.length + 1 ≤ N.length)
    (hb : ∀ ds x, Mds ms ds → ∃ ρ, En.own ⟨some x, .ins C [] []⟩ :: (List.zipWith Md.en ms ds ++ List.replicate (N.length - 1 - ms.length) .no) = ρ ∧ GX K (fun P => P.fr = false) E t ρ (m ds) fun P d => ∀ ρ', ρ'[0]? = some (.own ⟨some x, d⟩) → P.nx ρ') :
    t ⟨fun _ H' => Q .non H', Q, fun _ _ => False, fun _ _ => False⟩ (start N vs) H := by
  obtain ⟨B, W, ds, P, PX, x, dx, ws, rfl, hx, xB, wB, bw, a, nx, w, q, qx⟩ := h
  obtain ⟨ρ, rfl, hb⟩ := hb ds x a.mds
  have hl := a.len
  have zl : (List.zipWith Md.en ms ds).length = ms.length := by rw [List.length_zipWith, hl.2, Nat.min_self]
  have hst : start N (.ref x :: ws) = some (.ref x) :: (ws.map some ++ List.replicate (N.length - 1 - ms.length) none) := by
    unfold L2.start
    rw [List.map_cons, List.length_cons, hl.1]
    rw [show N.length - (ms.length + 1) = N.length - 1 - ms.length by omega]
    rfl
  have nO := ams_own (ms := ms) (ds := ds) (n := N.length - 1 - ms.length)
  have own0 : ∀ a, Own (start N (.ref x :: ws)) (En.own ⟨some x, .ins C [] []⟩ :: (List.zipWith Md.en ms ds ++ List.replicate (N.length - 1 - ms.length) .no)) a ↔ a = x := fun a => by
    rw [hst]
    constructor
    · rintro ⟨i, d, h1, h2⟩
      cases i with
      | zero =>
        cases h2
        rfl
      | succ i =>
        have := List.all_eq_true.mp nO _ (List.mem_of_getElem? (show _ = some (En.own d) from h1))
        cases this
    · rintro rfl
      exact ⟨0, _, rfl, rfl⟩
  have bx : ¬ Bor (start N (.ref x :: ws)) (En.own ⟨some x, .ins C [] []⟩ :: (List.zipWith Md.en ms ds ++ List.replicate (N.length - 1 - ms.length) .no)) x := by
    rw [hst]
    rintro ⟨i, d, h1, hr, h2⟩
    cases i with
    | zero => cases h1
    | succ i =>
      have h1 : (List.zipWith Md.en ms ds ++ List.replicate (N.length - 1 - ms.length) .no)[i]? = some (.bor d) := h1
      have h2 : (ws.map some ++ List.replicate (N.length - 1 - ms.length) none)[i]? = some (some (.ref x)) := h2
      have hi : i < ms.length := by
        rcases Nat.lt_or_ge i ms.length with z | z
        · exact z
        · rw [List.getElem?_append_right (by rw [zl]; exact z)] at h1
          have := (List.mem_replicate.mp (List.mem_of_getElem? h1)).2
          cases this
      rw [List.getElem?_append_left (by rw [zl]; exact hi)] at h1
      rw [List.getElem?_append_left (by rw [List.length_map, hl.1]; exact hi)] at h2
      refine nox_env a nx i d h1 hr ?_
      rw [List.getElem?_map] at h2
      cases ew : ws[i]? with
      | none =>
        rw [ew] at h2
        cases h2
      | some v =>
        rw [ew] at h2
        cases h2
        rfl
  refine hb ⟨fun ρ' => ∃ d, ρ'[0]? = some (.own ⟨some x, d⟩) ∧ P d, fun _ => False, fun _ => False, fun _ => False, false⟩ PX rfl (wp_mono w fun o p => match o, p with
    | .ok d, p => fun ρ' h0 => ⟨d, h0, p⟩
    | .ex _ _ _, p => p) B (x :: B) W H _ ⟨bw, ?_, fun i en hi => ?_, fun i j d1 d2 a h1 h2 h3 h4 => ?_, fun a o b => ?_⟩
    ⟨fun a m => List.mem_cons_of_mem _ m, fun a m => ?_, fun a m o => ?_, wB⟩ _ (fun ρ' σ' H' B' g e' f' pp => ?_) (fun _ _ _ _ _ z => z.elim) (fun _ _ _ _ _ _ _ z => z.elim) (fun _ _ _ _ _ _ _ z => z.elim)
    fun cls dd H' C' f d g xa p => qx cls dd H' C' f d (fun b o nw nx e => g.keep b o nw (fun z => nx ((own0 b).mp z)) e) g.free g.tups (fun b m c ns nc nx h => g.bag b m c ns nc (fun z => nx ((own0 c).mp z)) h) xa p
  · rw [hst]
    simp [hl.1, zl]
  · rw [hst]
    cases i with
    | zero =>
      cases hi
      exact ⟨x, rfl, List.mem_cons_self .., fun m => xB (wB x m), (fun b z => (Option.some.inj z).symm), dx, [], hx, rfl, .nil⟩
    | succ i =>
      have hi : (List.zipWith Md.en ms ds ++ List.replicate (N.length - 1 - ms.length) .no)[i]? = some en := hi
      show EnOk K (x :: B) W H ((ws.map some ++ List.replicate (N.length - 1 - ms.length) none)[i]?) en
      by_cases hlt : i < ms.length
      · rw [List.getElem?_append_left (by rw [zl]; exact hlt)] at hi
        rw [List.getElem?_append_left (by rw [List.length_map, hl.1]; exact hlt)]
        exact ams_env a i en hi
      · rw [List.getElem?_append_right (by rw [zl]; omega), List.getElem?_replicate] at hi
        split at hi
        · cases hi
          trivial
        · cases hi
  · have z : ∀ (k : Nat) (d : Ow), (En.own ⟨some x, .ins C [] []⟩ :: (List.zipWith Md.en ms ds ++ List.replicate (N.length - 1 - ms.length) .no))[k]? = some (.own d) → k = 0 := fun k d hk => by
      cases k with
      | zero => rfl
      | succ k =>
        have := List.all_eq_true.mp nO _ (List.mem_of_getElem? (show _ = some (En.own d) from hk))
        cases this
    rw [z i d1 h1, z j d2 h2]
  · rw [(own0 a).mp o] at b
    exact bx b
  · rcases List.mem_cons.mp m with z | z
    · exact .inr ((own0 a).mpr z)
    · exact .inl z
  · exact xB ((own0 a).mp o ▸ m)
  · obtain ⟨d, h0, pp⟩ := pp
    obtain ⟨a, ea, aB, aW, tg, k⟩ := e'.sl 0 _ h0
    have ax : x = a := tg x rfl
    subst ax
    refine q d H' (fun b o nw nx e => g.keep b o nw (fun z => nx ((own0 b).mp z)) e) g.free g.tups (fun b m c ns nc nx h => g.bag b m c ns nc (fun z => nx ((own0 c).mp z)) h) (k.mv (fun _ z => z) fun _ _ r => r.less fun b m => ?_) pp
    rcases List.mem_cons.mp m with z | z
    · rw [z]
      exact aB
    · exact f'.fb b z
end VB
namespace VB
open PySem PySem.Spec PyProof.Rows L2
/-- isinstance(e, c), isinstance(e, (c1, ..)): e the error that the suite holds, with a field -/
def rIsX (K : PySem.W.Frag) (a : Addr) (cls : Value) (dd : Option Addr) : List V → Hp → VK → Prop := fun xs H Q => ∃ (C x : Addr) (fs : List (Str × V)), cls = .ref C ∧ dd = some x ∧ H x = some (.xd fs) ∧ L2.ExcC K C ∧
  ((∃ (c : V) (u : Value) (b : Bool), xs = [.ref a, c] ∧ ClsV c u ∧ PySem.W.kitOne K (.ref C) u = some b ∧ Q (.bl b) H) ∨
    ∃ (tp : Addr) (cs : List V) (us : List Value) (b : Bool), xs = [.ref a, .ref tp] ∧ H tp = some (.tup cs) ∧ Paired ClsV cs us ∧ PySem.W.kitAny K (.ref C) us = some b ∧ Q (.bl b) H)
theorem call_isX {X : Cx} {a : Addr} {oe : Obj} {cls : Value} {dd : Option Addr} {pn : List (Addr × Obj)} (hz : Zc cls dd oe) (hf : ∃ vs, oe.data = .fields vs) : CallR (X.suite a ((a, oe) :: pn)) (.builtin "isinstance") (rIsX X.K a cls dd) := by
  intro pins s σ H xs us Q I r h
  obtain ⟨C, x, fs, rfl, rfl, hx, T, h⟩ := h
  obtain ⟨hg, _⟩ := I.pin (a, oe) (List.mem_append.mpr (.inl List.mem_cons_self))
  obtain ⟨vs, hv⟩ := hf
  obtain ⟨mA, hns, _⟩ := (show ObjOk X.prog X.w H s.heap x (.xd fs) from I.hok x _ hx)
  obtain ⟨od, ho, _⟩ := lookIn_ns hns
  have J : PySem.W.InstAt s.heap a oe C (some od) := ⟨hg, hz.1, (by unfold PySem.W.notCls; rw [hv] <;> rfl), (by rw [hz.2]; exact ho)⟩
  have hcl : (PySem.W.clsIn X.K C).isSome = true := by
    obtain ⟨cd, hc, _⟩ := PySem.W.any_some T.hd
    rw [hc] <;> rfl
  have kx := PySem.W.kitx_exc (x := a) (ox := oe) (od := some od) hcl T.hg T.hk T.hs T.ha T.hn T.ht T.hm
  rcases h with ⟨c, u, b, rfl, hc, e, q⟩ | ⟨tp, cs, ws, b, rfl, hT, hp, e, q⟩
  · obtain ⟨u1, u2, rfl, r1, r2⟩ := vals2 r
    cases (show u1 = Value.ref a from r1)
    have e2 := hc.eq r2
    subst e2
    exact PySem.W.kia_one kx I.kIn J e (fun z => nomatch z) fun tk => ⟨.bl b, H, I.tok tk, rfl, q⟩
  · obtain ⟨u1, u2, rfl, r1, r2⟩ := vals2 r
    cases (show u1 = Value.ref a from r1)
    cases (show u2 = Value.ref tp from r2)
    obtain ⟨_, its, rv, o, h1, h2, n, h3⟩ := (show ObjOk X.prog X.w H s.heap tp (.tup cs) from I.hok tp _ hT)
    have e3 := ClsV.all hp rv
    subst e3
    obtain ⟨oc, od', dt, sl⟩ := o
    simp only at h2 h3
    subst h2 h3
    exact PySem.W.kia_tup kx I.kIn J h1 e (fun z => nomatch z) fun tk => ⟨.bl b, H, I.tok tk, rfl, q⟩
/-- the wish of what stands within a try: whatever the slots are -/
def EW (W : WX) (n : Nat) : XK := fun cls dd H => ∀ σ : L2.St, σ.length = n → W cls dd σ H
theorem passW {X : Cx} {W : WX} {n : Nat} (tk : Takes X W) (hn : X.N.length = n) : Passes (L2.CX X.prog X.w) X (EW W n) := fun pins σ H s u s' I c => tk u s' (XE.of_call I (fun cls dd H' h => h σ (I.len.trans hn)) c)
theorem take_none {X : Cx} : Takes X (fun _ _ _ _ => False) := fun u s' ⟨_, _, _, _, _, _, _, _, _, _, _, _, _, _, _, _, w⟩ => w.elim
/-- what an except suite does that hands data back: of an error of C0 with d at f -/
def SuX (K : PySem.W.Frag) (C0 : Addr) (f : Str) (n i : Nat) (ts : Addr → Value → Option Addr → TS) (k : D → M D) : Prop := ∀ (a x : Addr) (v : V) (d : D) (B W : List Addr) (H : Hp) (σ : L2.St) (P : D → Prop), σ.length = n → BW B W H → H a = none → H x = some (.xd [(f, v)]) → Sg K B H v d → wp (k d) P →
  ∀ Z : Ends, (∀ u e H', Gs W H H' → Sg K B H' u e → P e → Z.rt u H') → ts a (.ref C0) (some x) Z (σ.set i (some (.ref a))) H
/-- the reading of it: te stands for what is returned, whatever the wish about errors -/
def tTry1 (K : PySem.W.Frag) (c : Value) (i : Nat) (ts : Addr → Value → Option Addr → TS) (Wout : WX) (n : Nat) (te : XK → TE) : TS := fun Z σ H => tRet (te (EW (wAs K c i ts Wout Z) n)) Z σ H
theorem ps_try1 {X : Cx} {x nm : Str} {c : Value} {i n : Nat} {e : Expr} {suite : List Stmt} {b0 : Stmt} {np rp pos pos' : Pos} {te : XK → TE} {ts : Addr → Value → Option Addr → TS} {Wout : WX} (h1 : X.stack = X.env :: X.outer) (h2 : X.env.frame = some X.env.locals) (h3 : X.N.Nodup) (h4 : X.N[i]? = some nm)
    (h5 : X.env.kindOf nm = some .local) (hc : Names X x c) (tk : Takes X Wout) (hn : X.N.length = n)
    (he : ∀ (E : XK) (pn : List (Addr × Obj)) (xe : Value → Shared → Prop), Passes (L2.CX X.prog X.w) (X.tr pn xe) E → PE (X.tr pn xe) e (te E))
    (hsu : ∀ (a : Addr) (oe : Obj) (cls : Value) (d : Option Addr) (pn : List (Addr × Obj)), Zc cls d oe → (∃ vs, oe.data = .fields vs) → PSs (X.suite a ((a, oe) :: pn)) (b0 :: suite) (ts a cls d)) :
    PS X (.Try [.Return (some e) rp] [.ExceptHandler (some (.Name x np)) (some nm) (b0 :: suite) pos'] [] [] pos) (tTry1 X.K c i ts Wout n te) :=
  ps_try_as (tb := fun W => tRet (te (EW W n))) h1 h2 h3 h4 h5 hc tk (fun W pn xe tk' _ => pss_one (ps_ret (he _ pn xe (passW tk' hn)))) hsu
open Classical in
/-- try: return .. / except C0 as e: .. -/
noncomputable def M.tryAs (C0 : Addr) (f : Str) (m : M Xr) (k : D → M D) : M D := m.bind (Xr.then .ret fun C g d => if C = C0 ∧ g = f then k d else .fail)
/-- try: return te / except C0 as e: ts -/
theorem G.tryAs {K : PySem.W.Frag} {R : Po → Prop} {C0 : Addr} {f : Str} {i n : Nat} {te : XK → TE} {ts : Addr → Value → Option Addr → TS} {ρ : List En} {m : M Xr} {k : D → M D} {v : TS} {Wout : WX} (hR : ∀ P, R P → P.fr = false) (hn : ρ.length = n)
    (hm : PySem.W.exmOne K (.ref C0) (.ref C0) = some true) (hx : ∀ E, RX K E (te E) ρ m) (hs : SuX K C0 f n i ts k) :
    G K R (tSeq (tTry1 K (.ref C0) i ts Wout n te) v) ρ (M.tryAs C0 f m k) CF := fun P r w F B W H σ e fr Z q1 q2 q3 q4 =>
  hx _ P.rt (fun C g d => C = C0 ∧ g = f ∧ wp (k d) P.rt) (wp_mono (wp_bind.mp w) fun o z => by
    match o, z with
    | .ok d, z => exact z
    | .ex C g d, z =>
      by_cases h : C = C0 ∧ g = f
      · exact ⟨h.1, h.2, by rw [Xr.then, if_pos h] at z; exact z⟩
      · rw [Xr.then, if_neg h] at z
        exact z.elim) B W H σ e _ (fun u d H' g s p => q2 u d H' (.of g fun _ z => z.elim) (by rw [hR P r]; exact s.less fr.fb) p) fun cls dd H' C g d gg x p => by
    obtain ⟨rfl, rfl, wk⟩ := p
    obtain ⟨rfl, y, u, rfl, hy, su⟩ := x
    intro σ' hl
    refine ⟨true, hm, fun _ a na => ?_, fun z => nomatch z⟩
    exact hs a y u d B W H' σ' P.rt hl ((e.gs gg).bw) na hy su wk _ fun u' d' H2 g2 s2 p2 => q2 u' d' H2 (.of (gg.trans g2) fun _ z => z.elim) (by rw [hR P r]; exact s2.less fr.fb) p2
/-- good = isinstance(e, V) and not isinstance(e, (T, U)); return ("refused", e.f if good else "odd") -/
theorem su_refused {K : PySem.W.Frag} {C0 V0 T0 U0 : Addr} {f : Str} {n i j : Nat} {z1 z2 : Str} (T : L2.ExcC K C0) (kV : PySem.W.kitOne K (.ref C0) (.ref V0) = some true) (kT : PySem.W.kitAny K (.ref C0) [.ref T0, .ref U0] = some false) (hi : i < n) (hj : j < n) (ne : j ≠ i) :
    SuX K C0 f n i (fun a cls dd => tSeq (tAsg (tAndV (tCB (rIsX K a cls dd) (tCons (tVar i) (tCons (tC (.ref V0)) tNil))) (tNotV (tCB (rIsX K a cls dd) (tCons (tVar i) (tCons (tTup (tCons (tC (.ref T0)) (tCons (tC (.ref U0)) tNil))) tNil))))) (gName j))
      (tRet (tTup (tCons (tC (.str z1)) (tCons (tIf (tB (tVar j)) (tXf a cls dd C0 f (tVar i)) (tC (.str z2))) tNil))))) (fun d => D.tupM [.str z1, d]) := fun a x v d B W H σ P hl b na hx s w Z q => by
  have e1 : (σ.set i (some (V.ref a)))[i]? = some (some (.ref a)) := List.getElem?_set_self (by rw [hl]; exact hi)
  refine ⟨.ref a, e1, C0, x, [(f, v)], rfl, rfl, hx, T, .inl ⟨.ref V0, .ref V0, true, rfl, .own V0, kV, true, rfl, ?_⟩⟩
  rw [if_pos rfl]
  refine ⟨.ref a, e1, by show 2 ≤ _; rw [sizeLine_eq]; decide, fun p np => ?_⟩
  have hx1 : upd H p (.tup [V.ref T0, V.ref U0]) x = some (.xd [(f, v)]) := by
    rw [upd_ne (ne_of_none hx np)]
    exact hx
  refine ⟨C0, x, [(f, v)], rfl, rfl, hx1, T, .inr ⟨p, [.ref T0, .ref U0], [.ref T0, .ref U0], false, rfl, upd_same, .cons (.own T0) (.cons (.own U0) .nil), kT, false, rfl, ?_⟩⟩
  show gName j (V.bl true) _ _ _
  have e2 : ((σ.set i (some (V.ref a))).set j (some (V.bl true)))[i]? = some (some (.ref a)) := by rw [List.getElem?_set_ne ne]; exact e1
  have e3 : ((σ.set i (some (V.ref a))).set j (some (V.bl true)))[j]? = some (some (.bl true)) := List.getElem?_set_self (by rw [List.length_set, hl]; exact hj)
  refine ⟨.bl true, e3, true, rfl, .ref a, e2, rfl, rfl, x, [(f, v)], v, rfl, hx1, (by rw [lookup_put, if_pos rfl]), by show 2 ≤ _; rw [sizeLine_eq]; decide, fun p2 np2 => ?_⟩
  have g1 : Gs W H (upd H p (.tup [V.ref T0, V.ref U0])) := Gs.new np
  have g2 : Gs W (upd H p (.tup [V.ref T0, V.ref U0])) (upd (upd H p (.tup [V.ref T0, V.ref U0])) p2 (.tup [.str z1, v])) := Gs.new np2
  refine q _ (.tup [.str z1, d]) _ (g1.trans g2) (.tup trivial upd_same (.cons (.str z1) (.cons ((s.gw (Gw.new np)).gw (Gw.new np2)) .nil))) ?_
  exact (wp_ite w).2
end VB
namespace VB
open PySem PySem.Spec PyProof.Rows L2
end VB
namespace VB
open PySem PySem.Spec PyProof.Rows L2
/-- an own error class over ValueError, as it stands in the written part -/
def oexC (K : PySem.W.Frag) (C : Addr) : Bool := match K.lookup C with
  | some ⟨.type "type", _, .cls cd, sl⟩ => (match cd.mro, sl.toList with
    | .ref C' :: bm, [_, _, _, _, some (.builtin n), _] => C' == C && (n == "ValueError.__new__" && (!cd.hasDel && (cd.hasDict && PySem.HandSPX.refsVE bm)))
    | _, _ => false)
  | _ => false
theorem oexC_ok {K : PySem.W.Frag} {C : Addr} (h : oexC K C = true) : ∃ nm q N bs bm sn sub ab col dd k0 k1 k2 k3 k5, K.lookup C = some (excClassObj nm q C N bs bm true sn sub ab col dd k0 k1 k2 k3 k5 "ValueError.__new__") ∧ PySem.HandSPX.refsVE bm = true := by
  unfold oexC at h
  split at h
  · rename_i dd cd sl ho
    split at h
    · rename_i C' bm k0 k1 k2 k3 n k5 em es
      obtain ⟨h1, h⟩ := Bool.and_eq_true_iff.mp h
      obtain ⟨h2, h⟩ := Bool.and_eq_true_iff.mp h
      obtain ⟨h3, h⟩ := Bool.and_eq_true_iff.mp h
      obtain ⟨h4, h5⟩ := Bool.and_eq_true_iff.mp h
      cases beq_iff_eq.mp h1
      cases beq_iff_eq.mp h2
      obtain ⟨nm, bs, mro, ns, qn, hd, sn, sub, ab, col, del⟩ := cd
      have h3 : (!del) = true := h3
      have h4 : hd = true := h4
      cases del with
      | true => cases h3
      | false =>
        subst h4
        have em : mro = .ref C :: bm := em
        subst em
        obtain ⟨l⟩ := sl
        have es : l = [k0, k1, k2, k3, some (.builtin "ValueError.__new__"), k5] := es
        subst es
        exact ⟨nm, qn, ns, bs, bm, sn, sub, ab, col, dd, k0, k1, k2, k3, k5, ho, h5⟩
    · cases h
  · cases h
/-- what is asked of an error class W with a field f and its __init__ at fI -/
structure ErF (K : PySem.W.Frag) (W fI : Addr) (f : Str) : Prop where
  ox : OexC K W
  ii : PySem.W.findIn K (.ref W) "__init__" = some (some (.ref fI))
  ti : PySem.W.typeIn K (.ref fI) = some (.type "function")
  nf : PySem.W.findIn K (.ref W) f = some none
  ex : L2.ExcC K W
  xf : XfC K W
  me : PySem.W.exmOne K (.ref W) (.ref W) = some true
def erB (x f : Str) (K : PySem.W.Frag) : Bool :=
  oexC K (He.ga K x) && (He.eqO (PySem.W.findIn K (.ref (He.ga K x)) "__setattr__") (some (some (.builtin "object.__setattr__"))) && (decide (PySem.W.subIn K (.ref (He.ga K x)) (.type "BaseException") = some true) && (decide (PySem.W.typeIn K (.ref (He.ga K x)) = some (.type "type")) && (PySem.W.keepIn K (.ref (He.ga K x)) &&
  (He.eqO (PySem.W.findIn K (.ref (He.ga K x)) "__init__") (some (some (.ref (atM x "__init__" K)))) && (decide (PySem.W.typeIn K (.ref (atM x "__init__" K)) = some (.type "function")) && (decide (PySem.W.findIn K (.ref (He.ga K x)) f = some none) &&
  (He.eqO (PySem.W.findIn K (.ref (He.ga K x)) "__getattribute__") (some (some (.builtin "BaseException.__getattribute__"))) && (decide (PySem.W.findIn K (.ref (He.ga K x)) "__getattr__" = some none) && (PySem.W.hasDictIn K (He.ga K x) && (He.eqO (PySem.W.findIn K (.ref (He.ga K x)) "__class__") (some (some (.builtin "object.__class__"))) &&
  (He.eqO (PySem.W.specialIn K (.builtin "object.__class__") "__get__") (some (some (.builtin "getset_descriptor.__get__"))) && (decide (PySem.W.takesIn K (.builtin "object.__class__") = some true) && (decide (PySem.W.mroIn K (He.ga K x) (.type "object") = some true) && decide (PySem.W.subIn K (.ref (He.ga K x)) (.ref (He.ga K x)) = some true)))))))))))))))
theorem erB_ok {x f : Str} {K : PySem.W.Frag} (h : erB x f K = true) : ErF K (He.ga K x) (atM x "__init__" K) f := by
  obtain ⟨a1, h⟩ := He.ba h
  obtain ⟨a2, h⟩ := He.ba h
  obtain ⟨a3, h⟩ := He.ba h
  obtain ⟨a4, h⟩ := He.ba h
  obtain ⟨a5, h⟩ := He.ba h
  obtain ⟨a6, h⟩ := He.ba h
  obtain ⟨a7, h⟩ := He.ba h
  obtain ⟨a8, h⟩ := He.ba h
  obtain ⟨b1, h⟩ := He.ba h
  obtain ⟨b2, h⟩ := He.ba h
  obtain ⟨b3, h⟩ := He.ba h
  obtain ⟨b4, h⟩ := He.ba h
  obtain ⟨b5, h⟩ := He.ba h
  obtain ⟨b6, h⟩ := He.ba h
  obtain ⟨b7, b8⟩ := He.ba h
  have s1 := of_decide_eq_true a3
  exact ⟨⟨oexC_ok a1, He.eqO_ok a2, s1, of_decide_eq_true a4, a5⟩, He.eqO_ok a6, of_decide_eq_true a7, of_decide_eq_true a8, ⟨He.eqO_ok b1, of_decide_eq_true b2, s1, b3, He.eqO_ok b4, He.eqO_ok b5, of_decide_eq_true b6, of_decide_eq_true b7⟩,
    ⟨He.eqO_ok b1, of_decide_eq_true b2, s1, b3⟩, PySem.W.exm_ref s1 b3 (of_decide_eq_true a4) (of_decide_eq_true b8)⟩
/-- the class above all own errors -/
structure VeF (K : PySem.W.Frag) (V : Addr) : Prop where
  r : PySem.W.readsIn K V (.type "type") = true
  s : PySem.W.specialIn K (.ref V) "__getattribute__" = some (some (.builtin "type.__getattribute__"))
  e : PySem.W.findCls K (.ref V) (.type "type") "__init__" = some (.val (.builtin "ValueError.__init__"))
def vvB (v : Option PySem.W.CFound) : Bool := match v with
  | some (.val (.builtin n)) => n == "ValueError.__init__"
  | _ => false
theorem vvB_ok {v : Option PySem.W.CFound} (h : vvB v = true) : v = some (.val (.builtin "ValueError.__init__")) := by
  unfold vvB at h
  split at h
  · rename_i n
    cases beq_iff_eq.mp h
    rfl
  · cases h
def veB (x : Str) (K : PySem.W.Frag) : Bool := PySem.W.readsIn K (He.ga K x) (.type "type") && (He.eqO (PySem.W.specialIn K (.ref (He.ga K x)) "__getattribute__") (some (some (.builtin "type.__getattribute__"))) && vvB (PySem.W.findCls K (.ref (He.ga K x)) (.type "type") "__init__"))
theorem veB_ok {x : Str} {K : PySem.W.Frag} (h : veB x K = true) : VeF K (He.ga K x) := by
  obtain ⟨h1, h⟩ := He.ba h
  obtain ⟨h2, h3⟩ := He.ba h
  exact ⟨h1, He.eqO_ok h2, vvB_ok h3⟩
/-- isinstance of an error of the class x with the class y, with one of the classes ys -/
def kiB (x y : Str) (b : Bool) (K : PySem.W.Frag) : Bool := decide (PySem.W.kitOne K (.ref (He.ga K x)) (.ref (He.ga K y)) = some b)
theorem kiB_ok {x y : Str} {b : Bool} {K : PySem.W.Frag} (h : kiB x y b K = true) : PySem.W.kitOne K (.ref (He.ga K x)) (.ref (He.ga K y)) = some b := of_decide_eq_true h
def kaB (x : Str) (ys : List Str) (b : Bool) (K : PySem.W.Frag) : Bool := decide (PySem.W.kitAny K (.ref (He.ga K x)) (ys.map fun y => .ref (He.ga K y)) = some b)
theorem kaB_ok {x : Str} {ys : List Str} {b : Bool} {K : PySem.W.Frag} (h : kaB x ys b K = true) : PySem.W.kitAny K (.ref (He.ga K x)) (ys.map fun y => .ref (He.ga K y)) = some b := of_decide_eq_true h
end VB
namespace K28
open PySem PySem.Spec PyProof.Rows L2 VB
def top (i : Nat) : Stmt := PySem.Challenge.pw_vouchchains_k28_days_and_carries_refused.main.body.getD i (.Pass ⟨0, 0, 0, 0⟩)
abbrev s_Wrong_init : Stmt := inClass (top 3) 0
abbrev s_is_integer : Stmt := top 10
abbrev s_is_word : Stmt := top 11
abbrev s_is_day : Stmt := top 12
abbrev s_is_carry_row : Stmt := top 14
abbrev s_are_carry_rows : Stmt := top 15
abbrev s_unlisted : Stmt := top 16
abbrev s_Carry_init : Stmt := inClass (top 17) 0
abbrev s_Carry_rest : Stmt := inClass (top 17) 1
abbrev s_Carry_carried : Stmt := inClass (top 17) 3
abbrev s_is_span : Stmt := top 20
abbrev s_fewest_spans : Stmt := top 21
abbrev s_Days_init : Stmt := inClass (top 22) 0
abbrev s_Days_contains : Stmt := inClass (top 22) 10
abbrev s_law_bag : Stmt := top 24
abbrev s_law_take : Stmt := top 25
abbrev s_law_mixed : Stmt := top 26
abbrev s_law_labels : Stmt := top 27
abbrev s_law_drawn_spans : Stmt := top 28
abbrev s_law_has_day : Stmt := top 29
abbrev s_law_is_day : Stmt := top 30
abbrev s_law_is_word : Stmt := top 31
abbrev s_law_is_span : Stmt := top 32
abbrev s_law_is_row : Stmt := top 33
abbrev s_law_wrong : Stmt := top 34
abbrev s_law_odd : Stmt := top 35
abbrev s_law_odd_span : Stmt := top 36
abbrev s_law_odd_row : Stmt := top 37
abbrev s_law_spoilt : Stmt := top 38
abbrev s_law_tried : Stmt := top 39
abbrev s_law_as_told : Stmt := top 40
abbrev s_law : Stmt := top 41
def dq_Wrong_init : DefQ := ⟨atM "Wrong" "__init__", "__init__", "Wrong.__init__", defArgs s_Wrong_init, defBody s_Wrong_init, defScope s_Wrong_init, [], []⟩
def dq_is_integer : DefQ := ⟨atG "is_integer", "is_integer", "is_integer", defArgs s_is_integer, defBody s_is_integer, defScope s_is_integer, [], []⟩
def dq_is_word : DefQ := ⟨atG "is_word", "is_word", "is_word", defArgs s_is_word, defBody s_is_word, defScope s_is_word, [], []⟩
def dq_is_day : DefQ := ⟨atG "is_day", "is_day", "is_day", defArgs s_is_day, defBody s_is_day, defScope s_is_day, [], []⟩
def dq_is_carry_row : DefQ := ⟨atG "is_carry_row", "is_carry_row", "is_carry_row", defArgs s_is_carry_row, defBody s_is_carry_row, defScope s_is_carry_row, [], []⟩
def dq_are_carry_rows : DefQ := ⟨atG "are_carry_rows", "are_carry_rows", "are_carry_rows", defArgs s_are_carry_rows, defBody s_are_carry_rows, defScope s_are_carry_rows, [], []⟩
def dq_unlisted : DefQ := ⟨atG "unlisted", "unlisted", "unlisted", defArgs s_unlisted, defBody s_unlisted, defScope s_unlisted, [], []⟩
def dq_Carry_init : DefQ := ⟨atM "Carry" "__init__", "__init__", "Carry.__init__", defArgs s_Carry_init, defBody s_Carry_init, defScope s_Carry_init, [.adr (He.dflAt ("Carry", some "__init__") 0)], []⟩
def dq_Carry_rest : DefQ := ⟨atP "Carry" "rest", "rest", "Carry.rest", defArgs s_Carry_rest, defBody s_Carry_rest, defScope s_Carry_rest, [], []⟩
def dq_Carry_carried : DefQ := ⟨atM "Carry" "carried", "carried", "Carry.carried", defArgs s_Carry_carried, defBody s_Carry_carried, defScope s_Carry_carried, [], []⟩
def dq_is_span : DefQ := ⟨atG "is_span", "is_span", "is_span", defArgs s_is_span, defBody s_is_span, defScope s_is_span, [], []⟩
def dq_fewest_spans : DefQ := ⟨atG "fewest_spans", "fewest_spans", "fewest_spans", defArgs s_fewest_spans, defBody s_fewest_spans, defScope s_fewest_spans, [], []⟩
def dq_Days_init : DefQ := ⟨atM "Days" "__init__", "__init__", "Days.__init__", defArgs s_Days_init, defBody s_Days_init, defScope s_Days_init, [.adr (He.dflAt ("Days", some "__init__") 0)], []⟩
def dq_Days_contains : DefQ := ⟨atM "Days" "__contains__", "__contains__", "Days.__contains__", defArgs s_Days_contains, defBody s_Days_contains, defScope s_Days_contains, [], []⟩
def dq_law_bag : DefQ := ⟨atG "_law_bag", "_law_bag", "_law_bag", defArgs s_law_bag, defBody s_law_bag, defScope s_law_bag, [], []⟩
def dq_law_take : DefQ := ⟨atG "_law_take", "_law_take", "_law_take", defArgs s_law_take, defBody s_law_take, defScope s_law_take, [], []⟩
def dq_law_mixed : DefQ := ⟨atG "_law_mixed", "_law_mixed", "_law_mixed", defArgs s_law_mixed, defBody s_law_mixed, defScope s_law_mixed, [], []⟩
def dq_law_labels : DefQ := ⟨atG "_law_labels", "_law_labels", "_law_labels", defArgs s_law_labels, defBody s_law_labels, defScope s_law_labels, [], []⟩
def dq_law_drawn_spans : DefQ := ⟨atG "_law_drawn_spans", "_law_drawn_spans", "_law_drawn_spans", defArgs s_law_drawn_spans, defBody s_law_drawn_spans, defScope s_law_drawn_spans, [], []⟩
def dq_law_has_day : DefQ := ⟨atG "_law_has_day", "_law_has_day", "_law_has_day", defArgs s_law_has_day, defBody s_law_has_day, defScope s_law_has_day, [], []⟩
def dq_law_is_day : DefQ := ⟨atG "_law_is_day", "_law_is_day", "_law_is_day", defArgs s_law_is_day, defBody s_law_is_day, defScope s_law_is_day, [], []⟩
def dq_law_is_word : DefQ := ⟨atG "_law_is_word", "_law_is_word", "_law_is_word", defArgs s_law_is_word, defBody s_law_is_word, defScope s_law_is_word, [], []⟩
def dq_law_is_span : DefQ := ⟨atG "_law_is_span", "_law_is_span", "_law_is_span", defArgs s_law_is_span, defBody s_law_is_span, defScope s_law_is_span, [], []⟩
def dq_law_is_row : DefQ := ⟨atG "_law_is_row", "_law_is_row", "_law_is_row", defArgs s_law_is_row, defBody s_law_is_row, defScope s_law_is_row, [], []⟩
def dq_law_wrong : DefQ := ⟨atG "_law_wrong", "_law_wrong", "_law_wrong", defArgs s_law_wrong, defBody s_law_wrong, defScope s_law_wrong, [], []⟩
def dq_law_odd : DefQ := ⟨atG "_law_odd", "_law_odd", "_law_odd", defArgs s_law_odd, defBody s_law_odd, defScope s_law_odd, [], []⟩
def dq_law_odd_span : DefQ := ⟨atG "_law_odd_span", "_law_odd_span", "_law_odd_span", defArgs s_law_odd_span, defBody s_law_odd_span, defScope s_law_odd_span, [], []⟩
def dq_law_odd_row : DefQ := ⟨atG "_law_odd_row", "_law_odd_row", "_law_odd_row", defArgs s_law_odd_row, defBody s_law_odd_row, defScope s_law_odd_row, [], []⟩
def dq_law_spoilt : DefQ := ⟨atG "_law_spoilt", "_law_spoilt", "_law_spoilt", defArgs s_law_spoilt, defBody s_law_spoilt, defScope s_law_spoilt, [], []⟩
def dq_law_tried : DefQ := ⟨atG "_law_tried", "_law_tried", "_law_tried", defArgs s_law_tried, defBody s_law_tried, defScope s_law_tried, [], []⟩
def dq_law_as_told : DefQ := ⟨atG "_law_as_told", "_law_as_told", "_law_as_told", defArgs s_law_as_told, defBody s_law_as_told, defScope s_law_as_told, [], []⟩
def dq_law : DefQ := ⟨atG "law", "law", "law", defArgs s_law, defBody s_law, defScope s_law, [], []⟩
def fn : List DefQ := [dq_Wrong_init, dq_is_integer, dq_is_word, dq_is_day, dq_is_carry_row, dq_are_carry_rows, dq_unlisted, dq_Carry_init, dq_Carry_rest, dq_Carry_carried, dq_is_span, dq_fewest_spans, dq_Days_init, dq_Days_contains, dq_law_bag, dq_law_take, dq_law_mixed, dq_law_labels, dq_law_drawn_spans, dq_law_has_day, dq_law_is_day, dq_law_is_word, dq_law_is_span, dq_law_is_row, dq_law_wrong, dq_law_odd, dq_law_odd_span, dq_law_odd_row, dq_law_spoilt, dq_law_tried, dq_law_as_told, dq_law]
def ex : List (PySem.W.Frag → Bool) := [clB ["Carry", "Days"], propB "Carry" "rest", etB ("Carry", some "__init__") 0, etB ("Days", some "__init__") 0, erB "Wrong" "place", veB "VouchError", kiB "Wrong" "VouchError" true, kaB "Wrong" ["TooMany", "Unfit"] false]
def fa : List He.Fa := [.glo "is_integer", .glo "is_word", .glo "is_day", .glo "is_carry_row", .glo "are_carry_rows", .glo "unlisted", .glo "is_span", .glo "fewest_spans", .glo "_law_bag", .glo "_law_take", .glo "_law_mixed", .glo "_law_labels", .glo "_law_drawn_spans", .glo "_law_has_day", .glo "_law_is_day", .glo "_law_is_word", .glo "_law_is_span", .glo "_law_is_row", .glo "_law_wrong", .glo "_law_odd", .glo "_law_odd_span", .glo "_law_odd_row", .glo "_law_spoilt", .glo "_law_tried", .glo "_law_as_told", .glo "law", .glo "Carry", .glo "Days", .glo "TooMany", .glo "Unfit", .glo "VouchError", .glo "Wrong", .str "LETTERS" "abcdefghijklmnopqrstuvwxyz", .int "MOST_LETTERS" 8, .int "LAST_DAY" 1000000000, .free "abs", .free "all", .free "any", .free "bool", .free "dict", .free "enumerate", .free "int", .free "isinstance", .free "len", .free "list", .free "max", .free "min", .free "range", .free "repr", .free "set", .free "sorted", .free "str", .free "tuple", .noat "Carry" "kept_rest", .noat "Carry" "kept_rules", .noat "Days" "kept_spans", .meth "Carry" "carried", .meth "Days" "__contains__", .mkr "Carry", .mkr "Days"]
abbrev R : PySem.W.OpenRow := PySem.W.OpenLaw.row PySem.Challenge.rw_vouchchains_k28_days_and_carries_refused
abbrev hk : PySem.W.Hook := VB.hookR 6 ex fa fn
def ob (s : PySem.W.SharedT) : VB.AlQ := VB.obsRG 6 ex fa fn (HandSHeadRun.getT s)
theorem ob_eq (s : PySem.W.SharedT) : ob s = hk.obs s.abs := VB.obsRG_eq (HandSHeadRun.getT_eq s)
end K28
namespace K28
open PySem PySem.W PySem.Calls PySem.Spec PyProof.Rows L2 VB
set_option maxHeartbeats 0 in
theorem law0 (H : (PySem.W.OpenLaw.row PySem.Challenge.rw_vouchchains_k28_days_and_carries_refused).wellSaid = true → (PySem.W.OpenLaw.row PySem.Challenge.rw_vouchchains_k28_days_and_carries_refused).Holds) : PySem.Challenge.rw_vouchchains_k28_days_and_carries_refused.Holds := by
  w_on; o_law
  exact H (by assumption)
theorem run (w : World) : HandSHeadRun.RunEq R (PySem.W.view R.prog [41]) hk ob 20000 ((["_wall", "VouchError", "Wrong", "TooMany", "Unfit", "LETTERS", "MOST_LETTERS", "LAST_DAY", "is_integer", "is_word", "is_day", "is_carry_row", "are_carry_rows", "unlisted", "Carry", "listed_rules", "is_span", "fewest_spans", "Days", "_law_bag", "_law_take", "_law_mixed", "_law_labels", "_law_drawn_spans", "_law_has_day", "_law_is_day", "_law_is_word", "_law_is_span", "_law_is_row", "_law_wrong"] : List Str) ++ (["_law_odd", "_law_odd_span", "_law_odd_row", "_law_spoilt", "_law_tried", "_law_as_told"] : List Str)) w := by
  intro os
  kernel_rfl
end K28
namespace VB
open PySem PySem.Spec PyProof.Rows L2
abbrev Nme := List Str
abbrev Rg := List (Nme × Bool)
def lkF : Rg → Nme → Option Bool
  | [], _ => none
  | r :: F, n => if r.1 = n then some r.2 else lkF F n
def flagN (F : Rg) (n : Nme) : Nat → Bool
  | 0 => (lkF F []).getD false
  | k + 1 => match lkF F (n.take (k + 1)) with
    | some b => b
    | none => flagN F n k
/-- the flag of the longest row's name with which n begins -/
def flagOf (F : Rg) (n : Nme) : Bool := flagN F n n.length
/-- what a row's flag would be without it -/
def under (F : Rg) (n : Nme) : Bool := match n with
  | [] => false
  | x :: n => flagOf F (x :: n).dropLast
end VB
namespace VB
open PySem PySem.Spec PyProof.Rows L2
structure SetK {κ : Type} [DecidableEq κ] {P : Program} {w : World} (knd : HeapKind P w κ) : Prop where
  cls : ∀ {A : Around} {E : Value → Shared → Prop} {s : Shared} {k : κ} {b : Addr} {Q : Bool → Shared → Prop}, knd.is s.heap k b → Q false s → wpAny (model P w) A (ofAClassStatement 8 (.ref b)) Q E s
  hsh : ∀ {A : Around} {E : Value → Shared → Prop} {s : Shared} {k : κ} {b : Addr} {Q : Bool → Shared → Prop}, knd.is s.heap k b → (∀ c, Q c s) → wpAny (model P w) A (hashByValue 8 (.ref b)) Q E s
  seqs : ∀ {h h' : Heap} {k : κ} {b : Addr}, (∀ c o vs n, h.get? c = some o → o.data = .seq vs n → h'.get? c = some o) → knd.is h k b → knd.is h' k b
abbrev RwG (κ : Type) := Addr × κ
section
variable {κ : Type} [DecidableEq κ] {P : Program} {w : World} {knd : HeapKind P w κ}
theorem SetK.same (SK : SetK knd) {h h' : Heap} {k : κ} {a b : Addr} {o : Obj} {es : Array (Int × Value)} {ep : Nat} {t : SetTable} (x : knd.is h k b) (ho : h.get? a = some o) (hd : o.data = .set es ep t) (sb : Heap.SameBut a h h') : knd.is h' k b :=
  SK.seqs (fun c u vs n e1 e2 => (sb.2 c fun z => by
    rw [z, ho] at e1
    cases e1
    rw [hd] at e2
    cases e2).trans e1) x
theorem SetK.keep (SK : SetK knd) {h h' : Heap} {k : κ} {b : Addr} (x : knd.is h k b) (kp : ∀ c o, h.get? c = some o → h'.get? c = some o) : knd.is h' k b := SK.seqs (fun c o _ _ e _ => kp c o e) x
section
variable {A : Around} {E : Value → Shared → Prop} {s : Shared}
/-- what the search looks at shows nothing -/
theorem SetK.seen (SK : SetK knd) {k : κ} {b : Addr} {Q : Bool → Shared → Prop} (x : knd.is s.heap k b) {ys : List Value} (hy : ∀ y ∈ ys, ∃ k1 c, y = Value.ref c ∧ knd.is s.heap k1 c) (q : Q false s) :
    wpAny (model P w) A (searchCouldBeSeen (.ref b) ys) Q E s := by
  unfold searchCouldBeSeen
  refine wpAny_bind ?_
  refine wpAny_forIn_list _ (fun more st s1 => st.1 = none ∧ s1 = s ∧ ∀ y ∈ more, ∃ k1 c, y = Value.ref c ∧ knd.is s.heap k1 c) _ ?_ ?_ _ _ ⟨rfl, rfl, hy⟩
  · rintro v more st s1 ⟨hn, rfl, al⟩
    obtain ⟨k1, c, rfl, xc⟩ := al v (List.mem_cons_self ..)
    have al1 : ∀ y ∈ more, ∃ k1 c, y = Value.ref c ∧ knd.is s1.heap k1 c := fun u m => al u (List.mem_cons_of_mem _ m)
    dsimp only
    by_cases same : (b == c || (carriedByValue (.ref b) && carriedByValue (.ref c))) = true
    · exact wp_if_pos same (wpAny_pure ⟨rfl, rfl, al1⟩)
    · refine wp_if_neg same (wpAny_bind (knd.quiet x ?_))
      simp only [Bool.not_true, Bool.false_eq_true, if_false]
      refine wpAny_bind (knd.quiet xc ?_)
      simp only [Bool.not_true, Bool.false_eq_true, if_false]
      refine wpAny_bind (SK.cls x ?_)
      simp only [Bool.false_eq_true, if_false]
      refine wpAny_bind (SK.cls xc ?_)
      simp only [Bool.false_eq_true, if_false]
      exact wpAny_pure ⟨rfl, rfl, al1⟩
  · rintro ⟨z, y⟩ s1 ⟨hn, rfl, _⟩
    simp only at hn
    subst hn
    exact wpAny_pure q
end
def rowsG (knd : HeapKind P w κ) (L : List (RwG κ)) : List (Int × Value) := L.map fun r => (knd.hash r.2, Value.ref r.1)
structure TabG (knd : HeapKind P w κ) (h : Heap) (a : Addr) (L : List (RwG κ)) (es : Array (Int × Value)) (ep : Nat) (t : SetTable) : Prop where
  ob : ∃ o, h.get? a = some o ∧ o.ExactSet ∧ o.data = .set es ep t
  el : es.toList = rowsG knd L
  ok : TabOk t (L.map fun r => knd.hash r.2)
  nd : (L.map Prod.snd).Nodup
  kt : ∀ r ∈ L, knd.is h r.2 r.1
  ld : w.params.followText "set-order" = true ∨ t.led = true
  rm : 5 * L.length < 3 * t.mask
  lt : L.length < 64
theorem rowsG_len {L : List (RwG κ)} {es : Array (Int × Value)} (e : es.toList = rowsG knd L) : es.size = L.length := by
  have z := congrArg List.length e
  unfold rowsG at z
  rw [Array.length_toList, List.length_map] at z
  exact z
/-- the way's c-th state -/
abbrev stp (t : SetTable) (h : Int) (c : Nat) : SetTable.Probe := nth t.mask (runAt t.mask (SetTable.bits h % (t.mask + 1)) (SetTable.bits h)) c
theorem stp_add (t : SetTable) (h : Int) (c q : Nat) : nth t.mask (stp t h c) q = stp t h (c + q) := (nth_add t.mask c _ q).symm
theorem nth_dm (m : Nat) : ∀ (n : Nat) (p : SetTable.Probe), p.dummy = none → (nth m p n).dummy = none
  | 0, _, z => z
  | n + 1, p, z => nth_dm m n (adv m p) (by
    unfold adv
    split <;> exact z)
section
variable {A : Around} {E : Value → Shared → Prop} {s : Shared} {a : Addr} {L : List (RwG κ)} {es : Array (Int × Value)} {ep : Nat} {t : SetTable}
theorem fits_of (h1 : t.place.size = es.size) (h2 : t.dummies = #[]) (h3 : es.size ≤ t.mask) : t.fits es.size = true := by
  unfold SetTable.fits SetTable.fill
  rw [h2, Bool.and_eq_true, beq_iff_eq, decide_eq_true_eq]
  exact ⟨h1, by rw [h1]; exact h3⟩
theorem TabG.plsz (R : TabG knd s.heap a L es ep t) : t.place.size = L.length := by
  have z := R.ok.sz
  rw [List.length_map] at z
  exact z
theorem TabG.fit (R : TabG knd s.heap a L es ep t) : t.fits es.size = true := fits_of (R.plsz.trans (rowsG_len R.el).symm) R.ok.dm (by
  have z1 := rowsG_len R.el
  have z2 := R.rm
  omega)
theorem TabG.row (R : TabG knd s.heap a L es ep t) {i : Nat} {r : RwG κ} (h : L[i]? = some r) : es[i]? = some (knd.hash r.2, Value.ref r.1) := by
  rw [← Array.getElem?_toList, R.el]
  unfold rowsG
  rw [List.getElem?_map, h]
  rfl
theorem TabG.way0 (R : TabG knd s.heap a L es ep t) : ¬ t.gaveWay = true := by
  unfold SetTable.gaveWay
  rw [mask_odd R.ok.mok]
  decide
theorem TabG.find (SK : SetK knd) (R : TabG knd s.heap a L es ep t) {x : Addr} {k : κ} (hx : knd.is s.heap k x) (hu : knd.room A) {K : Nat} (b1 : K < 10 * SetTable.turns t.mask)
    (b2 : way t.mask (knd.hash k) K ∉ t.place.toList) (b3 : ∀ c, c < K → way t.mask (knd.hash k) c ∈ t.place.toList) {Q : SetFound → Shared → Prop}
    (q1 : k ∈ L.map Prod.snd → Q (.there none) s) (q2 : k ∉ L.map Prod.snd → Q (.free (way t.mask (knd.hash k) K) false) s) :
    ∀ (f c : Nat) (stand : Option SetTable.Probe), stand.getD (t.probeStart (knd.hash k)) = stp t (knd.hash k) c → c ≤ K → K - c < f →
      (∀ (i : Nat) (r : RwG κ), L[i]? = some r → r.2 = k → ∃ d, c ≤ d ∧ d < K ∧ t.place.toList[i]? = some (way t.mask (knd.hash k) d)) →
      wpAny (model P w) A (setSearchFrom a (.ref x) (knd.hash k) true f stand) Q E s
  | 0, c, stand, _, _, z, _ => absurd z (Nat.not_lt_zero _)
  | f + 1, c, stand, hst, hcK, hf, ahead => by
    obtain ⟨o, ho, hex, hd⟩ := R.ob
    generalize hh : knd.hash k = hk at *
    have jq : ∀ q, (nth t.mask (stp t hk c) q).j = way t.mask hk (c + q) := fun q => congrArg SetTable.Probe.j (stp_add t hk c q)
    have cK : c + (K - c) = K := by omega
    rw [setSearchFrom_succ]
    refine wpAny_bind (wpAny_setState_of ho hd R.fit ?_)
    dsimp only
    refine wp_if_neg R.way0 ?_
    try refine wpAny_bind (wpAny_pure ?_)
    have spec := go_spec t R.ok.ris R.ok.dm (fun i => (es[i]?.map (·.1)).getD 0) hk (10 * SetTable.turns t.mask) (K - c) (stp t hk c) (nth_dm _ _ _ rfl) (by omega)
      (fun q hq => by
        rw [jq]
        exact b3 (c + q) (by omega)) (by
        rw [jq, cK]
        exact b2)
    have hat : ∀ (i : Nat) (r : RwG κ), L[i]? = some r → (fun i => (es[i]?.map (·.1)).getD 0) i = knd.hash r.2 := fun i r e => by
      show (es[i]?.map (·.1)).getD 0 = _
      rw [R.row e]
      rfl
    -- a row with this key does not stand on the way where no hash is met
    have miss : ∀ (i : Nat) (r : RwG κ) (d m : Nat), L[i]? = some r → r.2 = k → c ≤ d → t.place.toList[i]? = some (way t.mask hk d) → d < c + m → (∀ k' i' : Nat, k' < m → t.place.toList[i']? = some (nth t.mask (stp t hk c) k').j → (fun i => (es[i]?.map (·.1)).getD 0) i' ≠ hk) → False := fun i r d m e1 e2 e3 e4 e5 e6 =>
      e6 (d - c) i (by omega) (by
        rw [jq, show c + (d - c) = d by omega]
        exact e4) ((hat i r e1).trans (by rw [e2]; exact hh))
    rcases spec with ⟨q, i, hq, hi, _, hno, met⟩ | ⟨hno, met⟩
    · have met1 : t.probe (fun i => (es[i]?.map (·.1)).getD 0) hk (stand.getD (t.probeStart hk)) = some (.candidate (way t.mask hk (c + q)) i (stp t hk (c + (q + 1)))) := by
        rw [hst, ← jq, ← stp_add]
        exact met
      rw [met1]
      dsimp only
      rw [jq] at hi
      have il : i < L.length := by
        have z1 := (List.getElem?_eq_some_iff.mp hi).1
        have z2 := R.plsz
        rw [Array.length_toList] at z1
        omega
      obtain ⟨r, er⟩ : ∃ r, L[i]? = some r := ⟨_, List.getElem?_eq_getElem il⟩
      have rm : r ∈ L := List.mem_of_getElem? er
      have tail : wpAny (model P w) A (searchRest a (.ref x) hk true f es t (way t.mask hk (c + q)) i (stp t hk (c + (q + 1)))) Q E s := by
        unfold searchRest
        rw [R.row er]
        dsimp only
        refine wpAny_bind (wpAny_holding (knd.eqBool hu (R.kt r rm) hx ?_))
        refine wpAny_bind (wpAny_setState_of ho hd R.fit ?_)
        dsimp only
        by_cases ek : r.2 = k
        · exact wp_if_pos (by simp [ek]) (wpAny_pure (q1 (List.mem_map.mpr ⟨r, rm, ek⟩)))
        · refine wp_if_neg (by simp [ek]) ?_
          try refine wpAny_bind (wpAny_pure ?_)
          rw [sameMem]
          dsimp only
          have sl : t.slot (way t.mask hk (c + q)) = .live i := slot_live R.ok.ris hi
          simp only [if_true, sl, R.row er]
          refine wpAny_bind (wpAny_isSame_ref_self (wpAny_bind (wpAny_pure ?_)))
          simp only [if_true]
          refine wp_if_neg (by simp [ek]) ?_
          have next := TabG.find SK R hx hu b1 (by rw [hh]; exact b2) (by rw [hh]; exact b3) q1 (by rw [hh]; exact q2) f (c + (q + 1)) (some (stp t hk (c + (q + 1)))) (by rw [hh]; rfl) (by omega) (by omega) (fun i0 r0 e0 k0 => by
            obtain ⟨d, d1, d2, d3⟩ := ahead i0 r0 e0 k0
            rw [hh]
            refine ⟨d, ?_, d2, d3⟩
            rcases Nat.lt_trichotomy d (c + q) with z | z | z
            · exact (miss i0 r0 d q e0 k0 d1 d3 z hno).elim
            · subst z
              have s0 := slot_live R.ok.ris d3
              rw [sl] at s0
              injection s0 with s0
              subst s0
              rw [er] at e0
              cases e0
              exact (ek k0).elim
            · omega)
          rw [hh] at next
          exact next
      by_cases hl : t.led = true
      · refine wp_if_neg (by simp [hl]) ?_
        try refine wpAny_bind (wpAny_pure ?_)
        exact tail
      · refine wp_if_pos (by simp [hl]) ?_
        refine wpAny_bind (SK.seen hx (fun y my => ?_) ?_)
        · obtain ⟨e, he, ee⟩ := List.mem_map.mp my
          have m1 : e ∈ es ∧ e.1 = hk := by simpa using he
          have m2 : e ∈ es.toList := by simpa using m1.1
          rw [R.el] at m2
          obtain ⟨r2, mr, e2⟩ := List.mem_map.mp m2
          exact ⟨r2.2, r2.1, by rw [← ee, ← e2], R.kt r2 mr⟩
        · refine wp_if_neg (by decide) ?_
          try refine wpAny_bind (wpAny_pure ?_)
          exact tail
    · have met1 : t.probe (fun i => (es[i]?.map (·.1)).getD 0) hk (stand.getD (t.probeStart hk)) = some (.empty (way t.mask hk K) none) := by
        have z : way t.mask hk K = (nth t.mask (stp t hk c) (K - c)).j := by rw [jq, cK]
        rw [hst, z]
        exact met
      rw [met1]
      dsimp only
      refine wpAny_pure (q2 fun m => ?_)
      obtain ⟨r0, mr, k0⟩ := List.mem_map.mp m
      obtain ⟨i0, hi0, e0⟩ := List.getElem_of_mem mr
      have e1 : L[i0]? = some r0 := by rw [List.getElem?_eq_getElem hi0, e0]
      obtain ⟨d, d1, d2, d3⟩ := ahead i0 r0 e1 k0
      exact miss i0 r0 d (K - c) e1 k0 d1 d3 (by omega) hno
theorem TabG.search (SK : SetK knd) (R : TabG knd s.heap a L es ep t) {x : Addr} {k : κ} (hx : knd.is s.heap k x) (hu : knd.room A) {Q : SetFound → Shared → Prop} (q1 : k ∈ L.map Prod.snd → Q (.there none) s)
    (q2 : ∀ K, k ∉ L.map Prod.snd → way t.mask (knd.hash k) K ∉ t.place.toList → (∀ c, c < K → way t.mask (knd.hash k) c ∈ t.place.toList) → Q (.free (way t.mask (knd.hash k) K) false) s) :
    wpAny (model P w) A (setSearch a (.ref x) (knd.hash k) true) Q E s := by
  have room := R.rm
  obtain ⟨K, b1, b2, b3⟩ := R.ok.first (by rw [List.length_map]; omega) (knd.hash k)
  have small : K < 100000 := by
    have : 10 * SetTable.turns t.mask ≤ 1420 := by
      unfold SetTable.turns
      rcases R.ok.mok with e | e | e <;> omega
    omega
  unfold setSearch
  refine R.find SK hx hu b1 b2 b3 q1 (fun n => q2 K n b2 b3) 100000 0 none rfl (Nat.zero_le _) (by omega) fun i r er ek => ?_
  have e1 : (L.map fun r => knd.hash r.2)[i]? = some (knd.hash k) := by
    rw [List.getElem?_map, er, ← ek]
    rfl
  have il : i < t.place.toList.length := by
    have z1 := (List.getElem?_eq_some_iff.mp er).1
    have z2 := R.plsz
    rw [Array.length_toList]
    omega
  obtain ⟨d, d1, d2⟩ := R.ok.before b2 e1 (List.getElem?_eq_getElem il)
  exact ⟨d, Nat.zero_le _, d1, by rw [List.getElem?_eq_getElem il, d2]⟩
end
end
abbrev mixT (P : Program) (w : World) : HeapKind P w (List Key) := tupleKind (mixKind P w)
abbrev hashM (P : Program) (w : World) (k : List Key) : Int := tupleKeyHash (mixKind P w) k
abbrev Rw := RwG (List Key)
abbrev rowsM (P : Program) (w : World) (L : List Rw) : List (Int × Value) := rowsG (mixT P w) L
abbrev TabT (P : Program) (w : World) (h : Heap) (a : Addr) (L : List Rw) (es : Array (Int × Value)) (ep : Nat) (t : SetTable) : Prop := TabG (mixT P w) h a L es ep t
end VB
namespace VB
open PySem PySem.Spec PyProof.Rows L2
section
variable {κ : Type} [DecidableEq κ] {P : Program} {w : World} {knd : HeapKind P w κ} {A : Around} {E : Value → Shared → Prop} {s : Shared} {a : Addr} {L : List (RwG κ)} {es : Array (Int × Value)} {ep : Nat} {t : SetTable}
/-- the rows in another order -/
theorem rows_pick (L : List (RwG κ)) (es : Array (Int × Value)) (el : es.toList = rowsG knd L) : ∀ l : List Nat, (∀ i ∈ l, i < L.length) →
    l.filterMap (fun i => es[i]?) = rowsG knd (l.filterMap fun i => L[i]?) ∧ ((l.filterMap fun i => L[i]?).map fun r => knd.hash r.2) = l.map fun i => (es.map (·.1)).getD i 0
  | [], _ => ⟨rfl, rfl⟩
  | i :: l, hl => by
    obtain ⟨ih1, ih2⟩ := rows_pick L es el l fun j m => hl j (List.mem_cons_of_mem _ m)
    have il := hl i (List.mem_cons_self ..)
    have eL : L[i]? = some L[i] := List.getElem?_eq_getElem il
    have eE : es[i]? = some (knd.hash L[i].2, Value.ref L[i].1) := by
      rw [← Array.getElem?_toList, el]
      unfold rowsG
      rw [List.getElem?_map, eL]
      rfl
    have eH : (es.map (·.1)).getD i 0 = knd.hash L[i].2 := by
      rw [Array.getD_eq_getD_getElem?, Array.getElem?_map, eE]
      rfl
    constructor
    · rw [List.filterMap_cons_some eE, List.filterMap_cons_some eL, ih1]
      rfl
    · rw [List.filterMap_cons_some eL, List.map_cons, List.map_cons, ih2, eH]
theorem pick_all {α : Type} (L : List α) : (List.range L.length).filterMap (fun i => L[i]?) = L := by
  have z : ∀ n, n ≤ L.length → (List.range n).filterMap (fun i => L[i]?) = L.take n := fun n => by
    induction n with
    | zero => intro _; rfl
    | succ n ih =>
      intro hn
      rw [List.range_succ, List.filterMap_append, ih (Nat.le_of_lt hn), List.take_succ]
      congr 1
  rw [z _ (Nat.le_refl _), List.take_length]
theorem relayT (SK : SetK knd) {o : Obj} (ho : s.heap.get? a = some o) (hx : o.ExactSet) (hd : o.data = .set es ep t) (el : es.toList = rowsG knd L) (sz : t.place.size = es.size) (dm : t.dummies = #[]) (le : es.size ≤ t.mask)
    (nd : (L.map Prod.snd).Nodup) (kt : ∀ r ∈ L, knd.is s.heap r.2 r.1) (ld : w.params.followText "set-order" = true ∨ t.led = true) (lt : L.length < 64) {wanted M : Nat}
    (e1 : SetTable.sizeAbove wanted - 1 = M) (mk : MaskOk M) (e2 : SetTable.sizeAbove wanted ≤ 128) (rm : 5 * L.length < 3 * M) {Q : Unit → Shared → Prop}
    (q : ∀ h' L1 es1 ep1 t1, Heap.SameBut a s.heap h' → TabG knd h' a L1 es1 ep1 t1 → L1.Perm L → Q () { s with heap := h' }) : wpAny (model P w) A (setRelay a wanted) Q E s := by
  have zl := rowsG_len el
  obtain ⟨t1, order, er, pr, T, em, eled, _, _⟩ := relaid_ok t (hs := es.map (·.1)) (wanted := wanted) e1 mk (by rw [Array.size_map, zl]; omega)
  rw [Array.size_map, zl] at pr
  obtain ⟨r1, r2⟩ := rows_pick L es el order.toList fun i m => List.mem_range.mp (pr.mem_iff.mp m)
  have pm : (order.toList.filterMap fun i => L[i]?).Perm L := by
    have z := pr.filterMap fun i => L[i]?
    rw [pick_all] at z
    exact z
  generalize (order.toList.filterMap fun i => L[i]?) = L1 at r1 r2 pm
  have r1a : (order.filterMap (es[·]?)).toList = rowsG knd L1 := by rw [Array.toList_filterMap]; exact r1
  rw [← r2] at T
  have z2 := rowsG_len r1a
  have z3 := pm.length_eq
  rw [setRelay_eq]
  refine wpAny_bind (wpAny_setState_of ho hd (fits_of sz dm le) ?_)
  dsimp only
  refine wp_if_neg (by rw [sizeLine_eq]; omega) ?_
  try refine wpAny_bind (wpAny_pure ?_)
  rw [er]
  dsimp only
  refine wpAny_bind ?_
  refine wp_if_neg (by rw [z2, z3, zl]; simp) ?_
  try refine wpAny_bind (wpAny_pure ?_)
  refine wpAny_pure ?_
  dsimp only
  refine wpAny_storeSet_of ho hd ?_ (by rw [z2, z3, sizeLine_eq]; omega)
  have sb : Heap.SameBut a s.heap (s.heap.update a (Obj.putSet (order.filterMap (es[·]?)) t1)) := Heap.SameBut.update ..
  exact q _ L1 _ (ep + 1) t1 sb ⟨⟨_, store_at ho hd, ⟨hx.1, hx.2.1, hx.2.2⟩, rfl⟩, r1a, T, (pm.map Prod.snd).nodup_iff.mpr nd, fun r m => SK.same (kt r (pm.mem_iff.mp m)) ho hd sb, ld.imp id fun z => eled.trans z, by rw [z3, em]; exact rm, by rw [z3]; exact lt⟩ pm
/-- one tuple more -/
theorem TabG.add (SK : SetK knd) (R : TabG knd s.heap a L es ep t) {x : Addr} {k : κ} (hx : knd.is s.heap k x) (hu : knd.room A) (lt : L.length + 1 < 64) {Q : Bool → Shared → Prop}
    (q : ∀ b h' L1 es1 ep1 t1, Heap.SameBut a s.heap h' → TabG knd h' a L1 es1 ep1 t1 → (k ∈ L.map Prod.snd → L1 = L) → (k ∉ L.map Prod.snd → L1.Perm ((x, k) :: L)) → Q b { s with heap := h' }) :
    wpAny (model P w) A (setAddHashed a (.ref x) (knd.hash k)) Q E s := by
  obtain ⟨o, ho, hex, hd⟩ := R.ob
  have zl := rowsG_len R.el
  have room := R.rm
  have zp := R.plsz
  unfold setAddHashed
  refine wpAny_holding ?_
  rw [show (100000 : Nat) = 99999 + 1 from rfl, setAddHashedIn_succ]
  refine wpAny_bind (wpAny_setState_of ho hd R.fit ?_)
  dsimp only
  refine wp_if_neg (by simp [byScan, Value.scannable]) ?_
  try refine wpAny_bind (wpAny_pure ?_)
  refine wpAny_bind (R.search SK hx hu (fun m => ?_) fun K nm b2 b3 => ?_)
  · dsimp only
    exact wpAny_pure (q false s.heap L es ep t (Heap.SameBut.refl a s.heap) R (fun _ => rfl) fun z => absurd m z)
  · dsimp only
    refine wpAny_bind (wpAny_setState_of ho hd R.fit ?_)
    dsimp only
    obtain ⟨p1, p2, p3, p4, p5, _, _, _, p9⟩ := R.ok.put b2 b3
    generalize t.put (way t.mask (knd.hash k) K) = pt at p1 p3 p4 p5 p9 ⊢
    obtain ⟨t0, pl⟩ := pt
    dsimp only at p1 p3 p4 p5 p9 ⊢
    subst p1
    -- what stands behind the question whether the hash is by value
    have rest : ∀ c : Bool, wpAny (model P w) A (do
        storeSet a (SetTable.insertAt es (SetTable.below t.place (way t.mask (knd.hash k) K)) (knd.hash k, Value.ref x)) (if c = true then t0 else { t0 with plain := false })
        if (!false && (if c = true then t0 else { t0 with plain := false }).tooFull) = true then do
          setRelay a (SetTable.grown (es.size + 1))
          pure true
        else pure true) Q E s := fun c => by
      have u1 : (if c = true then t0 else { t0 with plain := false }).place = t0.place := by cases c <;> rfl
      have u2 : (if c = true then t0 else { t0 with plain := false }).dummies = t0.dummies := by cases c <;> rfl
      have u3 : (if c = true then t0 else { t0 with plain := false }).mask = t0.mask := by cases c <;> rfl
      have u4 : (if c = true then t0 else { t0 with plain := false }).led = t0.led := by cases c <;> rfl
      have u5 : (if c = true then t0 else { t0 with plain := false }).fill = t0.fill := by cases c <;> rfl
      generalize (if c = true then t0 else { t0 with plain := false }) = t1 at u1 u2 u3 u4 u5 ⊢
      have ok1 : TabOk t1 ((L.map fun r => knd.hash r.2).take (SetTable.below t.place (way t.mask (knd.hash k) K)) ++ knd.hash k :: (L.map fun r => knd.hash r.2).drop (SetTable.below t.place (way t.mask (knd.hash k) K))) :=
        ⟨by rw [u1]; exact p3.ris, u2.trans p3.dm, by rw [u1]; exact p3.sz, by rw [u3]; exact p3.mok, by rw [u1, u3]; exact p3.bd, by rw [u1, u3]; exact p3.reach⟩
      have el1 : (SetTable.insertAt es (SetTable.below t.place (way t.mask (knd.hash k) K)) (knd.hash k, Value.ref x)).toList = rowsG knd (L.take (SetTable.below t.place (way t.mask (knd.hash k) K)) ++ (x, k) :: L.drop (SetTable.below t.place (way t.mask (knd.hash k) K))) := by
        rw [SetTable.toList_insertAt, R.el]
        unfold rowsG
        rw [List.map_append, List.map_cons, List.map_take, List.map_drop]
      generalize SetTable.below t.place (way t.mask (knd.hash k) K) = pl at p2 ok1 el1 ⊢
      have pm : (L.take pl ++ (x, k) :: L.drop pl).Perm ((x, k) :: L) := by
        refine List.perm_middle.trans ?_
        rw [List.take_append_drop]
      have ok2 : TabOk t1 ((L.take pl ++ (x, k) :: L.drop pl).map fun r => knd.hash r.2) := by
        rw [List.map_append, List.map_cons, List.map_take, List.map_drop]
        exact ok1
      have nd1 : ((L.take pl ++ (x, k) :: L.drop pl).map Prod.snd).Nodup := (pm.map Prod.snd).nodup_iff.mpr (List.nodup_cons.mpr ⟨nm, R.nd⟩)
      have z1 := rowsG_len el1
      generalize SetTable.insertAt es pl (knd.hash k, Value.ref x) = es1 at el1 z1 ⊢
      generalize L.take pl ++ (x, k) :: L.drop pl = L1 at pm ok2 nd1 el1 z1
      have z2 : L1.length = L.length + 1 := pm.length_eq
      refine wpAny_bind (wpAny_storeSet_of ho hd ?_ (by rw [z1, z2, sizeLine_eq]; omega))
      have sb : Heap.SameBut a s.heap (s.heap.update a (Obj.putSet es1 t1)) := Heap.SameBut.update ..
      have ho1 := store_at (es' := es1) (t' := t1) ho hd
      generalize s.heap.update a (Obj.putSet es1 t1) = h1 at sb ho1 ⊢
      have kt1 : ∀ r ∈ L1, knd.is h1 r.2 r.1 := fun r m => by
        rcases List.mem_cons.mp (pm.mem_iff.mp m) with e | m
        · rw [e]
          exact SK.same hx ho hd sb
        · exact SK.same (R.kt r m) ho hd sb
      have ld1 : w.params.followText "set-order" = true ∨ t1.led = true := R.ld.imp id fun z => by rw [u4, p5]; exact z
      have em : t1.mask = t.mask := u3.trans p4
      have ef : t1.fill = L.length + 1 := by rw [u5, p9, List.length_map]
      have sz1 : t1.place.size = es1.size := by
        have z := ok2.sz
        rw [List.length_map] at z
        rw [z, z1]
      by_cases full : t1.tooFull = true
      · have big : 3 * t.mask ≤ 5 * (L.length + 1) := by
          have z := full
          unfold SetTable.tooFull at z
          rw [decide_eq_true_eq, ef, em] at z
          omega
        rw [if_pos (by rw [full]; rfl), zl]
        have two : (t.mask = 7 ∧ L.length = 4) ∨ (t.mask = 31 ∧ L.length = 18) := by
          rcases R.ok.mok with e | e | e
          · exact .inl ⟨e, by omega⟩
          · exact .inr ⟨e, by omega⟩
          · omega
        have fin : ∀ M, SetTable.sizeAbove (SetTable.grown (L.length + 1)) - 1 = M → MaskOk M → SetTable.sizeAbove (SetTable.grown (L.length + 1)) ≤ 128 → 5 * (L.length + 1) < 3 * M →
            wpAny (model P w) A (setRelay a (SetTable.grown (L.length + 1)) >>= fun _ => pure true) Q E { s with heap := h1 } := fun M g1 g2 g3 g4 =>
          wpAny_bind (relayT SK (s := { s with heap := h1 }) (L := L1) ho1 ⟨hex.1, hex.2.1, hex.2.2⟩ rfl el1 sz1 ok2.dm (by rw [z1, z2, em]; rcases two with ⟨e, e2⟩ | ⟨e, e2⟩ <;> omega) nd1 kt1 ld1 (by rw [z2]; exact lt) g1 g2 g3 (by rw [z2]; exact g4)
            fun h2 L2 es2 ep2 t2 sb2 R2 pm2 => wpAny_pure (q true h2 L2 es2 ep2 t2 (sb.trans sb2) R2 (fun z => absurd z nm) fun _ => pm2.trans pm))
        rcases two with ⟨_, e2⟩ | ⟨_, e2⟩
        · exact fin 31 (by rw [e2, size_20]) (.inr (.inl rfl)) (by rw [e2, size_20]; decide) (by omega)
        · exact fin 127 (by rw [e2, size_76]) (.inr (.inr rfl)) (by rw [e2, size_76]; decide) (by omega)
      · rw [if_neg (fun z => full (by simpa using z))]
        refine wpAny_pure (q true h1 L1 es1 (ep + 1) t1 sb ⟨⟨_, ho1, ⟨hex.1, hex.2.1, hex.2.2⟩, rfl⟩, el1, ok2, nd1, kt1, ld1, ?_, by rw [z2]; exact lt⟩ (fun z => absurd z nm) fun _ => pm)
        have z := full
        unfold SetTable.tooFull at z
        rw [decide_eq_true_eq, ef] at z
        rw [z2]
        omega
    by_cases hp : t0.plain = true
    · first
        | (refine wpAny_bind ?_; refine wp_if_pos hp (SK.hsh hx fun c => ?_); exact rest c)
        | refine wp_if_pos hp (wpAny_bind (SK.hsh hx fun c => rest c))
    · first
        | (refine wpAny_bind ?_; refine wp_if_neg hp (wpAny_pure ?_); exact rest true)
        | exact wp_if_neg hp (wpAny_bind (wpAny_pure (rest true)))
end
end VB
namespace VB
open PySem PySem.Spec PyProof.Rows L2
/-- what stands in the set behind the first i items -/
structure Gth {κ : Type} (ks : List (RwG κ)) (i : Nat) (L : List (RwG κ)) : Prop where
  sub : ∀ r ∈ L, r ∈ ks.take i
  all : ∀ r ∈ ks.take i, r.2 ∈ L.map Prod.snd
  len : L.length ≤ i
theorem take_one {α : Type} {l : List α} {i : Nat} {x : α} (e : l[i]? = some x) : l.take (i + 1) = l.take i ++ [x] := by
  rw [List.take_succ, e]
  rfl
theorem Gth.step {κ : Type} [DecidableEq κ] {ks L L1 : List (RwG κ)} {i : Nat} {r : RwG κ} (g : Gth ks i L) (e : ks[i]? = some r) (c1 : r.2 ∈ L.map Prod.snd → L1 = L) (c2 : r.2 ∉ L.map Prod.snd → L1.Perm (r :: L)) : Gth ks (i + 1) L1 := by
  by_cases m : r.2 ∈ L.map Prod.snd
  · rw [c1 m]
    refine ⟨fun x mx => ?_, fun x mx => ?_, Nat.le_succ_of_le g.len⟩
    · rw [take_one e]
      exact List.mem_append_left _ (g.sub x mx)
    · rw [take_one e] at mx
      rcases List.mem_append.mp mx with z | z
      · exact g.all x z
      · rw [List.mem_singleton.mp z]
        exact m
  · have pm := c2 m
    refine ⟨fun x mx => ?_, fun x mx => ?_, by rw [pm.length_eq, List.length_cons]; exact Nat.succ_le_succ g.len⟩
    · rw [take_one e]
      rcases List.mem_cons.mp (pm.mem_iff.mp mx) with z | z
      · exact List.mem_append_right _ (List.mem_singleton.mpr z)
      · exact List.mem_append_left _ (g.sub x z)
    · rw [(pm.map Prod.snd).mem_iff, List.map_cons]
      rw [take_one e] at mx
      rcases List.mem_append.mp mx with z | z
      · exact List.mem_cons_of_mem _ (g.all x z)
      · rw [List.mem_singleton.mp z]
        exact List.mem_cons_self ..
section
variable {κ : Type} [DecidableEq κ] {P : Program} {w : World} {knd : HeapKind P w κ} {A : Around} {E : Value → Shared → Prop} {s : Shared}
theorem TabG.keep {h h' : Heap} {a : Addr} {L : List (RwG κ)} {es : Array (Int × Value)} {ep : Nat} {t : SetTable} (R : TabG knd h a L es ep t) (ka : ∀ o, h.get? a = some o → h'.get? a = some o) (kk : ∀ r ∈ L, knd.is h' r.2 r.1) : TabG knd h' a L es ep t := by
  obtain ⟨o, ho, r⟩ := R.ob
  exact ⟨⟨o, ka o ho, r⟩, R.el, R.ok, R.nd, kk, R.ld, R.rm, R.lt⟩
end
end VB
namespace VB
open PySem PySem.Spec PyProof.Rows L2
end VB
namespace VB
open PySem PySem.Spec PyProof.Rows L2
structure SetT1 (P : Program) (w : World) (h : Heap) (a : Addr) (L : List Rw) : Prop where
  ex : ∃ (es : Array (Int × Value)) (ep : Nat) (t : SetTable), (∃ o, h.get? a = some o ∧ o.ExactSet ∧ o.data = .set es ep t) ∧ es.toList = rowsM P w L ∧ TabOk t (L.map fun r => hashM P w r.2) ∧ (L.map Prod.snd).Nodup ∧
    (w.params.followText "set-order" = true ∨ t.led = true) ∧ 5 * L.length < 3 * t.mask ∧ L.length < 64
theorem TabT.one {P : Program} {w : World} {h : Heap} {a : Addr} {L : List Rw} {es : Array (Int × Value)} {ep : Nat} {t : SetTable} (R : TabT P w h a L es ep t) : SetT1 P w h a L := ⟨es, ep, t, R.ob, R.el, R.ok, R.nd, R.ld, R.rm, R.lt⟩
end VB
namespace VB
open PySem PySem.Spec PyProof.Rows L2
def seqA (b : Bool) (ds : List D) : D := if b = true then .lst ds else .tup ds
theorem items_seqA {b : Bool} {ds : List D} : D.items (seqA b ds) = .ret ds := by cases b <;> rfl
theorem appK_ev {α : Type} {xs : List D} {v : D} {k : D → M α} (h : xs.length < 16777216) : D.appK (.lst xs) v k = k (.lst (xs ++ [v])) := if_pos h
end VB
namespace VB
open PySem PySem.Spec PyProof.Rows L2 PySem.W PySem.SeqAt
end VB
namespace VB
open PySem PySem.Spec PyProof.Rows L2
end VB
namespace VB
open PySem PySem.Spec PyProof.Rows L2
section
variable {K : PySem.W.Frag} {ρ : List En} {te te1 : TE} {tt1 : TT} {p p1 : Pt} {js js1 : List Nat} {wi : TI} {mi : M (List D)}
theorem Kp.step {W : List Addr} {U : Addr → Prop} {H1 H H' : Hp} (k : Kp W U H1 H) (g : Gs W H H') : Kp W U H1 H' := ⟨fun a o nW nU h => g.gw.keep a o nW (k.kp a o nW nU h), fun a xs h => g.gw.tups a xs (k.tups a xs h)⟩
theorem Kp.wr {W : List Addr} {H1 H : Hp} {p : Addr} {u : HO} (k : Kp W (fun a => a = p) H1 H) (n : NoT H p) : Kp W (fun a => a = p) H1 (upd H p u) := ⟨fun a o nW nU h => by
  rw [upd_ne nU]
  exact k.kp a o nW nU h, fun a xs h => (Gw.wr (W := [p]) (List.mem_singleton_self p) n).tups a xs (k.tups a xs h)⟩
end
end VB
namespace VB
open PySem PySem.Spec PyProof.Rows L2
end VB
namespace VB
open PySem PySem.Spec PyProof.Rows L2
end VB
namespace VB
open PySem PySem.Spec PyProof.Rows L2 PyProof.V
end VB
namespace VB
open PySem PySem.Spec PyProof.Rows L2
end VB
namespace VB
open PySem PySem.Spec PyProof.Rows L2
end VB
namespace VB
open PySem PySem.Spec PyProof.Rows L2
section
variable {F G : Rg}
theorem any_map {α : Type} (f : α → Bool) (xs : List α) : D.any (.lst (xs.map fun x => D.bl (f x))) = .ret (.bl (xs.any f)) := by
  have z : D.bls (xs.map fun x => D.bl (f x)) = some (xs.map f) := by
    have y := bls_map (xs.map f)
    rw [List.map_map] at y
    exact y
  unfold D.any
  dsimp only
  rw [z]
  simp
end
end VB
namespace VB
open PySem PySem.Spec PyProof.Rows L2
end VB
namespace VB
open PySem PySem.Spec PyProof.Rows L2
end VB
namespace VB
open PySem PySem.Spec PyProof.Rows L2
def FrOne (K : PySem.W.Frag) (B : List Addr) (H0 H : Hp) (v : V) (d : D) : Prop :=
  ∃ (t l : Addr) (x : V) (dx : D) (vs : List V) (ds : List D), v = .ref t ∧ H t = some (.tup [x, .ref l]) ∧ Sg K B H x dx ∧ H0 l = none ∧ l ∉ B ∧ H l = some (.lst vs) ∧ SgA K B H vs ds ∧ d = .tup [dx, .lst ds]
section
variable {K : PySem.W.Frag} {B W : List Addr} {H0 H H' : Hp} {v : V} {d : D} {p : Addr} {u : HO}
theorem FrOne.sg (h : FrOne K B H0 H v d) : Sg K B H v d := by
  obtain ⟨t, l, x, dx, vs, ds, rfl, ht, sx, n0, nB, hl, sl, rfl⟩ := h
  exact .tup trivial ht (.cons sx (.cons (.lst nB hl sl) .nil))
theorem FrOne.gw (g : Gw B H H') (h : FrOne K B H0 H v d) : FrOne K B H0 H' v d := by
  obtain ⟨t, l, x, dx, vs, ds, rfl, ht, sx, n0, nB, hl, sl, rfl⟩ := h
  exact ⟨t, l, x, dx, vs, ds, rfl, g.tups _ _ ht, sx.gw g, n0, nB, g.keep _ _ nB hl, sl.gw g, rfl⟩
theorem FrOne.avo (n : H p = none) (h : FrOne K B H0 H v d) : FrOne K (p :: B) H0 H v d := by
  obtain ⟨t, l, x, dx, vs, ds, rfl, ht, sx, n0, nB, hl, sl, rfl⟩ := h
  exact ⟨t, l, x, dx, vs, ds, rfl, ht, sx.avo n, n0, fun z => (List.mem_cons.mp z).elim (fun z => ne_of_none hl n z) nB, hl, sl.avo n, rfl⟩
end
inductive FrA (K : PySem.W.Frag) (B : List Addr) (H0 H : Hp) : List V → List D → Prop
  | nil : FrA K B H0 H [] []
  | cons {v : V} {d : D} {vs : List V} {ds : List D} : FrOne K B H0 H v d → FrA K B H0 H vs ds → FrA K B H0 H (v :: vs) (d :: ds)
section
variable {K : PySem.W.Frag} {B B' W : List Addr} {H0 H H' : Hp}
theorem FrA.imp (k : ∀ v d, FrOne K B H0 H v d → FrOne K B' H0 H' v d) : ∀ {vs : List V} {ds : List D}, FrA K B H0 H vs ds → FrA K B' H0 H' vs ds
  | _, _, .nil => .nil
  | _, _, .cons h r => .cons (k _ _ h) (r.imp k)
theorem FrA.sga : ∀ {vs : List V} {ds : List D}, FrA K B H0 H vs ds → SgA K B H vs ds
  | _, _, .nil => .nil
  | _, _, .cons h r => .cons h.sg r.sga
theorem FrA.append : ∀ {vs ws : List V} {ds es : List D}, FrA K B H0 H vs ds → FrA K B H0 H ws es → FrA K B H0 H (vs ++ ws) (ds ++ es)
  | _, _, _, _, .nil, r => r
  | _, _, _, _, .cons h r, q => .cons h (r.append q)
theorem FrA.mem : ∀ {vs : List V} {ds : List D} {i : Nat} {v : V}, FrA K B H0 H vs ds → vs[i]? = some v → ∃ d, ds[i]? = some d ∧ FrOne K B H0 H v d
  | _, _, _, _, .nil, e => by simp at e
  | _, _, 0, _, .cons h _, e => by simp at e; subst e; exact ⟨_, rfl, h⟩
  | _, _, i + 1, v, .cons _ r, e => by
    obtain ⟨d, h1, h2⟩ := FrA.mem (i := i) (v := v) r (by simpa using e)
    exact ⟨d, by simpa using h1, h2⟩
/-- the tuples' places beside the data -/
theorem FrA.zip : ∀ {vs : List V} {ds : List D}, FrA K B H0 H vs ds → ∃ zs : List (Addr × D), vs = zs.map (fun z => V.ref z.1) ∧ ds = zs.map Prod.snd ∧ ∀ z ∈ zs, FrOne K B H0 H (.ref z.1) z.2
  | _, _, .nil => ⟨[], rfl, rfl, fun _ m => nomatch m⟩
  | _, _, .cons h r => by
    obtain ⟨zs, e1, e2, e3⟩ := r.zip
    obtain ⟨t, l, x, dx, vs, ds, rfl, h2⟩ := id h
    refine ⟨(t, _) :: zs, by rw [e1]; rfl, by rw [e2]; rfl, fun z m => ?_⟩
    rcases List.mem_cons.mp m with rfl | m
    · exact h
    · exact e3 z m
end
def EF (K : PySem.W.Frag) (H0 : Hp) (te : TE) (P : D → Prop) (ρ : List En) : Prop := ∀ (B W : List Addr) (H : Hp) (σ : L2.St), EnvOk K B W H σ ρ → (∀ a, H a = none → H0 a = none) → ∀ Q : VK, (∀ v d H', Gs W H H' → FrOne K B H0 H' v d → P d → Q v H') → te σ H Q
def RFL (K : PySem.W.Frag) (H0 : Hp) (te : TE) (ρ : List En) (m : M (List D)) : Prop := ∀ P, wp m P → ∀ (B W : List Addr) (H : Hp) (σ : L2.St), EnvOk K B W H σ ρ → (∀ a, H a = none → H0 a = none) → ∀ Q : VK,
  (∀ a vs ds H', Gs W H H' → H a = none → H' a = some (.lst vs) → FrA K (a :: B) H0 H' vs ds → P ds → Q (.ref a) H') → te σ H Q
section
variable {K : PySem.W.Frag} {ρ : List En} {te ta tb : TE} {ma mb : M D} {p : Pt} {js : List Nat} {wi : TI} {mi : M (List D)} {H0 : Hp}
/-- the state between two turns -/
def CSf (K : PySem.W.Frag) (B W : List Addr) (H0 H1 : Hp) (Dl : Addr) (σ : L2.St) (ρ : List En) (k : D → M D) (ds : List D) (P : List D → Prop) (i : Nat) (H : Hp) : Prop :=
  ∃ (acc : List V) (es : List D), H Dl = some (.lst acc) ∧ FrA K (Dl :: B) H0 H acc es ∧ acc.length ≤ i ∧ wp (M.map k (ds.drop i)) (fun r => P (es ++ r)) ∧ EnvOk K (Dl :: B) W H σ ρ ∧ Gs W H1 H
theorem RFL.map {k : D → M D} (hi : RI K false wi ρ mi) (hs : ∀ j ∈ p.sl, j ∈ js) (hk : PB p (clrL ρ js) k (EF K H0 te)) : RFL K H0 (tLc wi (p.g K) tYes te js) ρ (mi.bind fun ds => M.map k ds) := fun P w B W H σ e fr Q q =>
  hi _ (wp_bind.mp w) B W H σ e _ fun J ds H1 g1 wk w1 Dl nD => by
    have e1 := e.gs g1
    have dB : Dl ∉ B := e1.bw.notNew nD
    have dW : Dl ∉ W := fun m => dB (e1.bw.sub _ m)
    obtain ⟨e2, o2, b2⟩ := e1.clrs js
    have kp : ∀ {H' : Hp}, Gs W H1 H' → Kp W (fun a => false = true ∧ Own σ ρ a) H1 H' := fun g => ⟨fun a o nW _ h => g.gw.keep a o nW h, g.gw.tups⟩
    have nO : ¬ Own (wipe σ js) (clrL ρ js) Dl := fun o => (e1.ownB (o2 _ o)).2.2 nD
    have nB : ¬ Bor (wipe σ js) (clrL ρ js) Dl := fun o => e1.borK (b2 _ o) nD
    refine ⟨fun i m H' => m = ds.length - i ∧ i ≤ ds.length ∧ CSf K B W H0 H1 Dl (wipe σ js) (clrL ρ js) k ds P i H', ⟨ds.length, by simp, Nat.zero_le _, [], [], upd_same, .nil, Nat.le_refl _, w1, e2.out nD, Gs.new nD⟩, ?_⟩
    rintro i m H2 ⟨rfl, hle, acc, es, hD, sa, hl, w2, en, g⟩
    by_cases hlt : i < ds.length
    · refine .inr ⟨wk.goes i H2 hlt (kp g), fun H' => i + 1 ≤ ds.length ∧ CSf K B W H0 H1 Dl (wipe σ js) (clrL ρ js) k ds P (i + 1) H', fun H' z => ⟨ds.length - (i + 1), by omega, rfl, z⟩, fun x H3 hy => ?_⟩
      obtain ⟨g3, hy⟩ := wk.yields i H2 x H3 hlt (kp g) hy
      obtain ⟨d, hd, s⟩ := hy (Dl :: B) (fun a m => en.bw.kn a m) fun v d s => by
        refine (s.out (u := .lst acc) nD).gw ⟨fun b o nb eb => ?_, fun b eb => ?_, fun b xs eb => ?_⟩
        · have hb : b ≠ Dl := fun q => nb (q ▸ List.mem_cons_self ..)
          rw [upd_ne hb] at eb
          exact g.gw.keep b o (fun m => nb (List.mem_cons_of_mem _ (e1.bw.sub _ m))) eb
        · have hb : b ≠ Dl := fun q => by
            rw [q, hD] at eb
            cases eb
          rw [upd_ne hb]
          exact g.gw.free b eb
        · have hb : b ≠ Dl := fun q => by
            rw [q, upd_same] at eb
            cases eb
          rw [upd_ne hb] at eb
          exact g.gw.tups b xs eb
      rw [List.drop_eq_getElem_cons hlt, show ds[i] = d from Option.some.inj (by rw [← hd, List.getElem?_eq_getElem hlt])] at w2
      have w3 := wp_bind.mp (show wp ((k d).bind fun y => (M.map k (ds.drop (i + 1))).bind fun r => .ret (y :: r)) (fun r => P (es ++ r)) from w2)
      obtain ⟨ρ', hb, hC⟩ := hk d _ w3
      have en3 := en.gs g3
      refine Pt.ok p en3 s hb fun σ4 a4 => ⟨a4.wi js hs |>.trans ?_, ?_⟩
      · apply List.ext_getElem?
        intro z
        rw [wipe_get, wipe_get, wipe_length]
        by_cases hz : z ∈ js
        · simp only [if_pos hz]
        · simp only [if_neg hz]
      · unfold tYes
        simp only [if_true]
        refine hC (Dl :: B) W H3 σ4 a4.en (fun a z => fr a (g1.gw.free a (g.gw.free a (g3.gw.free a z)))) _ fun y dy H6 g6 s6 w6 => ?_
        have g36 := g3.trans g6
        have hD6 : H6 Dl = some (.lst acc) := g36.gw.keep _ _ dW hD
        have en6 := en.gs g36
        have gwr : Gw (Dl :: B) H6 (upd H6 Dl (.lst (acc ++ [y]))) := Gw.wr (List.mem_cons_self ..) ⟨_, hD6, fun _ z => nomatch z⟩
        refine ⟨acc, hD6, ?_, by omega, acc ++ [y], es ++ [dy], upd_same, ?_, ?_, ?_, en6.wr ⟨_, hD6, fun _ z => nomatch z⟩ (List.mem_cons_self ..) dW nO nB, (g.trans g36).mut nD⟩
        · rw [sizeLine_eq]
          have := wk.len
          omega
        · exact ((sa.imp fun _ _ z => z.gw (en.bw.gw g36)).append (.cons s6 .nil)).imp fun _ _ z => z.gw gwr
        · rw [List.length_append, List.length_singleton]
          omega
        · refine wp_mono (wp_bind.mp w6) fun r z => ?_
          rw [List.append_assoc]
          exact z
    · have hi2 : i = ds.length := by omega
      subst hi2
      refine .inl ⟨wk.stops H2 (kp g), q Dl acc es H2 (g1.trans g) (g1.gw.free _ nD) hD sa ?_⟩
      rw [List.drop_length] at w2
      have w2 : P (es ++ []) := w2
      rwa [List.append_nil] at w2
end
end VB
namespace VB
open PySem PySem.Spec PyProof.Rows L2
section
variable {K : PySem.W.Frag} {B : List Addr} {H H' : Hp}
def Chg (H H' : Hp) : Prop := ∀ a o, H a = some o → (∀ xs, o ≠ .lst xs) → H' a = some o
theorem Chg.tup (k : Chg H H') {a : Addr} {xs : List V} (h : H a = some (.tup xs)) : H' a = some (.tup xs) := k _ _ h fun _ z => nomatch z
theorem Chg.ins (k : Chg H H') {a C dx : Addr} {fs : List (Str × V)} (h : H a = some (.ins C dx fs)) : H' a = some (.ins C dx fs) := k _ _ h fun _ z => nomatch z
theorem Chg.dK (k : Chg H H') {a : Addr} {kvs : List (Key × V)} (h : Rd H a (.dK kvs)) : Rd H' a (.dK kvs) := by
  rcases h with h | ⟨o, h⟩
  · exact .inl (k _ _ h fun _ z => nomatch z)
  · exact .inr ⟨o, k _ _ h fun _ z => nomatch z⟩
theorem Chg.dT (k : Chg H H') {a : Addr} {kvs : List (List Key × V)} (h : Rd H a (.dT kvs)) : Rd H' a (.dT kvs) := by
  rcases h with h | ⟨o, h⟩
  · exact .inl (k _ _ h fun _ z => nomatch z)
  · exact .inr ⟨o, k _ _ h fun _ z => nomatch z⟩
theorem Chg.din (k : Chg H H') {a : Addr} {w : World} {kvs : List KvN} (h : Rd H a (DicNX w a kvs)) : Rd H' a (DicNX w a kvs) := by
  rcases h with h | ⟨o, h⟩
  · exact .inl (k _ _ h fun _ z => nomatch z)
  · exact .inr ⟨o, k _ _ h fun _ z => nomatch z⟩
theorem noL_and {d : D} {ds : List D} (q : D.noLA (d :: ds) = true) : d.noL = true ∧ D.noLA ds = true := Bool.and_eq_true_iff.mp (show (_ && _) = true from q)
theorem noL_lst {ds : List D} (q : (D.lst ds).noL = true) : False := nomatch q
mutual
/-- data without lists does not see changed lists -/
theorem Sg.chg (k : Chg H H') : ∀ {v : V} {d : D}, Sg K B H v d → d.noL = true → Sg K B H' v d
  | _, _, .non, _ => .non
  | _, _, .bl b, _ => .bl b
  | _, _, .int i, _ => .int i
  | _, _, .str x, _ => .str x
  | _, _, .ty n, _ => .ty n
  | _, _, .raw a, _ => .raw a
  | _, _, .tup n h r, q => .tup n (k.tup h) (SgA.chg k r q)
  | _, _, .etup h, _ => .etup h
  | _, _, .lst n h r, q => (noL_lst q).elim
  | _, _, .dic n h e r, q => .dic n (k.dK h) e (SgA.chg k r q)
  | _, _, .dit n h e r, q => .dit n (k.dT h) e (SgA.chg k r q)
  | _, _, .din n h e r1 r, q => .din n (k.din h) e (SgA.chg k r1 (Bool.and_eq_true_iff.mp (show (_ && _) = true from q)).1) (SgA.chg k r (Bool.and_eq_true_iff.mp (show (_ && _) = true from q)).2)
  | _, _, .ins n h e r, q => .ins n (k.ins h) e (SgA.chg k r q)
theorem SgA.chg (k : Chg H H') : ∀ {vs : List V} {ds : List D}, SgA K B H vs ds → D.noLA ds = true → SgA K B H' vs ds
  | _, _, .nil, _ => .nil
  | _, _, .cons h r, q => .cons (Sg.chg k h (noL_and q).1) (SgA.chg k r (noL_and q).2)
end
end
def rowOk : D → Bool
  | .tup [_, .lst ds] => decide (ds.length ≤ 1000)
  | _ => false
theorem FrOne.ok {K : PySem.W.Frag} {B : List Addr} {H0 H : Hp} {v : V} {d : D} (h : FrOne K B H0 H v d) (q : rowOk d = true) : ∃ (t l : Addr) (x : V) (vs : List V), v = .ref t ∧ H t = some (.tup [x, .ref l]) ∧ H0 l = none ∧ l ∉ B ∧ H l = some (.lst vs) ∧ vs.length ≤ 1000 := by
  obtain ⟨t, l, x, dx, vs, ds, rfl, ht, sx, n0, nB, hl, sl, rfl⟩ := h
  exact ⟨t, l, x, vs, rfl, ht, n0, nB, hl, by rw [sl.length]; exact of_decide_eq_true q⟩
/-- what an argument is, a tuple of two -/
theorem G.un2 {K : PySem.W.Frag} {R : Po → Prop} {t : TS} {α : Type} {C : Po → α → Prop} {x : D} {ρf : D → List En} {kk : D → D → M α} (h : ∀ a b, G K R t (ρf (.tup [a, b])) (kk a b) C) : G K R t (ρf x) (D.un2 x kk) C := fun P r w => by
  obtain ⟨a, b, rfl, w1⟩ := un2_at w
  exact h a b P r w1
end VB
namespace VB
open PySem PySem.Spec PyProof.Rows L2
def rDictP (K : PySem.W.Frag) : List V → Hp → VK → Prop := fun xs H Q => ∃ (a : Addr) (ps : List Addr) (kvs : List (Key × V)), xs = [.ref a] ∧ SqL K H a (ps.map V.ref) ∧ Paired (fun p kv => SqT K H p [kV kv.1, kv.2]) ps kvs ∧
    ∀ p, H p = none → Q (.ref p) (upd H p (.dK (mergeK [] kvs)))
def rDictC : List V → Hp → VK → Prop := fun xs H Q => ∃ (a : Addr) (kvs : List (Key × V)), xs = [.ref a] ∧ Rd H a (.dK kvs) ∧ ∀ p, H p = none → Q (.ref p) (upd H p (.dK kvs))
def rDictA (K : PySem.W.Frag) : List V → Hp → VK → Prop := fun xs H Q => rDictP K xs H Q ∨ rDictC xs H Q
theorem kDictA {X : Cx} {K : PySem.W.Frag} (h : X.K = K) (hc : X.calm = true) : CallR X (.type "dict") (rDictA K) := by
  subst h
  intro pins s σ H xs us Q I r q
  rcases q with q | q
  · exact call_dictP hc pins s σ H xs us Q I r q
  · exact call_dictD pins s σ H xs us Q I r q
def rowsK : List D → Option (List (Key × D))
  | [] => some []
  | .tup [y, x] :: ds => match y.keyK, rowsK ds with
    | some k, some rs => some ((k, x) :: rs)
    | _, _ => none
  | _ :: _ => none
def mergeDK : List Key → List D → List (Key × D) → D
  | ks, ds, [] => .dic ks ds
  | ks, ds, r :: rs => mergeDK (putKs ks r.1) (putDs ks ds r.1 r.2) rs
def D.dictA (x : D) : M D := match x with
  | .lst ds => match rowsK ds with
    | some rs => .ret (mergeDK [] [] rs)
    | none => .fail
  | .dic ks ds => .ret (.dic ks ds)
  | _ => .fail
section
variable {K : PySem.W.Frag} {B : List Addr} {H : Hp}
theorem rowsK_at : ∀ {xs : List V} {ds : List D} {rs : List (Key × D)}, SgA K B H xs ds → rowsK ds = some rs → ∃ (ps : List Addr) (kvs : List (Key × V)), xs = ps.map V.ref ∧ Paired (fun (p : Addr) (r : Key × V) => SqT K H p [kV r.1, r.2]) ps kvs ∧
    kvs.map (·.1) = rs.map (·.1) ∧ SgA K B H (kvs.map (·.2)) (rs.map (·.2))
  | _, _, _, .nil, e => by
    cases e
    exact ⟨[], [], rfl, .nil, rfl, .nil⟩
  | _, d :: ds, rs, .cons h r, e => by
    match d, e with
    | .tup [y, x], e =>
      have e : (match y.keyK, rowsK ds with | some k, some rs => some ((k, x) :: rs) | _, _ => none) = some rs := e
      cases e1 : y.keyK with
      | none =>
        rw [e1] at e
        cases e
      | some k =>
        cases e2 : rowsK ds with
        | none =>
          rw [e1, e2] at e
          cases e
        | some rs2 =>
          rw [e1, e2] at e
          cases e
          obtain ⟨ps, kvs, rfl, hp, h1, h2⟩ := rowsK_at r e2
          cases h with
          | @tup p zs _ n hT rr =>
            cases rr with
            | cons s1 rr =>
              cases rr with
              | cons s2 rr =>
                cases rr
                have ek := sg_keyK s1 e1
                subst ek
                refine ⟨p :: ps, (k, _) :: kvs, rfl, .cons (Or.inl (Rd.of hT)) hp, ?_, .cons s2 h2⟩
                rw [List.map_cons, List.map_cons, h1]
theorem mergeDK_at {a : Addr} : ∀ {rows : List (Key × V)} {rs : List (Key × D)} {kvs : List (Key × V)} {ds : List D}, rows.map (·.1) = rs.map (·.1) → SgA K B H (rows.map (·.2)) (rs.map (·.2)) → SgA K B H (kvs.map (·.2)) ds → H a = some (.dK (mergeK kvs rows)) →
    OwAt K B H a (mergeDK (kvs.map (·.1)) ds rs)
  | [], [], kvs, ds, _, _, r, h => ⟨kvs, h, rfl, r⟩
  | [], _ :: _, _, _, e, _, _, _ => nomatch e
  | _ :: _, [], _, _, e, _, _, _ => nomatch e
  | r :: rows, q :: rs, kvs, ds, e, s, k, h => by
    rw [List.map_cons, List.map_cons] at e
    injection e with e1 e2
    rw [List.map_cons, List.map_cons] at s
    cases s with
    | cons s1 s2 =>
      have z := mergeDK_at (a := a) (kvs := putK kvs r.1 r.2) (ds := putDs (kvs.map (·.1)) ds r.1 q.2) e2 s2 (put_vals k s1) h
      rw [put_keys] at z
      unfold mergeDK
      rw [← e1]
      exact z
end
theorem dictA_c {K : PySem.W.Frag} : CaN K (rDictA K) (M.one D.dictA) := .one fun x P w B W H v b s Q q => by
  cases x with
  | lst ds =>
    obtain ⟨a, xs, rfl, _, h, r⟩ := s
    have w : wp (match rowsK ds with | some rs => M.ret (mergeDK [] [] rs) | none => .fail) P := w
    cases e : rowsK ds with
    | none =>
      rw [e] at w
      exact w.elim
    | some rs =>
      rw [e] at w
      obtain ⟨ps, kvs, rfl, hp, h1, h2⟩ := rowsK_at r e
      refine .inl ⟨a, ps, kvs, rfl, SqL.of h, hp, fun p n => q p _ _ (Gs.new n) n ?_ w⟩
      exact mergeDK_at (kvs := []) (ds := []) h1 (h2.out n) .nil upd_same
  | dic ks ds =>
    obtain ⟨a, kvs, rfl, _, h, rfl, r⟩ := s
    exact .inr ⟨a, kvs, rfl, h, fun p n => q p (.dic _ ds) _ (Gs.new n) n ⟨kvs, upd_same, rfl, r.out n⟩ w⟩
  | _ => exact (show False from w).elim
end VB
namespace VB
open PySem PySem.Spec PyProof.Rows L2
abbrev MP := (α : Type) → (List (D × D) → M α) → M α
inductive SgP (K : PySem.W.Frag) (B : List Addr) (H : Hp) : List (V × V) → List (D × D) → Prop
  | nil : SgP K B H [] []
  | cons {x y : V} {ps : List (V × V)} {d e : D} {ds : List (D × D)} : Sg K B H x d → Sg K B H y e → SgP K B H ps ds → SgP K B H ((x, y) :: ps) ((d, e) :: ds)
def EP' (K : PySem.W.Frag) (trs : List (TE × TE)) (ρ : List En) (P : List (D × D) → Prop) : Prop := ∀ (B W : List Addr) (H : Hp) (σ : L2.St), EnvOk K B W H σ ρ → ∀ Q : List (V × V) → Hp → Prop, (∀ ps ds H', Gs W H H' → SgP K B H' ps ds → P ds → Q ps H') → tPairs trs σ H Q
def RPs (K : PySem.W.Frag) (trs : List (TE × TE)) (ρ : List En) (A : MP) : Prop := ∀ (α : Type) (k : List (D × D) → M α) (P : α → Prop), wp (A α k) P → EP' K trs ρ fun ds => wp (k ds) P
def rowsKK : List (D × D) → Option (List (Key × D))
  | [] => some []
  | (y, x) :: ds => match y.keyK, rowsKK ds with
    | some k, some rs => some ((k, x) :: rs)
    | _, _ => none
def D.dispK (ds : List (D × D)) : M D := if ds.length ≤ 15 then (match rowsKK ds with
  | some rs => .ret (mergeDK [] [] rs)
  | none => .fail) else .fail
section
variable {K : PySem.W.Frag} {ρ : List En} {tk tv : TE} {trs : List (TE × TE)} {mk mv : M D} {A : MP}
theorem SgP.gw {B : List Addr} {H H' : Hp} (g : Gw B H H') : ∀ {ps : List (V × V)} {ds : List (D × D)}, SgP K B H ps ds → SgP K B H' ps ds
  | _, _, .nil => .nil
  | _, _, .cons a b r => .cons (a.gw g) (b.gw g) (SgP.gw g r)
theorem RPs.nil : RPs K [] ρ fun _ k => k [] := fun α k P w B W H σ e Q q => q [] [] H Gs.refl .nil w
theorem RPs.cons (hk : RE K tk ρ mk) (hv : RE K tv ρ mv) (hr : RPs K trs ρ A) : RPs K ((tk, tv) :: trs) ρ fun α k => mk.bind fun x => mv.bind fun y => A α fun ds => k ((x, y) :: ds) := fun α k P w B W H σ e Q q =>
  hk _ (wp_bind.mp w) B W H σ e _ fun v x H1 g1 s1 w1 => hv _ (wp_bind.mp w1) B W H1 σ (e.gs g1) _ fun u y H2 g2 s2 w2 => hr α _ P w2 B W H2 σ ((e.gs g1).gs g2) _ fun ps ds H3 g3 s3 w3 =>
    q _ _ H3 ((g1.trans g2).trans g3) (.cons (s1.gw ((e.gs g1).bw.gw (g2.trans g3))) (s2.gw (((e.gs g1).gs g2).bw.gw g3)) s3) w3
theorem rowsKK_at {B : List Addr} {H : Hp} : ∀ {ps : List (V × V)} {ds : List (D × D)} {rs : List (Key × D)}, SgP K B H ps ds → rowsKK ds = some rs → ∃ kvs : List (Key × V), ps = kvs.map (fun kv => (kV kv.1, kv.2)) ∧ kvs.map (·.1) = rs.map (·.1) ∧ SgA K B H (kvs.map (·.2)) (rs.map (·.2))
  | _, _, _, .nil, e => by
    cases e
    exact ⟨[], rfl, rfl, .nil⟩
  | _, (y, x) :: ds, rs, .cons a b r, e => by
    have e : (match y.keyK, rowsKK ds with | some k, some rs => some ((k, x) :: rs) | _, _ => none) = some rs := e
    cases e1 : y.keyK with
    | none =>
      rw [e1] at e
      cases e
    | some k =>
      cases e2 : rowsKK ds with
      | none =>
        rw [e1, e2] at e
        cases e
      | some rs2 =>
        rw [e1, e2] at e
        cases e
        obtain ⟨kvs, rfl, h1, h2⟩ := rowsKK_at r e2
        have ek := sg_keyK a e1
        subst ek
        refine ⟨(k, _) :: kvs, rfl, ?_, .cons b h2⟩
        rw [List.map_cons, List.map_cons, h1]
theorem SgP.len {B : List Addr} {H : Hp} : ∀ {ps : List (V × V)} {ds : List (D × D)}, SgP K B H ps ds → ps.length = ds.length
  | _, _, .nil => rfl
  | _, _, .cons _ _ r => congrArg (· + 1) r.len
theorem RN.disp (h : RPs K trs ρ A) : RN K (tDisp trs) ρ (A D D.dispK) := fun P w B W H σ e Q q p np => by
  have e1 : EnvOk K (p :: B) W (upd H p (.dK [])) σ ρ := e.out np
  refine h D _ P w (p :: B) W _ σ e1 _ fun ps ds H1 g1 s1 w1 => ?_
  obtain ⟨hz, w1⟩ := wp_ite w1
  have pW : p ∉ W := fun m => e.bw.notNew np (e.bw.sub _ m)
  have ep : H1 p = some (.dK []) := g1.gw.keep p _ pW upd_same
  refine ⟨ep, ?_⟩
  cases er : rowsKK ds with
  | none =>
    rw [er] at w1
    exact w1.elim
  | some rs =>
    rw [er] at w1
    obtain ⟨kvs, rfl, h1, h2⟩ := rowsKK_at s1 er
    have gw : Gw (p :: B) H1 (upd H1 p (.dK (mergeK [] kvs))) := Gw.wr (List.mem_cons_self ..) ⟨_, ep, fun _ z => nomatch z⟩
    refine ⟨kvs, rfl, ?_, q p (mergeDK [] [] rs) _ (((Gs.new np).trans g1).mut np) np ?_ w1⟩
    · have := s1.len
      rw [List.length_map] at this
      omega
    · exact mergeDK_at (kvs := []) (ds := []) h1 (h2.gw gw) .nil upd_same
end
end VB
namespace VB
open PySem PySem.Spec PyProof.Rows L2
theorem kFld {X : Cx} {K : PySem.W.Frag} {e : Expr} {f : Str} {pos : Pos} {ta : TE} (h : X.K = K) (he : PE X e ta) (hb : attributeBase e f X.env (eval e X.env) = eval e X.env) : PE X (.Attribute e f pos) (tFld K ta f) := h ▸ pe_fld he hb
end VB
namespace VB
open PySem PySem.Spec PyProof.Rows L2
end VB
namespace VB
open PySem PySem.Spec PyProof.Rows L2
section
variable {K : PySem.W.Frag} {ρ : List En} {ta tl t tk : TA} {te : TE} {ms md kd : List Md} {A Ak : MA} {m l : List D → M D} {m0 mo : M D} {E : XK} {C : Addr} {nm : Str} {dvs : List V} {dds : List D}
theorem RE.callE (h : RAm K ta ρ ms A) (e : m0 = A D m) : RE K (tCall (spM K ms m) [] E ta) ρ m0 := by
  rw [e]
  exact RE.call h
theorem RN.callE (h : RAm K ta ρ ms A) (e : m0 = A D m) : RN K (tCall (spMN K ms m) [] E ta) ρ m0 := by
  rw [e]
  exact RN.call h
end
end VB
namespace VB
open PySem PySem.Spec PyProof.Rows L2 Builtin Builtin.List
theorem tp_depth {A : Around} {args : Args} : (A.under (.builtin "tuple.__repr__" args)).depth ≤ A.depth + 1 := by
  first
    | exact Nat.le_of_eq rfl
    | exact Nat.le_succ _
    | (simp [Around.under, Code.weight, Code.isCreation, Code.isGuard, Code.isCaller, Code.frames, Code.isFrame, guardIds])
theorem Room.tp {k : Nat} {A : Around} {args : Args} (r : Room (k + 1) A) : Room k (A.under (.builtin "tuple.__repr__" args)) :=
  ⟨r.hd, by have := r.dp; have := tp_depth (A := A) (args := args); omega, by have := r.un; rw [units_under_tuple_repr]; omega⟩
theorem Env0.tp {P : Program} {w : World} {K : PySem.W.Frag} {mg : Str → Option Value} {base : Heap} {A : Around} {outer : List Env} {s : Shared} {H : Hp} {args : Args} (e : Env0 P w K mg base A outer s H) : Env0 P w K mg base (A.under (.builtin "tuple.__repr__" args)) outer s H := ⟨e.frames, e.mod, e.bs, e.bsz, e.funs, e.frf, e.hok, e.bare⟩
/-- the items shown one behind another -/
def Lt (C : Addr) (sp : List Code → Sp) (E : XK) (g : List Code) : List V → List Str → Hp → VK → Prop
  | [], acc, H, Q => (tupleText acc).length ≤ sizeLine ∧ Q (.str (tupleText acc)) H
  | v :: rest, acc, H, Q => ∃ x dx fs, v = .ref x ∧ H x = some (.ins C dx fs) ∧ piled acc + 1 ≤ sizeLine ∧ sp g [.ref x] H (fun z H' => ∃ y, z = .str y ∧ Lt C sp E g rest (acc ++ [y]) H' Q) E
end VB
namespace VB
open PySem PySem.Spec PyProof.Rows L2
end VB
namespace VB
open PySem PySem.Spec PyProof.Rows L2
end VB
namespace VB
open PySem PySem.Spec PyProof.Rows L2
end VB
namespace VB
open PySem PySem.Spec PyProof.Rows L2
/-- values of an argument list: true = a new object -/
inductive NewA (K : PySem.W.Frag) (B : List Addr) (H H' : Hp) : List Addr → List Bool → List V → List D → Prop
  | nil : NewA K B H H' [] [] [] []
  | dat {as : List Addr} {ms : List Bool} {v : V} {d : D} {vs : List V} {ds : List D} : Sg K B H' v d → NewA K B H H' as ms vs ds → NewA K B H H' as (false :: ms) (v :: vs) (d :: ds)
  | own {a : Addr} {as : List Addr} {ms : List Bool} {d : D} {vs : List V} {ds : List D} : H a = none → a ∉ as → OwAt K B H' a d → NewA K B H H' as ms vs ds → NewA K B H H' (a :: as) (true :: ms) (.ref a :: vs) (d :: ds)
/-- an argument list some of whose values are new objects -/
def RAo (K : PySem.W.Frag) (ta : TA) (ρ : List En) (ms : List Bool) (A : MA) : Prop := ∀ (α : Type) (k : List D → M α) (P : α → Prop), wp (A α k) P → ∀ (B W : List Addr) (H : Hp) (σ : L2.St), EnvOk K B W H σ ρ →
  ∀ Q : List V → Hp → Prop, (∀ as vs ds H', Gs W H H' → NewA K (as ++ B) H H' as ms vs ds → wp (k ds) P → Q vs H') → ta σ H Q
section
variable {K : PySem.W.Frag} {B B' W : List Addr} {H H0 H' H1 : Hp} {σ : L2.St} {ρ : List En} {p : Addr}
theorem NewA.imp (hs : ∀ v d, Sg K B H' v d → Sg K B' H1 v d) (ho : ∀ a d, OwAt K B H' a d → OwAt K B' H1 a d) (hn : ∀ a, H a = none → H0 a = none) : ∀ {as ms vs ds}, NewA K B H H' as ms vs ds → NewA K B' H0 H1 as ms vs ds
  | _, _, _, _, .nil => .nil
  | _, _, _, _, .dat s r => .dat (hs _ _ s) (r.imp hs ho hn)
  | _, _, _, _, .own n na k r => .own (hn _ n) na (ho _ _ k) (r.imp hs ho hn)
/-- a place that is new, held by nobody, may be left out -/
theorem EnvOk.ext {a : Addr} (h : EnvOk K B W H σ ρ) (g : Gs W H H') (n : H a = none) (kn : H' a ≠ none) : EnvOk K (a :: B) W H' σ ρ := by
  have g2 : Gw (a :: B) H H' := g.gw.mono fun x m => List.mem_cons_of_mem _ (h.bw.sub x m)
  refine ⟨⟨fun x m => List.mem_cons_of_mem _ (h.bw.sub x m), fun x m => ?_⟩, h.len, fun j e q => ?_, h.one, h.sep⟩
  · rcases List.mem_cons.mp m with z | z
    · rw [z]
      exact kn
    · exact fun z2 => h.bw.kn x z (g.gw.free x z2)
  · have r := h.sl j e q
    cases e with
    | no => trivial
    | dat d =>
      obtain ⟨v, e1, s⟩ := r
      exact ⟨v, e1, (s.avo n).gw g2⟩
    | bag b =>
      obtain ⟨e1, m, c, ns, nc, hb⟩ := r
      refine ⟨e1, m, c, ns, fun z => ?_, g.bag b m c ns (fun z => nc (h.bw.sub c z)) hb⟩
      rcases List.mem_cons.mp z with q | q
      · exact ne_of_none hb.2.1 n q
      · exact nc q
    | own d =>
      obtain ⟨b, e1, m, nw, kb⟩ := r
      exact ⟨b, e1, List.mem_cons_of_mem _ m, nw, kb.mv (fun o z => g.gw.keep b o nw z) fun _ _ r => (r.avo n).gw g2⟩
    | bor d =>
      obtain ⟨v, e1, k⟩ := r
      exact ⟨v, e1, k.mv (fun b o _ nw z => g.gw.keep b o nw z) (fun _ _ r => (r.avo n).gw g2) fun r => (r.avo n).gw g2⟩
theorem NewA.as_ok : ∀ {as ms vs ds}, NewA K B H H' as ms vs ds → (∀ a ∈ as, H a = none ∧ H' a ≠ none) ∧ as.Nodup
  | _, _, _, _, .nil => ⟨fun _ m => (nomatch m), List.nodup_nil⟩
  | _, _, _, _, .dat _ r => r.as_ok
  | _, _, _, _, .own n na k r => ⟨fun b m => (List.mem_cons.mp m).elim (fun z => by rw [z]; exact ⟨n, k.kn⟩) (r.as_ok.1 b), List.nodup_cons.mpr ⟨na, r.as_ok.2⟩⟩
end
section
variable {K : PySem.W.Frag} {ρ : List En} {te : TE} {ta : TA} {md : M D} {A : MA} {ms : List Bool} {R : Po → Prop} {u : TS} {α : Type} {CC : Po → α → Prop}
theorem RAo.nil : RAo K tNil ρ [] fun _ k => k [] := fun α k P w B W H σ e Q q => q [] _ _ H Gs.refl .nil w
theorem RAo.dat (he : RE K te ρ md) (h : RAo K ta ρ ms A) : RAo K (tCons te ta) ρ (false :: ms) fun α k => md.bind fun x => A α fun xs => k (x :: xs) := fun α k P w B W H σ e Q q =>
  he _ (wp_bind.mp w) B W H σ e _ fun v x H1 g1 s1 w1 => h α _ P w1 B W H1 σ (e.gs g1) _ fun as vs ds H2 g2 r w2 => by
    have n := r.as_ok.1
    refine q as _ _ H2 (g1.trans g2) (.dat ?_ (r.imp (fun _ _ z => z) (fun _ _ z => z) fun a z => g1.gw.free a z)) w2
    refine s1.mv (fun b o nb hb => g2.gw.keep b o (fun m => nb (e.bw.sub b m)) hb) g2.gw.tups fun b m => ?_
    rcases List.mem_append.mp m with z | z
    · exact .inr (n b z).1
    · exact .inl z
theorem RAo.own (he : RN K te ρ md) (h : RAo K ta ρ ms A) : RAo K (tCons te ta) ρ (true :: ms) fun α k => md.bind fun x => A α fun xs => k (x :: xs) := fun α k P w B W H σ e Q q =>
  he _ (wp_bind.mp w) B W H σ e _ fun a x H1 g1 n1 k1 w1 => by
    have e1 : EnvOk K (a :: B) W H1 σ ρ := e.ext g1 n1 k1.kn
    refine h α _ P w1 (a :: B) W H1 σ e1 _ fun as vs ds H2 g2 r w2 => ?_
    have n := r.as_ok.1
    have sub : ∀ b ∈ a :: as ++ B, b ∈ as ++ a :: B := fun b m => by
      rcases List.mem_cons.mp m with z | z
      · rw [z]
        exact List.mem_append_right _ (List.mem_cons_self ..)
      · rcases List.mem_append.mp z with z | z
        · exact List.mem_append_left _ z
        · exact List.mem_append_right _ (List.mem_cons_of_mem _ z)
    have aW : a ∉ W := fun m => e.bw.kn a (e.bw.sub a m) n1
    have lessA : ∀ {vs : List V} {ds : List D}, SgA K (as ++ a :: B) H2 vs ds → SgA K (a :: as ++ B) H2 vs ds := fun r => r.less sub
    refine q (a :: as) _ _ H2 (g1.trans g2) (.own n1 (fun m => k1.kn (n a m).1) ?_ (r.imp (fun _ _ z => z.less sub) (fun b d z => z.mv (fun _ y => y) fun _ _ r => lessA r) fun b z => g1.gw.free b z)) w2
    refine k1.mv (fun o z => g2.gw.keep a o aW z) fun _ _ r => ?_
    refine r.mv (fun b o nb hb => g2.gw.keep b o (fun m => nb (List.mem_cons_of_mem _ (e.bw.sub b m))) hb) g2.gw.tups fun b m => ?_
    rcases List.mem_append.mp (sub b m) with z | z
    · exact .inr (n b z).1
    · exact .inl z
end
end VB
namespace VB
open PySem PySem.Spec PyProof.Rows L2
end VB
namespace VB
open PySem PySem.Spec PyProof.Rows L2
mutual
inductive Sn (K : PySem.W.Frag) (B : List Addr) (H0 H : Hp) : V → D → Prop
  | flt {v : V} {d : D} : Sg K B H v d → d.flt = true → Sn K B H0 H v d
  | tup {a : Addr} {xs : List V} {ds : List D} : H a = some (.tup xs) → SnA K B H0 H xs ds → Sn K B H0 H (.ref a) (.tup ds)
  | lst {a : Addr} {xs : List V} {ds : List D} : H0 a = none → V.ref a ∉ xs → H a = some (.lst xs) → SnA K B H0 H xs ds → Sn K B H0 H (.ref a) (.lst ds)
inductive SnA (K : PySem.W.Frag) (B : List Addr) (H0 H : Hp) : List V → List D → Prop
  | nil : SnA K B H0 H [] []
  | cons {v : V} {vs : List V} {d : D} {ds : List D} : Sn K B H0 H v d → SnA K B H0 H vs ds → SnA K B H0 H (v :: vs) (d :: ds)
end
section
variable {K : PySem.W.Frag} {B W : List Addr} {H0 H H' : Hp}
mutual
theorem Sn.sg (k : ∀ a ∈ B, H0 a ≠ none) : ∀ {v : V} {d : D}, Sn K B H0 H v d → Sg K B H v d
  | _, _, .flt s _ => s
  | _, _, .tup h r => .tup trivial h (SnA.sg k r)
  | _, _, .lst n _ h r => .lst (fun m => k _ m n) h (SnA.sg k r)
theorem SnA.sg (k : ∀ a ∈ B, H0 a ≠ none) : ∀ {vs : List V} {ds : List D}, SnA K B H0 H vs ds → SgA K B H vs ds
  | _, _, .nil => .nil
  | _, _, .cons h r => .cons (Sn.sg k h) (SnA.sg k r)
end
mutual
theorem Sn.back {H1 : Hp} (f : ∀ a, H1 a = none → H0 a = none) : ∀ {v : V} {d : D}, Sn K B H1 H v d → Sn K B H0 H v d
  | _, _, .flt s q => .flt s q
  | _, _, .tup h r => .tup h (SnA.back f r)
  | _, _, .lst n m h r => .lst (f _ n) m h (SnA.back f r)
theorem SnA.back {H1 : Hp} (f : ∀ a, H1 a = none → H0 a = none) : ∀ {vs : List V} {ds : List D}, SnA K B H1 H vs ds → SnA K B H0 H vs ds
  | _, _, .nil => .nil
  | _, _, .cons h r => .cons (Sn.back f h) (SnA.back f r)
end
mutual
theorem Sn.gw (k : ∀ a ∈ B, H0 a ≠ none) (g : Gw B H H') : ∀ {v : V} {d : D}, Sn K B H0 H v d → Sn K B H0 H' v d
  | _, _, .flt s q => .flt (s.gw g) q
  | _, _, .tup h r => .tup (g.tups _ _ h) (SnA.gw k g r)
  | _, _, .lst n m h r => .lst n m (g.keep _ _ (fun z => k _ z n) h) (SnA.gw k g r)
theorem SnA.gw (k : ∀ a ∈ B, H0 a ≠ none) (g : Gw B H H') : ∀ {vs : List V} {ds : List D}, SnA K B H0 H vs ds → SnA K B H0 H' vs ds
  | _, _, .nil => .nil
  | _, _, .cons h r => .cons (Sn.gw k g h) (SnA.gw k g r)
end
mutual
theorem Sn.less {B' : List Addr} (s : ∀ a ∈ B', a ∈ B) : ∀ {v : V} {d : D}, Sn K B H0 H v d → Sn K B' H0 H v d
  | _, _, .flt h q => .flt (h.less s) q
  | _, _, .tup h r => .tup h (SnA.less s r)
  | _, _, .lst n m h r => .lst n m h (SnA.less s r)
theorem SnA.less {B' : List Addr} (s : ∀ a ∈ B', a ∈ B) : ∀ {vs : List V} {ds : List D}, SnA K B H0 H vs ds → SnA K B' H0 H vs ds
  | _, _, .nil => .nil
  | _, _, .cons h r => .cons (Sn.less s h) (SnA.less s r)
end
theorem SnA.append : ∀ {xs ys : List V} {ds es : List D}, SnA K B H0 H xs ds → SnA K B H0 H ys es → SnA K B H0 H (xs ++ ys) (ds ++ es)
  | _, _, _, _, .nil, s => s
  | _, _, _, _, .cons h r, s => .cons h (SnA.append r s)
theorem SnA.length : ∀ {vs : List V} {ds : List D}, SnA K B H0 H vs ds → vs.length = ds.length
  | _, _, .nil => rfl
  | _, _, .cons _ r => congrArg (· + 1) (SnA.length r)
/-- what such a value names is there -/
theorem Sn.kn {a : Addr} {d : D} (s : Sn K B H0 H (.ref a) d) : H a ≠ none := by
  cases s with
  | flt s q =>
    cases s with
    | raw => cases q
    | etup => cases q
    | tup _ h _ => rw [h]; exact fun z => nomatch z
    | lst _ h _ => rw [h]; exact fun z => nomatch z
    | dic _ h _ _ => exact rd_some h
    | dit _ h _ _ => exact rd_some h
    | din _ h _ _ _ => exact rd_some h
    | ins _ h _ _ => rw [h]; exact fun z => nomatch z
  | tup h r => rw [h]; exact fun z => nomatch z
  | lst n m h r => rw [h]; exact fun z => nomatch z
theorem SnA.kn {a : Addr} : ∀ {vs : List V} {ds : List D}, SnA K B H0 H vs ds → V.ref a ∈ vs → H a ≠ none
  | _, _, .cons h r, m => by
    rcases List.mem_cons.mp m with z | z
    · rw [← z] at h
      exact h.kn
    · exact SnA.kn r z
theorem SnA.get : ∀ {vs : List V} {ds : List D} {i : Nat} {d : D}, SnA K B H0 H vs ds → ds[i]? = some d → ∃ v, vs[i]? = some v ∧ Sn K B H0 H v d
  | _, _, _, _, .nil, e => by simp at e
  | _, _, 0, _, .cons h _, e => by simp at e; subst e; exact ⟨_, rfl, h⟩
  | _, _, i + 1, d, .cons _ r, e => by
    obtain ⟨v, h1, h2⟩ := SnA.get (i := i) (d := d) r (by simpa using e)
    exact ⟨v, by simpa using h1, h2⟩
/-- a place that was not there at first is written -/
theorem gs_new {a : Addr} {o u : HO} (na : H0 a = none) (g : Gs W H0 H) (ha : H a = some o) : Gs W H0 (upd H a u) := by
  have ne : ∀ b ob, H0 b = some ob → b ≠ a := fun b ob hb => ne_of_none hb na
  refine ⟨⟨fun b ob nb hb => by rw [upd_ne (ne b ob hb)]; exact g.gw.keep b ob nb hb, fun b hb => ?_, fun b xs hb => by rw [upd_ne (ne b _ hb)]; exact g.gw.tups b xs hb⟩, fun bb mb c ns nc hb => ?_⟩
  · by_cases z : b = a
    · rw [z, upd_same] at hb
      cases hb
    · rw [upd_ne z] at hb
      exact g.gw.free b hb
  · obtain ⟨⟨z, s, k, e1, v1⟩, e2, e3⟩ := g.bag bb mb c ns nc hb
    obtain ⟨⟨z', s', k', e1', _⟩, e2', _⟩ := hb
    exact ⟨⟨z, s, k, by rw [upd_ne (ne bb _ e1')]; exact e1, v1⟩, by rw [upd_ne (ne c _ e2')]; exact e2, e3⟩
end
/-- an expression all of whose lists are new -/
def RY (K : PySem.W.Frag) (te : TE) (ρ : List En) (m : M D) : Prop := ∀ P, wp m P → ∀ (B W : List Addr) (H : Hp) (σ : L2.St), EnvOk K B W H σ ρ → ∀ Q : VK, (∀ v d H', Gs W H H' → Sn K B H H' v d → P d → Q v H') → te σ H Q
def RYs (K : PySem.W.Frag) (ta : TA) (ρ : List En) (A : MA) : Prop := ∀ (α : Type) (k : List D → M α) (P : α → Prop), wp (A α k) P → ∀ (B W : List Addr) (H : Hp) (σ : L2.St), EnvOk K B W H σ ρ → ∀ Q : List V → Hp → Prop, (∀ vs ds H', Gs W H H' → SnA K B H H' vs ds → wp (k ds) P → Q vs H') → ta σ H Q
def D.fltM (d : D) : M D := if d.flt = true then .ret d else .fail
def D.newM (d : D) : M D := match d with
  | .lst ds => if ds.all D.flt = true then .ret (.lst ds) else .fail
  | _ => .fail
section
variable {K : PySem.W.Frag} {R : Po → Prop} {t u v : TS} {ρ : List En} {α : Type} {m m2 md me : M D} {C : Po → α → Prop} {te : TE} {tt : TT} {ta : TA} {A : MA} {mt : M Bool} {i j : Nat} {d : D}
theorem sgA_flt {B : List Addr} {H0 H : Hp} : ∀ {vs : List V} {ds : List D}, SgA K B H vs ds → ds.all D.flt = true → SnA K B H0 H vs ds
  | _, _, .nil, _ => .nil
  | _, _, .cons h r, q => by
    rw [List.all_cons, Bool.and_eq_true] at q
    exact .cons (.flt h q.1) (sgA_flt r q.2)
theorem RY.flt (h : RE K te ρ m) : RY K te ρ (m.bind D.fltM) := fun P w B W H σ e Q q => h _ (wp_bind.mp w) B W H σ e Q fun v d H' g s w1 => by
  obtain ⟨h1, h2⟩ := wp_ite w1
  exact q v d H' g (.flt s h1) h2
theorem RY.new (h : RN K te ρ m) : RY K te ρ (m.bind D.newM) := fun P w B W H σ e Q q => h _ (wp_bind.mp w) B W H σ e Q fun a d H' g n k w1 => by
  cases d with
  | lst ds =>
    obtain ⟨h1, h2⟩ := wp_ite w1
    obtain ⟨xs, hx, r⟩ := k
    have r' := r.less (B' := B) fun x m => List.mem_cons_of_mem _ m
    refine q _ _ H' g (.lst n (fun mm => ?_) hx (sgA_flt r' h1)) h2
    have fl : ∀ {vs : List V} {ds : List D}, SgA K (a :: B) H' vs ds → ds.all D.flt = true → V.ref a ∉ vs := by
      intro vs
      induction vs with
      | nil => exact fun _ _ z => nomatch z
      | cons v vs ih =>
        intro ds s q z
        cases s with
        | cons s1 s2 =>
          rw [List.all_cons, Bool.and_eq_true] at q
          rcases List.mem_cons.mp z with z | z
          · subst z
            cases s1 with
            | tup _ h _ => rw [hx] at h; cases h
            | lst nb _ _ => exact nb (List.mem_cons_self ..)
            | dic nb _ _ _ => exact nb (List.mem_cons_self ..)
            | dit nb _ _ _ => exact nb (List.mem_cons_self ..)
            | din nb _ _ _ _ => exact nb (List.mem_cons_self ..)
            | ins nb _ _ _ => exact nb (List.mem_cons_self ..)
            | raw => cases q.1
            | etup => cases q.1
          · exact ih s2 q.2 z
    exact fl r h1 mm
  | _ => exact w1.elim
theorem RYs.nil : RYs K tNil ρ fun _ k => k [] := fun α k P p B W H σ e Q q => q _ _ H Gs.refl .nil p
theorem RYs.cons {tr : TA} {mr : MA} (ha : RY K te ρ m) (hr : RYs K tr ρ mr) : RYs K (tCons te tr) ρ fun α k => m.bind fun x => mr α fun xs => k (x :: xs) := fun α k P w B W H σ e Q q =>
  ha _ (wp_bind.mp w) B W H σ e _ fun v x H1 g1 s1 w1 => hr α _ P w1 B W H1 σ (e.gs g1) _ fun vs ds H2 g2 s2 w2 =>
    q _ _ H2 (g1.trans g2) (.cons (s1.gw e.bw.kn ((e.gs g1).bw.gw g2)) (s2.back g1.gw.free)) w2
theorem RY.lst (h : RYs K ta ρ A) : RY K (tLst ta) ρ (A D D.lstM) := fun P w B W H σ e Q q => h _ _ _ w B W H σ e _ fun vs ds H1 g1 s1 w1 => by
  obtain ⟨h1, h2⟩ := wp_ite w1
  refine ⟨by rw [sizeLine_eq, s1.length]; exact h1, fun p n => q _ _ _ (g1.trans (Gs.new n)) (.lst (g1.gw.free p n) (fun z => s1.kn z n) upd_same (s1.gw e.bw.kn (Gw.new n))) h2⟩
/-- the block t, the value at i having been made since H0 -/
def GD (K : PySem.W.Frag) (R : Po → Prop) (t : TS) (ρ : List En) (i : Nat) (d : D) {α : Type} (m : M α) (C : Po → α → Prop) : Prop := ∀ P : Po, R P → wp m (C P) → ∀ (F B W : List Addr) (H0 H : Hp) (σ : L2.St) (v : V),
  EnvOk K B W H0 σ (ρ.set i .no) → Fr F B W σ (ρ.set i .no) → Gs W H0 H → Sn K B H0 H v d → σ[i]? = some (some v) → ∀ E : Ends,
  Cn K F W H0 σ (ρ.set i .no) P.nx E.nx → Cr K P.fr F W H0 σ (ρ.set i .no) P.rt E.rt → Cn K F W H0 σ (ρ.set i .no) P.bk E.bk → Cn K F W H0 σ (ρ.set i .no) P.ct E.ct → t E σ H
theorem set_same {σ : L2.St} {v : V} (h : σ[i]? = some (some v)) : σ.set i (some v) = σ := by
  obtain ⟨hl, hv⟩ := List.getElem?_eq_some_iff.mp h
  rw [← hv]
  exact List.set_getElem_self hl
theorem env_dat {B W : List Addr} {H0 H : Hp} {σ : L2.St} {v : V} (e : EnvOk K B W H0 σ (ρ.set i .no)) (g : Gs W H0 H) (s : Sn K B H0 H v d) (h : σ[i]? = some (some v)) : EnvOk K B W H σ (ρ.set i (.dat d)) := by
  have z := (e.gs g).set (i := i) (s.sg e.bw.kn)
  rw [set_same h, List.set_set] at z
  exact z
theorem own_dat {σ : L2.St} {a : Addr} {x : En} (nx : x.isOwn = false) (o : Own σ (ρ.set i x) a) : Own σ (ρ.set i .no) a := by
  obtain ⟨j, o, h1, h2⟩ := o
  obtain ⟨z, h1⟩ := own_set h1 nx
  exact ⟨j, o, by rw [List.getElem?_set_ne z]; exact h1, h2⟩
theorem fr_dat {F B W : List Addr} {σ : L2.St} {x : En} (nx : x.isOwn = false) (f : Fr F B W σ (ρ.set i .no)) : Fr F B W σ (ρ.set i x) := by
  refine ⟨f.fb, fun a m => (f.bf a m).imp id fun o => ?_, fun a m o => f.no a m (own_dat nx o), f.wf⟩
  obtain ⟨j, o, h1, h2⟩ := o
  obtain ⟨z, h1⟩ := own_set h1 rfl
  exact ⟨j, o, by rw [List.getElem?_set_ne z]; exact h1, h2⟩
theorem GD.start {k : D → M α} (hl : i < ρ.length) (he : RY K te ρ md) (h : ∀ d, GD K R u ρ i d (k d) C) : G K R (tSeq (tAsg te (gName i)) u) ρ (md.bind k) C := fun P r w F B W H σ e f E q1 q2 q3 q4 =>
  he _ (wp_bind.mp w) B W H σ e _ fun v d H1 g1 s1 w1 => by
    have e2 : EnvOk K B W H (σ.set i (some v)) (ρ.set i .no) := e.put rfl trivial
    have os : ∀ x, Own (σ.set i (some v)) (ρ.set i .no) x → Own σ ρ x := fun x o => Own.set o rfl
    have bk : ∃ B', (∀ x, x ∈ B' → x ∈ B) ∧ EnvOk K B' W H (σ.set i (some v)) (ρ.set i .no) ∧ Fr F B' W (σ.set i (some v)) (ρ.set i .no) := by
      classical
      have mem : ∀ x, x ∈ B.filter (fun x => decide (x ∈ F ∨ Own (σ.set i (some v)) (ρ.set i .no) x)) ↔ x ∈ B ∧ (x ∈ F ∨ Own (σ.set i (some v)) (ρ.set i .no) x) := fun x => by
        rw [List.mem_filter, decide_eq_true_iff]
      refine ⟨B.filter (fun x => decide (x ∈ F ∨ Own (σ.set i (some v)) (ρ.set i .no) x)), fun x m => ((mem x).mp m).1, e2.back (fun x m => ((mem x).mp m).1) (fun x m => (mem x).mpr ⟨e2.bw.sub x m, .inl (f.wf x m)⟩) (fun x o => (mem x).mpr ⟨(e2.ownB o).1, .inr o⟩), ?_⟩
      exact ⟨fun x m => (mem x).mpr ⟨f.fb x m, .inl m⟩, fun x m => ((mem x).mp m).2, fun a m o => f.no a m (os a o), f.wf⟩
    obtain ⟨B', sb, e3, f3⟩ := bk
    have g : Gu W (Own σ ρ) (Own (σ.set i (some v)) (ρ.set i .no)) H H := .of Gs.refl os
    exact h d P r w1 F B' W H H1 _ v e3 f3 g1 (s1.less sb) (List.getElem?_set_self (by rw [e.len]; exact hl)) E (q1.after g) (q2.after g) (q3.after g) (q4.after g)
/-- it is data from here on -/
theorem GD.dat {m : M α} (h : G K R t (ρ.set i (.dat d)) m C) : GD K R t ρ i d m C := fun P r w F B W H0 H σ v e f g s hi E q1 q2 q3 q4 => by
  have gg : Gu W (Own σ (ρ.set i .no)) (Own σ (ρ.set i (.dat d))) H0 H := .of g fun a o => own_dat rfl o
  exact h P r w F B W H σ (env_dat e g s hi) (fr_dat rfl f) E (q1.after gg) (q2.after gg) (q3.after gg) (q4.after gg)
theorem GD.one {m : M α} (h : GD K R (tSeq t tNext) ρ i d m C) : GD K R t ρ i d m C := h
theorem GD.assoc {m : M α} (h : GD K R (tSeq t (tSeq u v)) ρ i d m C) : GD K R (tSeq (tSeq t u) v) ρ i d m C := h
theorem GD.next {m : M α} (h : GD K R v ρ i d m C) : GD K R (tSeq tNext v) ρ i d m C := h
theorem GD.ifS {m m2 : M α} (ht : RT K tt (ρ.set i (.dat d)) mt) (h1 : GD K R (tSeq t v) ρ i d m C) (h2 : GD K R (tSeq u v) ρ i d m2 C) : GD K R (tSeq (tIfS tt t u) v) ρ i d (mt.bind fun b => if b = true then m else m2) C := fun P r w F B W H0 H σ x e f g s hi E q1 q2 q3 q4 =>
  ht _ (wp_bind.mp w) B W H σ (env_dat e g s hi) _ fun b H1 g1 w1 => by
    have s1 := s.gw e.bw.kn ((e.gs g).bw.gw g1)
    cases b with
    | true => exact h1 P r w1 F B W H0 H1 σ x e f (g.trans g1) s1 hi E q1 q2 q3 q4
    | false => exact h2 P r w1 F B W H0 H1 σ x e f (g.trans g1) s1 hi E q1 q2 q3 q4
def D.addLM (d x : D) : M D := match d, x with
  | .lst xs, .lst ys => if xs.length + ys.length ≤ 16777216 then .ret (.lst (xs ++ ys)) else .fail
  | _, _ => .fail
/-- x = x + [..] -/
theorem GD.add {kk : D → M α} (hl : i < ρ.length) (he : RY K te (ρ.set i (.dat d)) me) (h : ∀ d', GD K R u ρ i d' (kk d') C) : GD K R (tSeq (tAsg (tOp (rAdd K) (tVar i) te) (gName i)) u) ρ i d (me.bind fun x => (D.addLM d x).bind kk) C := fun P r w F B W H0 H σ vx e f g s hi E q1 q2 q3 q4 =>
  ⟨vx, hi, he _ (wp_bind.mp w) B W H σ (env_dat e g s hi) _ fun y x H1 g1 s1 w1 => by
    cases d with
    | lst ds =>
      cases x with
      | lst es =>
        obtain ⟨h1, h2⟩ := wp_ite (wp_bind.mp w1)
        have sx := s.gw e.bw.kn ((e.gs g).bw.gw g1)
        have sy := s1.back g.gw.free
        cases sx with
        | flt _ z => cases z
        | @lst p1 xs1 _ n0 nm hx rx =>
          cases sy with
          | flt _ z => cases z
          | @lst p2 ys1 _ n0' nm' hy ry =>
            refine .inr (.inr (.inl ⟨_, _, _, _, rfl, rfl, hx, hy, by rw [rx.length, ry.length, sizeLine_eq]; exact h1, fun p n => ?_⟩))
            have g2 := (g.trans g1).trans (Gs.new (W := W) (o := .lst (xs1 ++ ys1)) n)
            have rr := (rx.append ry).gw e.bw.kn (Gw.new (W := B) (o := .lst (xs1 ++ ys1)) n)
            have e2 : EnvOk K B W H0 (σ.set i (some (.ref p))) (ρ.set i .no) := by
              have z : EnvOk K B W H0 (σ.set i (some (.ref p))) ((ρ.set i .no).set i .no) := e.put rfl trivial
              rw [List.set_set] at z
              exact z
            have os : ∀ y : List V, ∀ a, Own (σ.set i (some (.ref p))) (ρ.set i .no) a ↔ Own σ (ρ.set i .no) a := fun _ a => by
              constructor
              · rintro ⟨j, o, h1, h2⟩
                obtain ⟨z, h3⟩ := own_set h1 rfl
                rw [List.getElem?_set_ne z] at h2
                exact ⟨j, o, h1, h2⟩
              · rintro ⟨j, o, h1, h2⟩
                obtain ⟨z, h3⟩ := own_set h1 rfl
                exact ⟨j, o, h1, by rw [List.getElem?_set_ne z]; exact h2⟩
            have f2 : Fr F B W (σ.set i (some (.ref p))) (ρ.set i .no) := ⟨f.fb, fun a m => (f.bf a m).imp id fun o => (os [] a).mpr o, fun a m o => f.no a m ((os [] a).mp o), f.wf⟩
            have gg : Gu W (Own σ (ρ.set i .no)) (Own (σ.set i (some (.ref p))) (ρ.set i .no)) H0 H0 := .of Gs.refl fun a o => (os [] a).mp o
            have np : ∀ a o, H0 a = some o → a ≠ p := fun a o z => ne_of_none z ((g.trans g1).gw.free p n)
            refine h _ P r h2 F B W H0 _ _ (.ref p) e2 f2 g2 (.lst ((g.trans g1).gw.free p n) (fun z => (rx.append ry).kn z n) upd_same rr) (List.getElem?_set_self ?_) E (q1.after gg) (q2.after gg) (q3.after gg) (q4.after gg)
            rw [e.len, List.length_set]
            exact hl
      | _ => exact w1.elim
    | _ => exact (show False by cases x <;> exact w1).elim⟩
/-- js: the places of the inner lists, none longer than n -/
def SmJ (B : List Addr) (H0 H : Hp) (js : List Nat) (n : Nat) (v : V) : Prop := ∃ (p : Addr) (xs : List V), v = .ref p ∧ (H p = some (.tup xs) ∨ H p = some (.lst xs) ∧ H0 p = none) ∧ ∀ j ∈ js, ∃ (a : Addr) (ws : List V), xs[j]? = some (.ref a) ∧ H0 a = none ∧ a ≠ p ∧ H a = some (.lst ws) ∧ ws.length ≤ n
def GM (K : PySem.W.Frag) (R : Po → Prop) (t : TS) (ρ : List En) (i : Nat) (js : List Nat) (n : Nat) {α : Type} (m : M α) (C : Po → α → Prop) : Prop := ∀ P : Po, R P → wp m (C P) → ∀ (F B W : List Addr) (H0 H : Hp) (σ : L2.St) (v : V),
  EnvOk K B W H0 σ (ρ.set i .no) → Fr F B W σ (ρ.set i .no) → Gs W H0 H → SmJ B H0 H js n v → σ[i]? = some (some v) → ∀ E : Ends,
  Cn K F W H0 σ (ρ.set i .no) P.nx E.nx → Cr K P.fr F W H0 σ (ρ.set i .no) P.rt E.rt → Cn K F W H0 σ (ρ.set i .no) P.bk E.bk → Cn K F W H0 σ (ρ.set i .no) P.ct E.ct → t E σ H
def D.shp (js : List Nat) (n : Nat) : D → Bool
  | .lst ds => js.all fun j => match ds[j]? with | some (.lst ys) => decide (ys.length ≤ n) | _ => false
  | .tup ds => js.all fun j => match ds[j]? with | some (.lst ys) => decide (ys.length ≤ n) | _ => false
  | _ => false
theorem noLA_all : ∀ {ds : List D}, D.noLA ds = true → ∀ d ∈ ds, d.noL = true
  | _ :: _, h, _, m => by
    have z := noL_and h
    rcases List.mem_cons.mp m with q | q
    · rw [q]; exact z.1
    · exact noLA_all z.2 _ q
theorem shp_at {ds : List D} {j n : Nat} (h : (match ds[j]? with | some (.lst ys) => decide (ys.length ≤ n) | _ => false) = true) : ∃ ys, ds[j]? = some (.lst ys) ∧ ys.length ≤ n := by
  cases e : ds[j]? with
  | none => rw [e] at h; cases h
  | some d =>
    rw [e] at h
    cases d with
    | lst ys => exact ⟨ys, rfl, of_decide_eq_true h⟩
    | _ => cases h
theorem SnA.inner {B : List Addr} {H0 H : Hp} {xs : List V} {ds ys : List D} {j n : Nat} (r : SnA K B H0 H xs ds) (h : ds[j]? = some (.lst ys)) (hn : ys.length ≤ n) : ∃ (a : Addr) (ws : List V), xs[j]? = some (.ref a) ∧ H0 a = none ∧ H a = some (.lst ws) ∧ ws.length ≤ n := by
  obtain ⟨v, ev, s⟩ := r.get h
  cases s with
  | flt _ z => cases z
  | lst n0 _ hx rx => exact ⟨_, _, ev, n0, hx, by rw [rx.length]; exact hn⟩
theorem Sn.sm {B : List Addr} {H0 H : Hp} {v : V} {js : List Nat} {n : Nat} (s : Sn K B H0 H v d) (h : d.shp js n = true) : SmJ B H0 H js n v := by
  cases d with
  | lst ds =>
    cases s with
    | flt _ z => cases z
    | lst n0 nm hx rx =>
      refine ⟨_, _, rfl, .inr ⟨hx, n0⟩, fun j m => ?_⟩
      obtain ⟨ys, e, z⟩ := shp_at (List.all_eq_true.mp h j m)
      obtain ⟨a, ws, h1, h2, h3, h4⟩ := rx.inner e z
      exact ⟨a, ws, h1, h2, fun q => nm (q ▸ List.mem_of_getElem? h1), h3, h4⟩
  | tup ds =>
    cases s with
    | flt s z =>
      cases s with
      | tup _ hx r =>
        refine ⟨_, _, rfl, .inl hx, fun j m => ?_⟩
        obtain ⟨ys, e, _⟩ := shp_at (List.all_eq_true.mp h j m)
        have q := noLA_all z _ (List.mem_of_getElem? e)
        cases q
    | tup hx rx =>
      refine ⟨_, _, rfl, .inl hx, fun j m => ?_⟩
      obtain ⟨ys, e, z⟩ := shp_at (List.all_eq_true.mp h j m)
      obtain ⟨a, ws, h1, h2, h3, h4⟩ := rx.inner e z
      refine ⟨a, ws, h1, h2, fun q => ?_, h3, h4⟩
      rw [q, hx] at h3
      cases h3
  | _ => cases h
theorem SmJ.gs {B W : List Addr} {H0 H H' : Hp} {v : V} {js : List Nat} {n : Nat} (bw : BW B W H0) (g : Gs W H H') (s : SmJ B H0 H js n v) : SmJ B H0 H' js n v := by
  obtain ⟨p, xs, rfl, hp, h⟩ := s
  have kp : ∀ a o, H0 a = none → H a = some o → H' a = some o := fun a o n0 ha => g.gw.keep a o (fun m => bw.kn a (bw.sub a m) n0) ha
  refine ⟨p, xs, rfl, hp.imp (fun z => g.gw.tups _ _ z) fun z => ⟨kp _ _ z.2 z.1, z.2⟩, fun j m => ?_⟩
  obtain ⟨a, ws, h1, h2, h3, h4, h5⟩ := h j m
  exact ⟨a, ws, h1, h2, h3, kp _ _ h2 h4, h5⟩
theorem GM.one {js : List Nat} {n : Nat} {m : M α} (h : GM K R (tSeq t tNext) ρ i js n m C) : GM K R t ρ i js n m C := h
theorem GM.assoc {js : List Nat} {n : Nat} {m : M α} (h : GM K R (tSeq t (tSeq u v)) ρ i js n m C) : GM K R (tSeq (tSeq t u) v) ρ i js n m C := h
theorem GM.next {js : List Nat} {n : Nat} {m : M α} (h : GM K R v ρ i js n m C) : GM K R (tSeq tNext v) ρ i js n m C := h
theorem GM.of {js : List Nat} {n : Nat} {m : M α} (h : GM K R t ρ i js n m C) : GD K R t ρ i d (if d.shp js n = true then m else .fail) C := fun P r w F B W H0 H σ v e f g s hi E q1 q2 q3 q4 => by
  obtain ⟨h1, h2⟩ := wp_ite w
  exact h P r h2 F B W H0 H σ v e f g (s.sm h1) hi E q1 q2 q3 q4
theorem GM.out {js : List Nat} {n : Nat} {m : M α} (h : G K R t (ρ.set i .no) m C) : GM K R t ρ i js n m C := fun P r w F B W H0 H σ v e f g s hi E q1 q2 q3 q4 => by
  have gg : Gu W (Own σ (ρ.set i .no)) (Own σ (ρ.set i .no)) H0 H := .of g fun a o => o
  exact h P r w F B W H σ (e.gs g) f E (q1.after gg) (q2.after gg) (q3.after gg) (q4.after gg)
theorem GD.out {m : M α} (h : G K R t (ρ.set i .no) m C) : GD K R t ρ i d m C := fun P r w F B W H0 H σ v e f g s hi E q1 q2 q3 q4 => by
  have gg : Gu W (Own σ (ρ.set i .no)) (Own σ (ρ.set i .no)) H0 H := .of g fun a o => o
  exact h P r w F B W H σ (e.gs g) f E (q1.after gg) (q2.after gg) (q3.after gg) (q4.after gg)
/-- an operator that looks a place up -/
def IxJ (K : PySem.W.Frag) (r : R2) (k : Int) (j : Nat) : Prop := ∀ (B W : List Addr) (H : Hp) (p a : Addr) (xs : List V), BW B W H → (H p = some (.tup xs) ∨ H p = some (.lst xs) ∧ p ∉ W) → xs[j]? = some (.ref a) → ∀ Q : VK, (∀ H', Gs W H H' → Q (.ref a) H') → r (.ref p) (.int k) H Q
theorem atD_nat {ds : List D} {j : Nat} {x : D} (h : ds[j]? = some x) : atI ds (j : Int) = some x := by
  have hl : j < ds.length := (List.getElem?_eq_some_iff.mp h).1
  unfold atI ixN
  rw [if_pos (Int.natCast_nonneg j), if_pos (by omega)]
  exact h
theorem SmJ.wr {B : List Addr} {H0 H : Hp} {v : V} {js : List Nat} {n n' : Nat} {a : Addr} {ws us : List V} (na : H0 a = none) (ha : H a = some (.lst ws)) (hp : ∀ p, v = .ref p → a ≠ p) (hu : us.length ≤ n') (hn : n ≤ n') (s : SmJ B H0 H js n v) : SmJ B H0 (upd H a (.lst us)) js n' v := by
  obtain ⟨p, xs, rfl, h1, h2⟩ := s
  have ne := hp p rfl
  refine ⟨p, xs, rfl, by rw [upd_ne ne.symm]; exact h1, fun j m => ?_⟩
  obtain ⟨b, wb, k1, k2, k3, k4, k5⟩ := h2 j m
  by_cases z : b = a
  · subst z
    exact ⟨b, us, k1, k2, k3, upd_same, hu⟩
  · exact ⟨b, wb, k1, k2, k3, by rw [upd_ne z]; exact k4, by omega⟩
/-- x[k].append(e) -/
theorem GM.app {r : R2} {k : Int} {js : List Nat} {n : Nat} {m : M α} (hr : IxJ K r k j) (hj : j ∈ js) (hn : n < 16777216) (he : RE K te (ρ.set i .no) me) (h : GM K R u ρ i js (n + 1) m C) :
    GM K R (tSeq (tDrop (tBM K "list" rAppend (tOp r (tVar i) (tC (.int k))) (tCons te tNil))) u) ρ i js n (me.bind fun _ => m) C := fun P rP w F B W H0 H σ v e f g s hi E q1 q2 q3 q4 => by
  obtain ⟨p, xs, rfl, hp, hs⟩ := s
  obtain ⟨a, ws, hx, n0, np, ha, hz⟩ := hs j hj
  have bw := e.bw.gs g
  refine ⟨_, hi, hr B W H p a xs bw (hp.imp id fun z => ⟨z.1, fun m => e.bw.kn p (e.bw.sub p m) z.2⟩) hx _ fun H1 g1 => ?_⟩
  have aW : a ∉ W := fun m => e.bw.kn a (e.bw.sub a m) n0
  have ha1 := g1.gw.keep _ _ aW ha
  refine ⟨tyV_lst ha1, he _ (wp_bind.mp w) B W H1 σ ((e.gs g).gs g1) _ fun x dx H2 g2 sx w1 => ?_⟩
  have ha2 := g2.gw.keep _ _ aW ha1
  refine ⟨a, ws, x, rfl, rfl, ha2, by rw [sizeLine_eq]; omega, ?_⟩
  have s2 : SmJ B H0 H2 js n (.ref p) := SmJ.gs e.bw g2 (SmJ.gs e.bw g1 ⟨p, xs, rfl, hp, hs⟩)
  have g3 := gs_new (u := .lst (ws ++ [x])) n0 ((g.trans g1).trans g2) ha2
  exact h P rP w1 F B W H0 _ σ (.ref p) e f g3 (s2.wr n0 ha2 (fun q z => by cases z; exact np) (by rw [List.length_append, List.length_singleton]; omega) (Nat.le_succ n)) hi E q1 q2 q3 q4
/-- x[k].clear() -/
theorem GM.clr {r : R2} {k : Int} {js : List Nat} {n : Nat} {m : M α} (hr : IxJ K r k j) (hj : j ∈ js) (h : GM K R u ρ i js n m C) :
    GM K R (tSeq (tDrop (tBM0 K "list" rClear (tOp r (tVar i) (tC (.int k))))) u) ρ i js n m C := fun P rP w F B W H0 H σ v e f g s hi E q1 q2 q3 q4 => by
  obtain ⟨p, xs, rfl, hp, hs⟩ := s
  obtain ⟨a, ws, hx, n0, np, ha, hz⟩ := hs j hj
  have bw := e.bw.gs g
  refine ⟨_, hi, hr B W H p a xs bw (hp.imp id fun z => ⟨z.1, fun m => e.bw.kn p (e.bw.sub p m) z.2⟩) hx _ fun H1 g1 => ?_⟩
  have aW : a ∉ W := fun m => e.bw.kn a (e.bw.sub a m) n0
  have ha1 := g1.gw.keep _ _ aW ha
  refine ⟨tyV_lst ha1, a, ws, rfl, rfl, ha1, ?_⟩
  have s2 : SmJ B H0 H1 js n (.ref p) := SmJ.gs e.bw g1 ⟨p, xs, rfl, hp, hs⟩
  have g3 := gs_new (u := .lst []) n0 (g.trans g1) ha1
  exact h P rP w F B W H0 _ σ (.ref p) e f g3 (s2.wr n0 ha1 (fun q z => by cases z; exact np) (Nat.zero_le _) (Nat.le_refl n)) hi E q1 q2 q3 q4
end
end VB
namespace VB
open PySem PySem.Spec PyProof.Rows L2
section
variable {K : PySem.W.Frag} {B W F : List Addr} {H0 H H' : Hp} {N : Addr → Prop}
mutual
theorem Sn.p : ∀ {v : V} {d : D}, Sn K B H0 H v d → SnP K B (fun a => H0 a = none) H v d
  | _, _, .flt s q => .flt s q
  | _, _, .tup h r => .tup h (SnA.p r)
  | _, _, .lst n m h r => .lst n m h (SnA.p r)
theorem SnA.p : ∀ {vs : List V} {ds : List D}, SnA K B H0 H vs ds → SnPA K B (fun a => H0 a = none) H vs ds
  | _, _, .nil => .nil
  | _, _, .cons h r => .cons (Sn.p h) (SnA.p r)
end
mutual
theorem SnP.s (f : ∀ a, N a → H0 a = none) : ∀ {v : V} {d : D}, SnP K B N H v d → Sn K B H0 H v d
  | _, _, .flt s q => .flt s q
  | _, _, .tup h r => .tup h (SnPA.s f r)
  | _, _, .lst n m h r => .lst (f _ n) m h (SnPA.s f r)
theorem SnPA.s (f : ∀ a, N a → H0 a = none) : ∀ {vs : List V} {ds : List D}, SnPA K B N H vs ds → SnA K B H0 H vs ds
  | _, _, .nil => .nil
  | _, _, .cons h r => .cons (SnP.s f h) (SnPA.s f r)
end
mutual
theorem SnP.less {B' : List Addr} (s : ∀ a ∈ B', a ∈ B) : ∀ {v : V} {d : D}, SnP K B N H v d → SnP K B' N H v d
  | _, _, .flt h q => .flt (h.less s) q
  | _, _, .tup h r => .tup h (SnPA.less s r)
  | _, _, .lst n m h r => .lst n m h (SnPA.less s r)
theorem SnPA.less {B' : List Addr} (s : ∀ a ∈ B', a ∈ B) : ∀ {vs : List V} {ds : List D}, SnPA K B N H vs ds → SnPA K B' N H vs ds
  | _, _, .nil => .nil
  | _, _, .cons h r => .cons (SnP.less s h) (SnPA.less s r)
end
mutual
theorem SnP.gs (w : ∀ a ∈ W, a ∈ B) (f : ∀ a, N a → a ∉ W) (g : Gs W H H') : ∀ {v : V} {d : D}, SnP K B N H v d → SnP K B N H' v d
  | _, _, .flt s q => .flt (s.gw (g.gw.mono w)) q
  | _, _, .tup h r => .tup (g.gw.tups _ _ h) (SnPA.gs w f g r)
  | _, _, .lst n m h r => .lst n m (g.gw.keep _ _ (f _ n) h) (SnPA.gs w f g r)
theorem SnPA.gs (w : ∀ a ∈ W, a ∈ B) (f : ∀ a, N a → a ∉ W) (g : Gs W H H') : ∀ {vs : List V} {ds : List D}, SnPA K B N H vs ds → SnPA K B N H' vs ds
  | _, _, .nil => .nil
  | _, _, .cons h r => .cons (SnP.gs w f g h) (SnPA.gs w f g r)
end
theorem SnP.kn {a : Addr} {d : D} (s : SnP K B N H (.ref a) d) : H a ≠ none := by
  cases s with
  | flt s q => exact (Sn.flt (H0 := H) s q).kn
  | tup h r => rw [h]; exact fun z => nomatch z
  | lst n m h r => rw [h]; exact fun z => nomatch z
theorem SnPA.kn {a : Addr} : ∀ {vs : List V} {ds : List D}, SnPA K B N H vs ds → V.ref a ∈ vs → H a ≠ none
  | _, _, .cons h r, m => by
    rcases List.mem_cons.mp m with z | z
    · rw [← z] at h
      exact h.kn
    · exact SnPA.kn r z
theorem SnPA.len : ∀ {vs : List V} {ds : List D}, SnPA K B N H vs ds → vs.length = ds.length
  | _, _, .nil => rfl
  | _, _, .cons _ r => congrArg (· + 1) r.len
end
/-- what is handed back: new lists, and lists of one's own -/
def RZ (K : PySem.W.Frag) (te : TE) (ρ : List En) (m : M D) : Prop := ∀ P, wp m P → ∀ (F B W : List Addr) (H : Hp) (σ : L2.St), EnvOk K B W H σ ρ → Fr F B W σ ρ → ∀ Q : VK, (∀ v d H', Gs W H H' → SnP K F (fun a => Own σ ρ a ∨ H a = none) H' v d → P d → Q v H') → te σ H Q
def RZs (K : PySem.W.Frag) (ta : TA) (ρ : List En) (A : MA) : Prop := ∀ (α : Type) (k : List D → M α) (P : α → Prop), wp (A α k) P → ∀ (F B W : List Addr) (H : Hp) (σ : L2.St), EnvOk K B W H σ ρ → Fr F B W σ ρ → ∀ Q : List V → Hp → Prop, (∀ vs ds H', Gs W H H' → SnPA K F (fun a => Own σ ρ a ∨ H a = none) H' vs ds → wp (k ds) P → Q vs H') → ta σ H Q
section
variable {K : PySem.W.Frag} {R : Po → Prop} {t u v : TS} {ρ : List En} {α : Type} {m m2 md me : M D} {C : Po → α → Prop} {te : TE} {tt : TT} {ta : TA} {A : MA} {mt : M Bool} {i j : Nat} {d : D} {ms : List Md} {E : XK} {l : List D → M D}
theorem RZ.own {tg : Option Addr} (hi : ρ[i]? = some (.own ⟨tg, d⟩)) : RZ K (tVar i) ρ (D.newM d) := fun P w F B W H σ e f Q q => by
  obtain ⟨a, e1, aB, aW, _, k⟩ := e.sl i _ hi
  cases d with
  | lst ds =>
    obtain ⟨h1, h2⟩ := wp_ite w
    obtain ⟨xs, hx, r⟩ := k
    have fl : ∀ {vs : List V} {ds : List D}, SgA K B H vs ds → ds.all D.flt = true → V.ref a ∉ vs := by
      intro vs
      induction vs with
      | nil => exact fun _ _ z => nomatch z
      | cons v vs ih =>
        intro ds s q z
        cases s with
        | cons s1 s2 =>
          rw [List.all_cons, Bool.and_eq_true] at q
          rcases List.mem_cons.mp z with z | z
          · subst z
            cases s1 with
            | tup _ h _ => rw [hx] at h; cases h
            | lst nb _ _ => exact nb aB
            | dic nb _ _ _ => exact nb aB
            | dit nb _ _ _ => exact nb aB
            | din nb _ _ _ _ => exact nb aB
            | ins nb _ _ _ => exact nb aB
            | raw => cases q.1
            | etup => cases q.1
          · exact ih s2 q.2 z
    refine ⟨_, e1, q _ _ H Gs.refl (.lst (.inl ⟨i, _, hi, e1⟩) (fl r h1) hx ?_) h2⟩
    exact SnPA.imp (fun a n => .inr n) (SnA.p (sgA_flt (H0 := H) (r.less f.fb) h1))
  | _ => exact w.elim
theorem RZs.nil : RZs K tNil ρ fun _ k => k [] := fun α k P p F B W H σ e f Q q => q _ _ H Gs.refl .nil p
theorem own_nw {B W : List Addr} {H : Hp} {σ : L2.St} (e : EnvOk K B W H σ ρ) : ∀ a, (Own σ ρ a ∨ H a = none) → a ∉ W := fun a n m => n.elim (fun o => (e.ownB o).2.1 m) fun n => e.bw.kn a (e.bw.sub a m) n
theorem RZs.cons {tr : TA} {mr : MA} (ha : RZ K te ρ m) (hr : RZs K tr ρ mr) : RZs K (tCons te tr) ρ fun α k => m.bind fun x => mr α fun xs => k (x :: xs) := fun α k P w F B W H σ e f Q q =>
  ha _ (wp_bind.mp w) F B W H σ e f _ fun v x H1 g1 s1 w1 => hr α _ P w1 F B W H1 σ (e.gs g1) f _ fun vs ds H2 g2 s2 w2 =>
    q _ _ H2 (g1.trans g2) (.cons (SnP.gs f.wf (own_nw e) g2 s1) (SnPA.imp (fun a n => n.imp id (g1.gw.free a)) s2)) w2
theorem RZ.tup (h : RZs K ta ρ A) : RZ K (tTup ta) ρ (A D D.tupM) := fun P w F B W H σ e f Q q => h _ _ _ w F B W H σ e f _ fun vs ds H1 g1 s1 w1 => by
  obtain ⟨h1, h2⟩ := wp_ite w1
  exact ⟨by rw [sizeLine_eq, s1.len]; exact h1, fun p n => q _ _ _ (g1.trans (Gs.new n)) (.tup upd_same (SnPA.gs f.wf (own_nw e) (Gs.new n) s1)) h2⟩
theorem RZ.lst (h : RZs K ta ρ A) : RZ K (tLst ta) ρ (A D D.lstM) := fun P w F B W H σ e f Q q => h _ _ _ w F B W H σ e f _ fun vs ds H1 g1 s1 w1 => by
  obtain ⟨h1, h2⟩ := wp_ite w1
  exact ⟨by rw [sizeLine_eq, s1.len]; exact h1, fun p n => q _ _ _ (g1.trans (Gs.new n)) (.lst (.inr (g1.gw.free p n)) (fun z => s1.kn z n) upd_same (SnPA.gs f.wf (own_nw e) (Gs.new n) s1)) h2⟩
theorem RYs.tup (h : RYs K ta ρ A) : RY K (tTup ta) ρ (A D D.tupM) := fun P w B W H σ e Q q => h _ _ _ w B W H σ e _ fun vs ds H1 g1 s1 w1 => by
  obtain ⟨h1, h2⟩ := wp_ite w1
  exact ⟨by rw [sizeLine_eq, s1.length]; exact h1, fun p n => q _ _ _ (g1.trans (Gs.new n)) (.tup upd_same (s1.gw e.bw.kn (Gw.new n))) h2⟩
/-- the promise -/
def spMY (K : PySem.W.Frag) (ms : List Md) (m : List D → M D) : Sp := fun vs H Q _ => ∃ (B W : List Addr) (ds : List D) (P : D → Prop), BW B W H ∧ AmA K B W H ms vs ds ∧ wp (m ds) P ∧ ∀ v d H', Gs W H H' → Sn K B H H' v d → P d → Q v H'
theorem RY.call {tl : TA} (h : RAm K tl ρ ms A) : RY K (tCall (spMY K ms l) [] E tl) ρ (A D l) := fun P w B W H σ e Q q => h D l P w B W H σ e _ fun vs ds H1 g1 s1 w1 =>
  ⟨B, W, ds, P, (e.gs g1).bw, by rw [List.append_nil]; exact s1, w1, fun v d H2 g2 n p => q v d H2 (g1.trans g2) (n.back g1.gw.free) p⟩
theorem RY.re (h : RY K te ρ m) : RE K te ρ m := fun P w B W H σ e Q q => h P w B W H σ e Q fun v d H' g n p => q v d H' g (n.sg e.bw.kn) p
end
end VB
namespace VB
open PySem PySem.Spec PyProof.Rows L2
section
variable {K : PySem.W.Frag} {B W F : List Addr} {H0 H1 H H' : Hp} {σ : L2.St} {ρ : List En}
mutual
theorem Sn.wrt {a : Addr} {ws us : List V} (ha : H a = some (.lst ws)) (na : H1 a ≠ none) : ∀ {v : V} {d : D}, Sn K B H1 H v d → Sn K B H1 (upd H a (.lst us)) v d
  | _, _, .flt s q => .flt (s.chg (fun b o hb nl => by
      have ne : b ≠ a := fun z => by
        rw [z, ha] at hb
        cases hb
        exact nl _ rfl
      rw [upd_ne ne]
      exact hb) (flt_noL q)) q
  | _, _, .tup h r => .tup (by
      rw [upd_ne (fun z => by
        rw [z, ha] at h
        cases h)]
      exact h) (SnA.wrt ha na r)
  | _, _, .lst n m h r => .lst n m (by
      rw [upd_ne (fun z => by
        subst z
        exact na n)]
      exact h) (SnA.wrt ha na r)
theorem SnA.wrt {a : Addr} {ws us : List V} (ha : H a = some (.lst ws)) (na : H1 a ≠ none) : ∀ {vs : List V} {ds : List D}, SnA K B H1 H vs ds → SnA K B H1 (upd H a (.lst us)) vs ds
  | _, _, .nil => .nil
  | _, _, .cons h r => .cons (Sn.wrt ha na h) (SnA.wrt ha na r)
end
open Classical in
theorem EnvOk.fixS (e : EnvOk K B W H σ ρ) (fb : ∀ a ∈ F, a ∈ B) (no : ∀ a ∈ F, ¬ Own σ ρ a) (wf : ∀ a ∈ W, a ∈ F) : ∃ B', (∀ a ∈ B', a ∈ B) ∧ EnvOk K B' W H σ ρ ∧ Fr F B' W σ ρ := by
  have mem : ∀ x, x ∈ B.filter (fun x => decide (x ∈ F ∨ Own σ ρ x)) ↔ x ∈ B ∧ (x ∈ F ∨ Own σ ρ x) := fun x => by
    rw [List.mem_filter, decide_eq_true_iff]
  refine ⟨B.filter (fun x => decide (x ∈ F ∨ Own σ ρ x)), fun x m => ((mem x).mp m).1, e.back (fun x m => ((mem x).mp m).1) (fun x m => (mem x).mpr ⟨e.bw.sub x m, .inl (wf x m)⟩) (fun x o => (mem x).mpr ⟨(e.ownB o).1, .inr o⟩), ?_⟩
  exact ⟨fun x m => (mem x).mpr ⟨fb x m, .inl m⟩, fun x m => ((mem x).mp m).2, no, wf⟩
def SmK (H0 H1 H : Hp) (js : List Nat) (n : Nat) (v : V) : Prop := ∃ (p : Addr) (xs : List V), v = .ref p ∧ (H p = some (.tup xs) ∨ H p = some (.lst xs) ∧ H0 p = none) ∧ ∀ j ∈ js, ∃ (a : Addr) (ws : List V), xs[j]? = some (.ref a) ∧ H0 a = none ∧ H1 a ≠ none ∧ a ≠ p ∧ H a = some (.lst ws) ∧ ws.length ≤ n
theorem SmJ.k {v : V} {js : List Nat} {n : Nat} (s : SmJ B H0 H js n v) : SmK H0 H H js n v := by
  obtain ⟨p, xs, e, h, q⟩ := s
  refine ⟨p, xs, e, h, fun j m => ?_⟩
  obtain ⟨a, ws, h1, h2, h3, h4, h5⟩ := q j m
  exact ⟨a, ws, h1, h2, (by rw [h4]; exact fun z => nomatch z), h3, h4, h5⟩
theorem SmK.gs {v : V} {js : List Nat} {n : Nat} (bw : BW B W H0) (g : Gs W H H') (s : SmK H0 H1 H js n v) : SmK H0 H1 H' js n v := by
  obtain ⟨p, xs, rfl, hp, h⟩ := s
  have kp : ∀ a o, H0 a = none → H a = some o → H' a = some o := fun a o n0 ha => g.gw.keep a o (fun m => bw.kn a (bw.sub a m) n0) ha
  refine ⟨p, xs, rfl, hp.imp (fun z => g.gw.tups _ _ z) fun z => ⟨kp _ _ z.2 z.1, z.2⟩, fun j m => ?_⟩
  obtain ⟨a, ws, h1, h2, h3, h4, h5, h6⟩ := h j m
  exact ⟨a, ws, h1, h2, h3, h4, kp _ _ h2 h5, h6⟩
theorem SmK.wr {v : V} {js : List Nat} {n n' : Nat} {a : Addr} {ws us : List V} (ha : H a = some (.lst ws)) (hp : ∀ p, v = .ref p → a ≠ p) (hu : us.length ≤ n') (hn : n ≤ n') (s : SmK H0 H1 H js n v) : SmK H0 H1 (upd H a (.lst us)) js n' v := by
  obtain ⟨p, xs, rfl, h1, h2⟩ := s
  have ne := hp p rfl
  refine ⟨p, xs, rfl, by rw [upd_ne ne.symm]; exact h1, fun j m => ?_⟩
  obtain ⟨b, wb, k1, k2, k3, k4, k5, k6⟩ := h2 j m
  by_cases z : b = a
  · subst z
    exact ⟨b, us, k1, k2, k3, k4, upd_same, hu⟩
  · exact ⟨b, wb, k1, k2, k3, k4, by rw [upd_ne z]; exact k5, by omega⟩
end
/-- i: the value, its lists at js are changed; k: what was read of it -/
def GN (K : PySem.W.Frag) (R : Po → Prop) (t : TS) (ρ : List En) (i : Nat) (js : List Nat) (n : Nat) (k : Nat) (d2 : D) {α : Type} (m : M α) (C : Po → α → Prop) : Prop := ∀ P : Po, R P → wp m (C P) → ∀ (F B W : List Addr) (H0 H1 H : Hp) (σ : L2.St) (v v2 : V),
  EnvOk K B W H0 σ ((ρ.set i .no).set k .no) → Fr F B W σ ((ρ.set i .no).set k .no) → Gs W H0 H → (∀ a, H1 a = none → H0 a = none) → SmK H0 H1 H js n v → Sn K B H1 H v2 d2 → σ[i]? = some (some v) → σ[k]? = some (some v2) → ∀ E : Ends,
  Cn K F W H0 σ ((ρ.set i .no).set k .no) P.nx E.nx → Cr K P.fr F W H0 σ ((ρ.set i .no).set k .no) P.rt E.rt → Cn K F W H0 σ ((ρ.set i .no).set k .no) P.bk E.bk → Cn K F W H0 σ ((ρ.set i .no).set k .no) P.ct E.ct → t E σ H
section
variable {K : PySem.W.Frag} {R : Po → Prop} {t u v : TS} {ρ : List En} {α : Type} {m m2 md me : M D} {C : Po → α → Prop} {te : TE} {tt : TT} {ta : TA} {A : MA} {mt : M Bool} {i j k : Nat} {d d2 : D} {js : List Nat} {n : Nat} {mm : M α}
theorem GD.keep {kk : D → M α} (hk : k ≠ i) (hl : k < ρ.length) (he : RY K te (ρ.set i (.dat d)) me) (h : ∀ d2, GN K R u ρ i js n k d2 (kk d2) C) : GD K R (tSeq (tAsg te (gName k)) u) ρ i d (me.bind fun x => if d.shp js n = true then kk x else .fail) C := fun P r w F B W H0 H σ v e f g s hi E q1 q2 q3 q4 => by
  refine he _ (wp_bind.mp w) B W H σ (env_dat e g s hi) _ fun v2 x H2 g2 s2 w2 => ?_
  obtain ⟨hs, w3⟩ := wp_ite w2
  have e2 : EnvOk K B W H0 (σ.set k (some v2)) ((ρ.set i .no).set k .no) := e.put rfl trivial
  have os : ∀ x, Own (σ.set k (some v2)) ((ρ.set i .no).set k .no) x → Own σ (ρ.set i .no) x := fun x o => Own.set o rfl
  obtain ⟨B', sb, e3, f3⟩ := e2.fixS f.fb (fun a m o => f.no a m (os a o)) f.wf
  have gg : Gu W (Own σ (ρ.set i .no)) (Own (σ.set k (some v2)) ((ρ.set i .no).set k .no)) H0 H0 := .of Gs.refl os
  exact h x P r w3 F B' W H0 H H2 _ v v2 e3 f3 (g.trans g2) g.gw.free ((s.sm hs).k.gs e.bw g2) (s2.less sb) (by rw [List.getElem?_set_ne hk]; exact hi) (List.getElem?_set_self (by rw [e.len, List.length_set]; exact hl)) E (q1.after gg) (q2.after gg) (q3.after gg) (q4.after gg)
theorem GN.one (h : GN K R (tSeq t tNext) ρ i js n k d2 mm C) : GN K R t ρ i js n k d2 mm C := h
theorem GN.assoc (h : GN K R (tSeq t (tSeq u v)) ρ i js n k d2 mm C) : GN K R (tSeq (tSeq t u) v) ρ i js n k d2 mm C := h
theorem GN.next (h : GN K R v ρ i js n k d2 mm C) : GN K R (tSeq tNext v) ρ i js n k d2 mm C := h
theorem GN.out (h : G K R t ((ρ.set i .no).set k (.dat d2)) mm C) : GN K R t ρ i js n k d2 mm C := fun P r w F B W H0 H1 H σ v v2 e f g f1 s s2 hi hk E q1 q2 q3 q4 => by
  have z := (e.gs g).set (i := k) (s2.sg fun a m n => e.bw.kn a m (f1 a n))
  rw [set_same hk, List.set_set] at z
  have od : ∀ a, Own σ ((ρ.set i .no).set k (.dat d2)) a → Own σ ((ρ.set i .no).set k .no) a := fun a o => own_dat rfl o
  have ou : ∀ a, Own σ ((ρ.set i .no).set k .no) a → Own σ ((ρ.set i .no).set k (.dat d2)) a := fun a ⟨j, o, h1, h2⟩ => by
    obtain ⟨z, h1⟩ := own_set h1 rfl
    exact ⟨j, o, by rw [List.getElem?_set_ne z]; exact h1, h2⟩
  have gg : Gu W (Own σ ((ρ.set i .no).set k .no)) (Own σ ((ρ.set i .no).set k (.dat d2))) H0 H := .of g od
  exact h P r w F B W H σ z ⟨f.fb, fun a m => (f.bf a m).imp id (ou a), fun a m o => f.no a m (od a o), f.wf⟩ E (q1.after gg) (q2.after gg) (q3.after gg) (q4.after gg)
theorem GN.app {r : R2} {q : Int} (hr : IxJ K r q j) (hj : j ∈ js) (hn : n < 16777216) (he : RE K te ((ρ.set i .no).set k .no) me) (h : GN K R u ρ i js (n + 1) k d2 mm C) :
    GN K R (tSeq (tDrop (tBM K "list" rAppend (tOp r (tVar i) (tC (.int q))) (tCons te tNil))) u) ρ i js n k d2 (me.bind fun _ => mm) C := fun P rP w F B W H0 H1 H σ v v2 e f g f1 s s2 hi hk E q1 q2 q3 q4 => by
  obtain ⟨p, xs, rfl, hp, hs⟩ := s
  obtain ⟨a, ws, hx, n0, n1, np, ha, hz⟩ := hs j hj
  have bw := e.bw.gs g
  have kB : ∀ b ∈ B, H1 b ≠ none := fun a m n => e.bw.kn a m (f1 a n)
  refine ⟨_, hi, hr B W H p a xs bw (hp.imp id fun z => ⟨z.1, fun m => e.bw.kn p (e.bw.sub p m) z.2⟩) hx _ fun H3 g3 => ?_⟩
  have aW : a ∉ W := fun m => e.bw.kn a (e.bw.sub a m) n0
  have ha1 := g3.gw.keep _ _ aW ha
  refine ⟨tyV_lst ha1, he _ (wp_bind.mp w) B W H3 σ ((e.gs g).gs g3) _ fun x dx H2 g2 sx w1 => ?_⟩
  have ha2 := g2.gw.keep _ _ aW ha1
  refine ⟨a, ws, x, rfl, rfl, ha2, by rw [sizeLine_eq]; omega, ?_⟩
  have s3 : SmK H0 H1 H2 js n (.ref p) := SmK.gs e.bw (g3.trans g2) ⟨p, xs, rfl, hp, hs⟩
  have g4 := gs_new (u := .lst (ws ++ [x])) n0 ((g.trans g3).trans g2) ha2
  exact h P rP w1 F B W H0 H1 _ σ (.ref p) v2 e f g4 f1 (s3.wr ha2 (fun q z => by cases z; exact np) (by rw [List.length_append, List.length_singleton]; omega) (Nat.le_succ n)) ((s2.gw kB (bw.gw (g3.trans g2))).wrt ha2 n1) hi hk E q1 q2 q3 q4
theorem GN.clr {r : R2} {q : Int} (hr : IxJ K r q j) (hj : j ∈ js) (h : GN K R u ρ i js n k d2 mm C) :
    GN K R (tSeq (tDrop (tBM0 K "list" rClear (tOp r (tVar i) (tC (.int q))))) u) ρ i js n k d2 mm C := fun P rP w F B W H0 H1 H σ v v2 e f g f1 s s2 hi hk E q1 q2 q3 q4 => by
  obtain ⟨p, xs, rfl, hp, hs⟩ := s
  obtain ⟨a, ws, hx, n0, n1, np, ha, hz⟩ := hs j hj
  have bw := e.bw.gs g
  have kB : ∀ b ∈ B, H1 b ≠ none := fun a m n => e.bw.kn a m (f1 a n)
  refine ⟨_, hi, hr B W H p a xs bw (hp.imp id fun z => ⟨z.1, fun m => e.bw.kn p (e.bw.sub p m) z.2⟩) hx _ fun H3 g3 => ?_⟩
  have aW : a ∉ W := fun m => e.bw.kn a (e.bw.sub a m) n0
  have ha1 := g3.gw.keep _ _ aW ha
  refine ⟨tyV_lst ha1, a, ws, rfl, rfl, ha1, ?_⟩
  have s3 : SmK H0 H1 H3 js n (.ref p) := SmK.gs e.bw g3 ⟨p, xs, rfl, hp, hs⟩
  have g4 := gs_new (u := .lst []) n0 (g.trans g3) ha1
  exact h P rP w F B W H0 H1 _ σ (.ref p) v2 e f g4 f1 (s3.wr ha1 (fun q z => by cases z; exact np) (Nat.zero_le _) (Nat.le_refl n)) ((s2.gw kB (bw.gw g3)).wrt ha1 n1) hi hk E q1 q2 q3 q4
variable {ms : List Md} {E : XK} {l : List D → M D} {mr : M D}
end
end VB
namespace VB
open PySem PySem.Spec PyProof.Rows L2
section
variable {K : PySem.W.Frag} {B W : List Addr} {H H' : Hp} {σ : L2.St} {ρ : List En}
/-- places of B that no slot names are written -/
theorem EnvOk.kp {U : Addr → Prop} (h : EnvOk K B W H σ ρ) (k : ∀ a o, ¬ U a → H a = some o → H' a = some o) (f : ∀ a, H' a = none → H a = none) (nt : ∀ a, U a → ∃ xs, H a = some (.lst xs)) (ub : ∀ a, U a → a ∈ B ∧ a ∉ W ∧ ¬ Own σ ρ a ∧ ¬ Bor σ ρ a) : EnvOk K B W H' σ ρ := by
  have g : Gw B H H' := ⟨fun a o n e => k a o (fun u => n (ub a u).1) e, f, fun a xs e => k a _ (fun u => by
    obtain ⟨ys, z⟩ := nt a u
    rw [e] at z
    cases z) e⟩
  refine ⟨⟨h.bw.sub, fun a ma z => h.bw.kn a ma (f a z)⟩, h.len, fun i e q => ?_, h.one, h.sep⟩
  have r := h.sl i e q
  cases e with
  | no => trivial
  | dat d =>
    obtain ⟨v, e1, s⟩ := r
    exact ⟨v, e1, s.gw g⟩
  | bag b =>
    obtain ⟨e1, mb, c, ns, nc, hb⟩ := r
    obtain ⟨⟨z, s, i, eb, v⟩, ec, hn⟩ := hb
    exact ⟨e1, mb, c, ns, nc, ⟨z, s, i, k _ _ (fun u => (ub _ u).2.1 mb) eb, v⟩, k _ _ (fun u => nc (ub _ u).1) ec, hn⟩
  | own d =>
    obtain ⟨a, e1, ma, nw, kk⟩ := r
    exact ⟨a, e1, ma, nw, kk.mv (fun o z => k _ _ (fun u => (ub _ u).2.2.1 ⟨i, d, q, e1⟩) z) fun _ _ r => r.gw g⟩
  | bor d =>
    obtain ⟨v, e1, kk⟩ := r
    have go : ∀ {a o}, v = .ref a → d.isRoot = true → H a = some o → H' a = some o := fun e hr h => k _ _ (fun u => (ub _ u).2.2.2 ⟨i, d, q, hr, by rw [e1, e]⟩) h
    refine ⟨v, e1, ?_⟩
    cases d with
    | lst ds =>
      obtain ⟨a, xs, e, n, h, r⟩ := kk
      exact ⟨a, xs, e, n, go e rfl h, r.gw g⟩
    | dic ks ds =>
      obtain ⟨a, xs, e, n, h, k, r⟩ := kk
      exact ⟨a, xs, e, n, rd_map h fun o => go e rfl, k, r.gw g⟩
    | dit ks ds =>
      obtain ⟨a, xs, e, n, h, k, r⟩ := kk
      exact ⟨a, xs, e, n, rd_map h fun o => go e rfl, k, r.gw g⟩
    | ins C ks ds =>
      obtain ⟨a, dx, xs, e, n, h, k, r⟩ := kk
      exact ⟨a, dx, xs, e, n, go e rfl h, k, r.gw g⟩
    | din w kk2 ks ds =>
      obtain ⟨a, xs, e, n, h, k, q, r⟩ := kk
      exact ⟨a, xs, e, n, rd_map h fun o => go e rfl, k, q.gw g, r.gw g⟩
    | non => exact Sg.gw g kk
    | bl b => exact Sg.gw g kk
    | int b => exact Sg.gw g kk
    | str b => exact Sg.gw g kk
    | ty b => exact Sg.gw g kk
    | raw b => exact Sg.gw g kk
    | tup b => exact Sg.gw g kk
    | etup => exact Sg.gw g kk
end
section
variable {K : PySem.W.Frag} {R : Po → Prop} {u : TS} {ρ : List En} {α : Type} {m : M α} {C : Po → α → Prop} {te : TE} {tt : TT} {mt : D → M Bool} {i j q : Nat} {x y : D} {sx : Str}
/-- such a value is data for a while, where what comes of it names no place -/
def D.plainM (d : D) : M D := match d with
  | .non => .ret .non
  | .bl b => .ret (.bl b)
  | .int k => .ret (.int k)
  | .str s => .ret (.str s)
  | _ => .fail
theorem RE.frz {m : M D} (hi : ρ[i]? = some (En.of x)) (h : RE K te (ρ.set i (.dat x)) m) : RE K te ρ (m.bind D.plainM) := fun P w B W H σ e Q q => by
  cases er : x.isRoot with
  | true =>
    have eo : En.of x = .own ⟨none, x⟩ := by
      unfold En.of
      rw [er]
    rw [eo] at hi
    obtain ⟨a, B', e1, mem, e2⟩ := e.frz hi
    refine h _ (wp_bind.mp w) B' W H σ e2 Q fun v d H' g s w1 => ?_
    cases d with
    | non => cases s; exact q _ _ H' g .non w1
    | bl b => cases s; exact q _ _ H' g (.bl b) w1
    | int b => cases s; exact q _ _ H' g (.int b) w1
    | str b => cases s; exact q _ _ H' g (.str b) w1
    | _ => exact w1.elim
  | false =>
    have eo : En.of x = .dat x := by
      unfold En.of
      rw [er]
    rw [eo] at hi
    have er : ρ.set i (.dat x) = ρ := by
      obtain ⟨hl, hv⟩ := List.getElem?_eq_some_iff.mp hi
      rw [← hv]
      exact List.set_getElem_self hl
    rw [er] at h
    refine h _ (wp_bind.mp w) B W H σ e Q fun v d H' g s w1 => ?_
    cases d with
    | non => exact q _ _ H' g s w1
    | bl b => exact q _ _ H' g s w1
    | int b => exact q _ _ H' g s w1
    | str b => exact q _ _ H' g s w1
    | _ => exact w1.elim
end
end VB
namespace VB
open PySem PySem.Spec PyProof.Rows L2
end VB
namespace VB
open PySem PySem.Spec PyProof.Rows L2
end VB
namespace VB
open PySem PySem.Spec PyProof.Rows L2
end VB
namespace VB
open PySem PySem.Spec PyProof.Rows L2
section
variable {P : Program} {w : World}
def ClsAt (P : Program) (w : World) (n : Nat) (s : Shared) (v : Value) : Prop := ∀ (A : Around) (E : Value → Shared → Prop) (Q : Bool → Shared → Prop), Q false s → wpAny (model P w) A (ofAClassStatement n v) Q E s
def HshAt (P : Program) (w : World) (n : Nat) (s : Shared) (v : Value) : Prop := ∀ (A : Around) (E : Value → Shared → Prop) (Q : Bool → Shared → Prop), (∀ c, Q c s) → wpAny (model P w) A (hashByValue n v) Q E s
theorem ClsAt.tuple {n : Nat} {s : Shared} {a : Addr} {o : Obj} {vs : Array Value} {m : Nat} (ho : s.heap.get? a = some o) (hc : o.cls = .type "tuple") (hd : o.data = .seq vs m) (hq : ∀ v ∈ vs.toList, ClsAt P w n s v) : ClsAt P w (n + 1) s (.ref a) := fun A E Q q => by
  have hT : s.TypeIs (.ref a) "tuple" := ⟨o, ho, hc⟩
  have tq : (("tuple" : String) == "tuple") = true := by decide
  unfold ofAClassStatement
  refine wpAny_bind (wpAny_typeOf hT ?_)
  dsimp only
  simp only [tq, if_true, Bool.not_true, Bool.false_eq_true, if_false]
  try refine wpAny_bind (wpAny_pure ?_)
  try simp only [Bool.not_true, Bool.false_eq_true, if_false]
  show wpAny _ _ (seqItems? (.ref a) >>= _) _ _ s
  refine wpAny_bind (wpAny_seqItems ho hd ?_)
  dsimp only
  refine wpAny_bind ?_
  show wpAny _ _ (forIn vs _ _) _ _ s
  rw [← Array.forIn_toList]
  refine wpAny_forIn_list _ (fun more st s1 => st.1 = none ∧ s1 = s ∧ ∀ v ∈ more, ClsAt P w n s v) _ ?_ ?_ _ _ ⟨rfl, rfl, hq⟩
  · rintro v more st s1 ⟨hn, rfl, pl⟩
    refine wpAny_bind (pl v (List.mem_cons_self ..) _ _ _ ?_)
    simp only [Bool.false_eq_true, if_false]
    exact wpAny_pure ⟨rfl, rfl, fun u m => pl u (List.mem_cons_of_mem _ m)⟩
  · rintro ⟨z, y⟩ s1 ⟨hn, rfl, _⟩
    simp only at hn
    subst hn
    exact wpAny_pure q
theorem HshAt.tuple {n : Nat} {s : Shared} {a : Addr} {o : Obj} {vs : Array Value} {m : Nat} (ho : s.heap.get? a = some o) (hc : o.cls = .type "tuple") (hd : o.data = .seq vs m) (hq : ∀ v ∈ vs.toList, HshAt P w n s v) : HshAt P w (n + 1) s (.ref a) := fun A E Q q => by
  have hT : s.TypeIs (.ref a) "tuple" := ⟨o, ho, hc⟩
  unfold hashByValue
  refine wpAny_bind (wpAny_specialOf hT PySem.F.slot_tuple_hash.lookup ?_)
  show wpAny _ _ (seqItems? (.ref a) >>= _) _ _ s
  refine wpAny_bind (wpAny_seqItems ho hd ?_)
  refine wpAny_bind ?_
  show wpAny _ _ (forIn vs _ _) _ _ s
  rw [← Array.forIn_toList]
  refine wpAny_forIn_list _ (fun more st s1 => st.1 = none ∧ s1 = s ∧ ∀ v ∈ more, HshAt P w n s v) _ ?_ ?_ _ _ ⟨rfl, rfl, hq⟩
  · rintro v more st s1 ⟨hn, rfl, pl⟩
    refine wpAny_bind (pl v (List.mem_cons_self ..) _ _ _ fun c => ?_)
    cases c with
    | true =>
      simp only [Bool.not_true, Bool.false_eq_true, if_false]
      exact wpAny_pure ⟨rfl, rfl, fun u m => pl u (List.mem_cons_of_mem _ m)⟩
    | false =>
      simp only [Bool.not_false, if_true]
      first
        | exact wpAny_pure (wpAny_pure (q false))
        | exact wpAny_bind (wpAny_pure (wpAny_pure (wpAny_pure (q false))))
        | exact wpAny_bind (wpAny_pure (wpAny_pure (q false)))
  · rintro ⟨z, y⟩ s1 ⟨hn, rfl, _⟩
    simp only at hn
    subst hn
    exact wpAny_pure (q true)
theorem ClsAt.plain {n : Nat} {s : Shared} {v : Value} (h : ofAClassStatement n v = pure false) : ClsAt P w n s v := fun A E Q q => by
  rw [h]
  exact wpAny_pure q
theorem HshAt.plain {n : Nat} {s : Shared} {v : Value} {b : Bool} (h : hashByValue n v = pure b) : HshAt P w n s v := fun A E Q q => by
  rw [h]
  exact wpAny_pure (q b)
end
mutual
def pk : PyData → Option NestedKey
  | .none => some .none
  | .bool b => some (.num (if b = true then 1 else 0))
  | .int i => some (.num i)
  | .str x => some (.text x)
  | .tuple xs => (pkA xs).map .tup
  | .list _ => none
  | .dict _ => none
def pkA : List PyData → Option (List NestedKey)
  | [] => some []
  | x :: xs => (pk x).bind fun k => (pkA xs).map (k :: ·)
end
section
variable {X : Cx} {pins : List (Addr × Obj)} {σ : L2.St} {H : Hp} {s : Shared}
mutual
theorem Dp.nested (I : Inv X pins σ H s) : ∀ (d : PyData) (v : V) (u : Value) (k : NestedKey), Dp X.K H v d → RelV v u → pk d = some k → NestedIs s.heap k u
  | .none, _, _, _, h, r, e => by
    cases h
    cases r
    cases e
    exact .none
  | .bool b, _, _, _, h, r, e => by
    cases h
    cases r
    cases e
    exact .bool rfl
  | .int i, _, _, _, h, r, e => by
    cases h
    obtain ⟨t, rfl⟩ := r
    cases e
    exact .int i t
  | .str x, _, _, _, h, r, e => by
    cases h
    obtain ⟨t, rfl⟩ := r
    cases e
    exact .text x t
  | .tuple ds, _, _, _, h, r, e => by
    obtain ⟨ks, ek, rfl⟩ := Option.map_eq_some_iff.mp (show (pkA ds).map NestedKey.tup = some _ from e)
    cases h with
    | tup hq hd =>
      cases r
      obtain ⟨its, rv, ⟨o, ho, hc, n, hdt⟩, _⟩ := I.tuple hq
      exact .tup ho hc hdt (by simpa using DpAll.nested I ds _ _ _ hd rv ek)
  | .list ds, _, _, _, h, r, e => nomatch e
  | .dict ds, _, _, _, h, r, e => nomatch e
theorem DpAll.nested (I : Inv X pins σ H s) : ∀ (ds : List PyData) (vs : List V) (us : List Value) (ks : List NestedKey), DpAll X.K H vs ds → Vals vs us → pkA ds = some ks → NestedAll s.heap ks us
  | [], _, _, _, h, r, e => by
    cases h
    cases r
    cases e
    exact .nil
  | d :: ds, _, _, _, h, r, e => by
    obtain ⟨k, ek, e2⟩ := Option.bind_eq_some_iff.mp (show (pk d).bind (fun k => (pkA ds).map (k :: ·)) = some _ from e)
    obtain ⟨ks, eks, rfl⟩ := Option.map_eq_some_iff.mp e2
    cases h with
    | cons h1 h2 =>
      cases r with
      | cons r1 r2 => exact .cons (Dp.nested I d _ _ _ h1 r1 ek) (DpAll.nested I ds _ _ _ h2 r2 eks)
end
end
end VB
namespace VB
open PySem PySem.Spec PyProof.Rows L2
abbrev RwN := RwG NestedKey
abbrev nKd (P : Program) (w : World) := nestedKind P w
/-- at r.1 stands the key r.2 -/
def KyN (K : PySem.W.Frag) (H : Hp) (r : RwN) : Prop := ∃ x, Dp K H (.ref r.1) x ∧ pk x = some r.2 ∧ r.2.depth ≤ 8
section
variable {X : Cx}
theorem Inv.kyN {pins : List (Addr × Obj)} {σ : L2.St} {H : Hp} {s : Shared} {r : RwN} (I : Inv X pins σ H s) (h : KyN X.K H r) : (nKd X.prog X.w).is s.heap r.2 r.1 := by
  obtain ⟨x, h1, h2, h3⟩ := h
  exact ⟨Dp.nested I x _ _ _ h1 rfl h2, h3⟩
end
/-- the key of data that may be in a set -/
def D.nk (d : D) : Option NestedKey := if d.pu = true then (match pk d.py with
  | some k => if k.depth ≤ 8 then some k else none
  | none => none) else none
/-- tuples with keys -/
def D.isTp : D → Bool
  | .tup _ => true
  | _ => false
end VB
namespace VB
open PySem PySem.Spec PyProof.Rows L2
theorem Paired.memR {α β : Type} {F : α → β → Prop} : ∀ {l : List α} {m : List β}, Paired F l m → ∀ y ∈ m, ∃ x ∈ l, F x y
  | _, _, .nil, y, h => nomatch h
  | _, _, .cons r t, y, h => by
    rcases List.mem_cons.mp h with rfl | h
    · exact ⟨_, List.mem_cons_self .., r⟩
    · obtain ⟨x, mx, fx⟩ := Paired.memR t y h
      exact ⟨x, List.mem_cons_of_mem _ mx, fx⟩
theorem Paired.app {α β : Type} {F : α → β → Prop} : ∀ {l l2 : List α} {m m2 : List β}, Paired F l m → Paired F l2 m2 → Paired F (l ++ l2) (m ++ m2)
  | _, _, _, _, .nil, h => h
  | _, _, _, _, .cons r t, h => .cons r (Paired.app t h)
def KysN (K : PySem.W.Frag) (H : Hp) (kvs : List KvN) : Prop := ∀ r ∈ kvs, KyN K H (r.2.1, r.1)
section
variable {X : Cx} {pins : List (Addr × Obj)} {σ : L2.St} {H : Hp} {s : Shared}
theorem Inv.dicN {a : Addr} {kvs : List KvN} (I : Inv X pins σ H s) (ha : Rd H a (DicNX X.w a kvs)) (hk : KysN X.K H kvs) : ∃ xs : List KwN, Paired RwO kvs xs ∧ s.heap.DictOfH (nKd X.prog X.w) a xs ∧ kvs.length ≤ sizeLine ∧ (a == sysModules) = false := by
  have R : DicN1 X.w s.heap a kvs := (ha.ok I.hok).1
  obtain ⟨xs, rel, ⟨o, es, ep, ho, hx, hd, el⟩, nd⟩ := R.ex
  refine ⟨xs, rel, ⟨o, es, ep, ho, hx, hd, el, fun x mx => ?_, nd⟩, R.len, R.sys⟩
  obtain ⟨y, my, e1, e2, _⟩ := Paired.memR rel x mx
  have z := Inv.kyN I (hk y my)
  rw [e1, e2] at z
  exact z
end
def valN (kvs : List KvN) (k : NestedKey) : Option V := (kvs.find? fun x => decide (x.1 = k)).map (·.2.2)
theorem valN_rel {kvs : List KvN} {xs : List KwN} {k : NestedKey} {v : V} (r : Paired RwO kvs xs) (e : valN kvs k = some v) : ∃ p, atKey xs k = some p ∧ RelV v p.2 := by
  induction r with
  | nil => cases e
  | cons r t ih =>
    rename_i p q ps qs
    unfold valN at e
    unfold atKey
    rw [List.find?_cons] at e ⊢
    by_cases z : p.1 = k
    · have z2 : q.1 = k := r.1 ▸ z
      simp only [z, z2, decide_true] at e ⊢
      cases e
      exact ⟨_, rfl, r.2.2⟩
    · have z2 : ¬ q.1 = k := fun y => z (r.1.trans y)
      simp only [z, z2, decide_false] at e ⊢
      exact ih e
def rGetN (K : PySem.W.Frag) (P : Program) (w : World) : R2 := fun x y H Q => ∃ a kvs k b v, x = .ref a ∧ Rd H a (DicNX w a kvs) ∧ KysN K H kvs ∧ y = .ref b ∧ KyN K H (b, k) ∧ valN kvs k = some v ∧ Q v H
theorem ixN {X : Cx} {K : PySem.W.Frag} {P : Program} {w : World} (hK : X.K = K) (hP : X.prog = P) (hw : X.w = w) (hu : X.A.units + 65 < cLine) : IxR X (rGetN K P w) := by
  subst hK
  subst hP
  subst hw
  intro value slice pins s σ H x y v u Q I rx ry h hs
  obtain ⟨a, kvs, k, b, z, rfl, ha, hk, rfl, kb, ev, q⟩ := h
  cases (show v = Value.ref a from rx)
  cases (show u = Value.ref b from ry)
  obtain ⟨xs, rel, dd, lo, sy⟩ := Inv.dicN I ha hk
  obtain ⟨p, hp, rp⟩ := valN_rel rel ev
  have ty : s.TypeIs (.ref a) "dict" := dd.typeIs
  unfold subscriptTail
  refine wpAny_bind ?_
  rw [getitemInPython_of_ne ty.not_modules]
  have go : wpAny (model X.prog X.w) X.A (subscripted slice false (.ref a) (.ref b)) (fun r s3 => wpAny (model X.prog X.w) X.A (letTemporaryGo value (.ref a) r >>= fun _ => pure r) (EP X pins σ Q) X.xe s3) X.xe s := by
    rw [hs]
    refine wpAny_operating (wpAny_getItem_heap (show X.A.units + 1 + 8 < cLine by omega) (Inv.kyN I kb) dd hp ?_)
    refine wpAny_bind (wpAny_letTemporaryGo ?_)
    exact wpAny_pure ⟨z, H, I.tok _, rp, q⟩
  refine wpAny_bind (wpAny_specialOf ty PySem.F.slot_dict_getitem.lookup ?_)
  first | exact wpAny_pure (wpAny_bind go) | exact wpAny_bind (wpAny_pure (wpAny_bind go)) | exact wpAny_bind go
end VB
namespace VB
open PySem PySem.Spec PyProof.Rows L2
def RowsN (K : PySem.W.Frag) (B : List Addr) (H : Hp) : List KvN → List (D × D) → Prop := Paired fun r p => Sg K B H (.ref r.2.1) p.1 ∧ p.1.nk = some r.1 ∧ p.1.isTp = true ∧ Sg K B H r.2.2 p.2
theorem Paired.impR {α β : Type} {F G : α → β → Prop} (h : ∀ a b, F a b → G a b) : ∀ {l : List α} {m : List β}, Paired F l m → Paired G l m
  | _, _, .nil => .nil
  | _, _, .cons r t => .cons (h _ _ r) (Paired.impR h t)
section
variable {K : PySem.W.Frag} {B : List Addr} {H : Hp}
theorem RowsN.imp {B' : List Addr} {H' : Hp} {kvs : List KvN} {rt : List (D × D)} (h : ∀ v d, Sg K B H v d → Sg K B' H' v d) (r : RowsN K B H kvs rt) : RowsN K B' H' kvs rt := Paired.impR (fun _ _ z => ⟨h _ _ z.1, z.2.1, z.2.2.1, h _ _ z.2.2.2⟩) r
end
end VB
namespace VB
open PySem PySem.Spec PyProof.Rows L2
end VB
namespace VB
open PySem PySem.Spec PyProof.Rows L2
/-- a walk that bears changes within B -/
def RIB (K : PySem.W.Frag) (wi : TI) (ρ : List En) (m : M (List D)) : Prop := ∀ P, wp m P → ∀ (B W : List Addr) (H : Hp) (σ : L2.St), EnvOk K B W H σ ρ → ∀ R : It → Hp → Prop, (∀ J ds H1, Gs W H H1 → WalkD K B W (fun a => a ∈ B) H1 J ds → P ds → R J H1) → wi σ H R
theorem RIB.dat {K : PySem.W.Frag} {ρ : List En} {te : TE} {m : M D} (h : RE K te ρ m) : RIB K (iDat K te) ρ (m.bind D.items) := fun P w B W H σ e R q => h _ (wp_bind.mp w) B W H σ e _ fun v d H1 g s w1 bd => by
  have e1 := e.gs g
  refine iVal_of bd w1 (s.sr e.bw.sub) (fun a ea hr o => ?_) fun J ds wk p => q J ds H1 g wk p
  subst ea
  cases s with
  | lst n _ _ => exact n o
  | dic n _ _ _ => exact n o
  | dit n _ _ _ => exact n o
  | din n _ _ _ _ => exact n o
  | ins n _ _ _ => exact n o
  | _ => cases hr
/-- the lists at bs -/
def LsAt (K : PySem.W.Frag) (B : List Addr) (H : Hp) : List Addr → List (List D) → Prop
  | [], [] => True
  | b :: bs, ds :: dss => (∃ xs, H b = some (.lst xs) ∧ SgA K B H xs ds) ∧ LsAt K B H bs dss
  | _, _ => False
section
variable {K : PySem.W.Frag} {B B' : List Addr} {H H' : Hp}
theorem LsAt.get : ∀ {bs : List Addr} {dss : List (List D)} {n : Nat} {b : Addr}, LsAt K B H bs dss → bs[n]? = some b → ∃ xs ds, dss[n]? = some ds ∧ H b = some (.lst xs) ∧ SgA K B H xs ds
  | b :: bs, ds :: dss, 0, _, h, e => by
    cases e
    obtain ⟨⟨xs, h1, h2⟩, _⟩ := h
    exact ⟨xs, ds, rfl, h1, h2⟩
  | b :: bs, ds :: dss, n + 1, c, h, e => LsAt.get (n := n) h.2 e
theorem LsAt.len : ∀ {bs : List Addr} {dss : List (List D)}, LsAt K B H bs dss → bs.length = dss.length
  | [], [], _ => rfl
  | _ :: _, _ :: _, h => congrArg (· + 1) (LsAt.len h.2)
theorem LsAt.imp (k : ∀ b xs, H b = some (.lst xs) → H' b = some (.lst xs)) (s : ∀ xs ds, SgA K B H xs ds → SgA K B' H' xs ds) : ∀ {bs : List Addr} {dss : List (List D)}, LsAt K B H bs dss → LsAt K B' H' bs dss
  | [], [], _ => trivial
  | _ :: _, _ :: _, h => by
    obtain ⟨⟨xs, h1, h2⟩, h3⟩ := h
    exact ⟨⟨xs, k _ _ h1, s _ _ h2⟩, LsAt.imp k s h3⟩
theorem LsAt.impB : ∀ {bs : List Addr} {dss : List (List D)}, (∀ b ∈ bs, ∀ xs, H b = some (.lst xs) → H' b = some (.lst xs)) → (∀ xs ds, SgA K B H xs ds → SgA K B' H' xs ds) → LsAt K B H bs dss → LsAt K B' H' bs dss
  | [], [], _, _, _ => trivial
  | _ :: _, _ :: _, k, s, h => by
    obtain ⟨⟨xs, h1, h2⟩, h3⟩ := h
    exact ⟨⟨xs, k _ (List.mem_cons_self ..) _ h1, s _ _ h2⟩, LsAt.impB (fun b m => k b (List.mem_cons_of_mem _ m)) s h3⟩
/-- one more in the list at the n-th place -/
theorem LsAt.put {b : Addr} {xs : List V} {ds : List D} {y : V} {d : D} (hs : ∀ zs es, SgA K B H zs es → SgA K B (upd H b (.lst (xs ++ [y]))) zs es) (hd : Sg K B H y d) : ∀ {bs : List Addr} {dss : List (List D)} {n : Nat}, bs.Nodup → LsAt K B H bs dss → bs[n]? = some b → dss[n]? = some ds → SgA K B H xs ds →
    LsAt K B (upd H b (.lst (xs ++ [y]))) bs (dss.set n (ds ++ [d]))
  | c :: bs, es :: dss, 0, nd, h, e, e2, hx => by
    cases e
    cases e2
    refine ⟨⟨_, upd_same, hs _ _ (hx.append (.cons hd .nil))⟩, ?_⟩
    refine LsAt.impB (fun x m zs ex => ?_) (fun zs ws z => hs _ _ z) h.2
    have hne : x ≠ b := fun z => (List.nodup_cons.mp nd).1 (z ▸ m)
    rw [upd_ne hne]
    exact ex
  | c :: bs, es :: dss, n + 1, nd, h, e, e2, hx => by
    obtain ⟨⟨zs, h1, h2⟩, h3⟩ := h
    have hc : c ≠ b := fun z => (List.nodup_cons.mp nd).1 (z ▸ List.mem_of_getElem? (show bs[n]? = some b from e))
    refine ⟨⟨zs, ?_, hs _ _ h2⟩, LsAt.put hs hd (n := n) (List.nodup_cons.mp nd).2 h3 e e2 hx⟩
    rw [upd_ne hc]
    exact h1
end
def kvsOf (ks : List Str) (bs : List Addr) : List (Key × V) := ks.zipWith (fun k b => (Sum.inr k, V.ref b)) bs
theorem kvsOf_val : ∀ {ks : List Str} {bs : List Addr} {n : Nat} {k : Str}, ks.length = bs.length → ks.Nodup → ks[n]? = some k → ∃ b, bs[n]? = some b ∧ valV (kvsOf ks bs) (Sum.inr k) = some (.ref b)
  | k :: ks, b :: bs, 0, _, h, nd, e => by
    cases e
    refine ⟨b, rfl, ?_⟩
    unfold valV kvsOf
    rw [List.zipWith_cons_cons, List.find?_cons]
    simp
  | k :: ks, b :: bs, n + 1, z, h, nd, e => by
    have e : ks[n]? = some z := e
    obtain ⟨c, h1, h2⟩ := kvsOf_val (n := n) (Nat.succ.inj h) (List.nodup_cons.mp nd).2 e
    refine ⟨c, h1, ?_⟩
    have hk : ¬ ((Sum.inr k : Key) = Sum.inr z) := fun q => by
      cases q
      exact (List.nodup_cons.mp nd).1 (List.mem_of_getElem? e)
    unfold valV kvsOf at h2 ⊢
    rw [List.zipWith_cons_cons, List.find?_cons]
    simp only [hk, decide_false]
    exact h2
/-- the dict at a, its lists at bs, all made behind H0 -/
structure DI (K : PySem.W.Frag) (B W : List Addr) (H0 H : Hp) (σ : L2.St) (ρ : List En) (i : Nat) (a : Addr) (bs : List Addr) (ks : List Str) (dss : List (List D)) : Prop where
  sl : σ[i]? = some (some (.ref a))
  hd : H a = some (.dK (kvsOf ks bs))
  ls : LsAt K (a :: bs ++ B) H bs dss
  nd : (a :: bs).Nodup
  kd : ks.Nodup
  new : ∀ b ∈ a :: bs, H0 b = none
  len : ks.length = bs.length
  pl : ∀ e ∈ ρ, En.pl e = true
  nB : ∀ b ∈ a :: bs, b ∉ B
  nW : ∀ b ∈ a :: bs, b ∉ W
  en : EnvOk K (a :: bs ++ B) W H σ ρ
  gs : Gs W H0 H
def BIQ (K : PySem.W.Frag) (i : Nat) (ks : List Str) (e : Bool) (t : TS) (ρ : List En) (dss : List (List D)) (Q : List (List D) → Prop) (ρ2 : List En) : Prop := ∀ (B W : List Addr) (H0 H : Hp) (σ : L2.St) (a : Addr) (bs : List Addr), DI K B W H0 H σ ρ i a bs ks dss → ∀ E : Ends,
  (∀ σ' H' dss', DI K B W H0 H' σ' ρ2 i a bs ks dss' → Gw (a :: bs ++ B) H H' → Q dss' → if e = true then E.rt (.ref a) H' else E.nx σ' H') → t E σ H
def BI (K : PySem.W.Frag) (i : Nat) (ks : List Str) (e : Bool) (t : TS) (ρ : List En) (dss : List (List D)) (m : M (List (List D))) (ρ2 : List En) : Prop := ∀ Q, wp m Q → BIQ K i ks e t ρ dss Q ρ2
section
variable {K : PySem.W.Frag} {i j n : Nat} {ks : List Str} {e : Bool} {t u v : TS} {ρ ρ0 ρ2 : List En} {dss : List (List D)} {te : TE} {me : M D}
theorem pl_own {σ : L2.St} {ρ : List En} {b : Addr} (pl : ∀ e ∈ ρ, En.pl e = true) : ¬ Own σ ρ b := fun ⟨j, o, h1, _⟩ => by
  have z := pl _ (List.mem_of_getElem? h1)
  cases z
theorem pl_bor {σ : L2.St} {ρ : List En} {b : Addr} (pl : ∀ e ∈ ρ, En.pl e = true) : ¬ Bor σ ρ b := fun ⟨j, d, h1, _⟩ => by
  have z := pl _ (List.mem_of_getElem? h1)
  cases z
theorem pl_set {ρ : List En} {x : En} (h : En.pl x = true) (pl : ∀ e ∈ ρ, En.pl e = true) : ∀ e ∈ ρ.set j x, En.pl e = true := fun e m => by
  rcases List.mem_or_eq_of_mem_set m with m | m
  · exact pl e m
  · rw [m]; exact h
theorem pl_wk {ρ ρ' : List En} (w : Wk ρ ρ') (pl : ∀ e ∈ ρ, En.pl e = true) : ∀ e ∈ ρ', En.pl e = true := fun e m => by
  obtain ⟨k, h1⟩ := List.mem_iff_getElem?.mp m
  rcases w.get h1 with rfl | z
  · rfl
  · exact pl e (List.mem_of_getElem? z)
theorem BI.next (w : Wk ρ ρ2) : BI K i ks false tNext ρ dss (.ret dss) ρ2 := fun Q q B W H0 H σ a bs di E k => by
  have z := k σ H dss { di with pl := pl_wk w di.pl, en := di.en.wk w } Gw.refl q
  exact z
theorem BI.ret : BI K i ks true (tRet (tVar i)) ρ dss (.ret dss) ρ := fun Q q B W H0 H σ a bs di E k => ⟨_, di.sl, k σ H dss di Gw.refl q⟩
theorem DI.gs2 {B W : List Addr} {H0 H H1 : Hp} {σ : L2.St} {a : Addr} {bs : List Addr} (di : DI K B W H0 H σ ρ i a bs ks dss) (g : Gs W H H1) : DI K B W H0 H1 σ ρ i a bs ks dss :=
  { di with hd := g.gw.keep _ _ (di.nW a (List.mem_cons_self ..)) di.hd, ls := LsAt.impB (fun b m xs ex => g.gw.keep _ _ (di.nW b (List.mem_cons_of_mem _ m)) ex) (fun _ _ z => z.gw (di.en.bw.gw g)) di.ls, en := di.en.gs g, gs := di.gs.trans g }
theorem BI.asg {k : D → M (List (List D))} (hj : j ≠ i) (he : RE K te ρ me) (h : ∀ d, BI K i ks e u (ρ.set j (.dat d)) dss (k d) ρ2) : BI K i ks e (tSeq (tAsg te (gName j)) u) ρ dss (me.bind k) ρ2 := fun Q w B W H0 H σ a bs di E q =>
  he _ (wp_bind.mp w) _ W H σ di.en _ fun x d H1 g1 s1 w1 => by
    have d1 := di.gs2 g1
    refine h d Q w1 B W H0 H1 (σ.set j (some x)) a bs { d1 with sl := ?_, pl := pl_set rfl di.pl, en := d1.en.set s1 } E fun σ' H' dss' di' g' q' => q σ' H' dss' di' ((di.en.bw.gw g1).trans g') q'
    rw [List.getElem?_set_ne hj]
    exact di.sl
def M.appN {α : Type} (dss : List (List D)) (n : Nat) (x : D) (kk : List (List D) → M α) : M α := match dss[n]? with
  | some ds => if ds.length < 16777216 then kk (dss.set n (ds ++ [x])) else .fail
  | none => .fail
theorem BI.one {m : M (List (List D))} (h : BI K i ks e (tSeq t tNext) ρ dss m ρ2) : BI K i ks e t ρ dss m ρ2 := h
theorem BI.at {m : M (List (List D))} (h : BI K i ks e t ρ dss m ρ2) {Q : List (List D) → Prop} (w : wp m Q) : BIQ K i ks e t ρ dss Q ρ2 := h Q w
/-- d[k].append(e) -/
theorem BI.app {z : Str} {kk : List (List D) → M (List (List D))} (hk : ks[n]? = some z) (he : RE K te ρ me) (h : ∀ dss, BI K i ks e u ρ dss (kk dss) ρ2) :
    BI K i ks e (tSeq (tDrop (tBM K "list" rAppend (tOp (rIxA K) (tVar i) (tC (.str z))) (tCons te tNil))) u) ρ dss (me.bind fun x => M.appN dss n x kk) ρ2 := fun Q w B W H0 H σ a bs di E q => by
  obtain ⟨b, hb, hv⟩ := kvsOf_val di.len di.kd hk
  obtain ⟨xs, ds, e1, hx, sx⟩ := di.ls.get hb
  have mb : b ∈ a :: bs := List.mem_cons_of_mem _ (List.mem_of_getElem? hb)
  refine ⟨.ref a, di.sl, .inr ⟨a, .ref b, rfl, .inl ⟨_, Sum.inr z, .inl di.hd, rfl, hv.symm⟩, ?_⟩⟩
  refine ⟨tyV_lst hx, he _ (wp_bind.mp w) _ W H σ di.en _ fun y d H1 g1 s1 w1 => ?_⟩
  unfold M.appN at w1
  rw [e1] at w1
  obtain ⟨hz, w2⟩ := wp_ite (show wp (if ds.length < 16777216 then kk (dss.set n (ds ++ [d])) else .fail) Q from w1)
  have d1 := di.gs2 g1
  obtain ⟨xs1, ds1, e2, hx1, sx1⟩ := d1.ls.get hb
  rw [e1] at e2
  cases e2
  have nt : NoT H1 b := ⟨_, hx1, fun _ z => nomatch z⟩
  have mB : b ∈ a :: bs ++ B := List.mem_append_left _ mb
  have gg : Gw (a :: bs ++ B) H1 (upd H1 b (.lst (xs1 ++ [y]))) := Gw.wr mB nt
  have ab : a ≠ b := fun z => (List.nodup_cons.mp di.nd).1 (z ▸ List.mem_of_getElem? hb)
  have d2 : DI K B W H0 (upd H1 b (.lst (xs1 ++ [y]))) σ ρ i a bs ks (dss.set n (ds ++ [d])) :=
    { d1 with
      hd := by
        rw [upd_ne ab]
        exact d1.hd
      ls := LsAt.put (fun _ _ z => z.gw gg) s1 (List.nodup_cons.mp di.nd).2 d1.ls hb e1 sx1
      en := d1.en.wr nt mB (di.nW b mb) (pl_own di.pl) (pl_bor di.pl)
      gs := d1.gs.mut (di.new b mb) }
  refine ⟨b, xs1, y, rfl, rfl, hx1, by rw [sx1.length, sizeLine_eq]; exact hz, ?_⟩
  exact h _ Q w2 B W H0 _ σ a bs d2 E fun σ' H' dss' di' g' q' => q σ' H' dss' di' (((di.en.bw.gw g1).trans gg).trans g') q'
end
end VB
namespace VB
open PySem PySem.Spec PyProof.Rows L2
structure NkD (n : Nat) (d : D) : Prop where
  pu : d.pu = true
  ky : ∃ k, pk d.py = some k ∧ k.depth ≤ n
  dp : d.py.depth ≤ n
theorem NkD.mono {n m : Nat} {d : D} (h : NkD n d) (l : n ≤ m) : NkD m d := ⟨h.pu, h.ky.imp fun k z => ⟨z.1, Nat.le_trans z.2 l⟩, Nat.le_trans h.dp l⟩
theorem NkD.int {i : Int} : NkD 0 (.int i) := ⟨rfl, ⟨_, rfl, Nat.le_refl _⟩, Nat.le_refl _⟩
theorem NkD.str {z : Str} : NkD 0 (.str z) := ⟨rfl, ⟨_, rfl, Nat.le_refl _⟩, Nat.le_refl _⟩
theorem NkD.bl {b : Bool} : NkD 0 (.bl b) := ⟨rfl, ⟨_, rfl, Nat.le_refl _⟩, Nat.le_refl _⟩
theorem NkD.all {n : Nat} : ∀ {ds : List D}, (∀ d ∈ ds, NkD n d) → D.puA ds = true ∧ (∃ ks, pkA (D.pyA ds) = some ks ∧ NestedKey.depthAll ks ≤ n) ∧ PyData.depthAll (D.pyA ds) ≤ n
  | [], _ => ⟨rfl, ⟨[], rfl, Nat.zero_le _⟩, Nat.zero_le _⟩
  | d :: ds, h => by
    obtain ⟨a1, ⟨ks, a2, a3⟩, a4⟩ := NkD.all fun x m => h x (List.mem_cons_of_mem _ m)
    obtain ⟨b1, ⟨k, b2, b3⟩, b4⟩ := h d (List.mem_cons_self ..)
    refine ⟨?_, ⟨k :: ks, ?_, ?_⟩, ?_⟩
    · show (_ && _) = true
      rw [b1, a1]
      rfl
    · show (pk d.py).bind (fun k => (pkA (D.pyA ds)).map (k :: ·)) = _
      rw [b2, a2]
      rfl
    · show max k.depth (NestedKey.depthAll ks) ≤ n
      omega
    · show max d.py.depth (PyData.depthAll (D.pyA ds)) ≤ n
      omega
theorem NkD.tup {n : Nat} {ds : List D} (h : ∀ d ∈ ds, NkD n d) : NkD (n + 1) (.tup ds) := by
  obtain ⟨a1, ⟨ks, a2, a3⟩, a4⟩ := NkD.all h
  refine ⟨a1, ⟨.tup ks, ?_, Nat.succ_le_succ a3⟩, Nat.succ_le_succ a4⟩
  show (pkA (D.pyA ds)).map NestedKey.tup = _
  rw [a2]
  rfl
theorem NkD.nk {n : Nat} {d : D} (h : NkD n d) (hn : n ≤ 8) : ∃ k, d.nk = some k := by
  obtain ⟨k, h1, h2⟩ := h.ky
  refine ⟨k, ?_⟩
  unfold D.nk
  rw [if_pos h.pu, h1]
  exact if_pos (Nat.le_trans h2 hn)
end VB
namespace VB
open PySem PySem.Spec PyProof.Rows L2
/-- what a clause's inside does: from slots and heap to heaps -/
abbrev TN := L2.St → Hp → (Hp → Prop) → Prop
end VB
namespace VB
open PySem PySem.Spec PyProof.Rows L2
/-- steps of expressions, and writes of the new list -/
inductive Go (W : List Addr) (Dl : Addr) (H : Hp) : Hp → Prop
  | refl : Go W Dl H H
  | gs {H1 H2 : Hp} : Go W Dl H H1 → Gs W H1 H2 → Go W Dl H H2
  | wr {H1 : Hp} {acc acc' : List V} : Go W Dl H H1 → H1 Dl = some (.lst acc) → Go W Dl H (upd H1 Dl (.lst acc'))
section
variable {K : PySem.W.Frag} {B W : List Addr} {Dl : Addr} {H H1 H' : Hp} {σ : L2.St} {ρ : List En}
theorem ntL {acc : List V} (h : H Dl = some (.lst acc)) : NoT H Dl := ⟨_, h, fun _ z => nomatch z⟩
theorem Go.trans (a : Go W Dl H H1) (b : Go W Dl H1 H') : Go W Dl H H' := by
  induction b with
  | refl => exact a
  | gs _ g ih => exact .gs ih g
  | wr _ h ih => exact .wr ih h
theorem Go.env (go : Go W Dl H H') (dW : Dl ∉ W) (nO : ¬ Own σ ρ Dl) (nB : ¬ Bor σ ρ Dl) (en : EnvOk K (Dl :: B) W H σ ρ) : EnvOk K (Dl :: B) W H' σ ρ := by
  induction go with
  | refl => exact en
  | gs _ g ih => exact ih.gs g
  | wr _ h ih => exact ih.wr (ntL h) (List.mem_cons_self ..) dW nO nB
theorem Go.sga (go : Go W Dl H H') (sub : ∀ a ∈ W, a ∈ Dl :: B) {xs : List V} {ds : List D} (s : SgA K (Dl :: B) H xs ds) : SgA K (Dl :: B) H' xs ds := by
  induction go with
  | refl => exact s
  | gs _ g ih => exact ih.gw (g.gw.mono sub)
  | wr _ h ih => exact ih.gw (Gw.wr (List.mem_cons_self ..) (ntL h))
theorem Go.sg (go : Go W Dl H H') (sub : ∀ a ∈ W, a ∈ Dl :: B) {v : V} {d : D} (s : Sg K (Dl :: B) H v d) : Sg K (Dl :: B) H' v d := by
  induction go with
  | refl => exact s
  | gs _ g ih => exact ih.gw (g.gw.mono sub)
  | wr _ h ih => exact ih.gw (Gw.wr (List.mem_cons_self ..) (ntL h))
theorem Go.kp (go : Go W Dl H H') {H0 : Hp} (k : Kp W (fun a => a = Dl) H0 H) : Kp W (fun a => a = Dl) H0 H' := by
  induction go with
  | refl => exact k
  | gs _ g1 ih => exact ih.step g1
  | wr _ h ih => exact ih.wr (ntL h)
theorem Go.free (go : Go W Dl H H') : ∀ b, H' b = none → H b = none := by
  induction go with
  | refl => exact fun _ e => e
  | gs _ g1 ih => exact fun b e => ih b (g1.gw.free b e)
  | wr _ h ih =>
    intro b e
    by_cases z : b = Dl
    · rw [z, upd_same] at e
      cases e
    · rw [upd_ne z] at e
      exact ih b e
end
/-- what stands behind a clause, on data: the new list goes on with what m says -/
def RIn (K : PySem.W.Frag) (inner : Addr → TN) (ρ : List En) (m : M (List D)) : Prop := ∀ (P : List D → Prop), wp m P → ∀ (B W : List Addr) (H : Hp) (σ : L2.St) (Dl : Addr) (acc : List V) (es : List D), EnvOk K (Dl :: B) W H σ ρ → Dl ∉ W → ¬ Own σ ρ Dl → ¬ Bor σ ρ Dl →
  H Dl = some (.lst acc) → SgA K (Dl :: B) H acc es → (∀ r, P r → es.length + r.length ≤ 16000000) → ∀ Nx : Hp → Prop, (∀ H' acc' r, Go W Dl H H' → H' Dl = some (.lst acc') → SgA K (Dl :: B) H' acc' (es ++ r) → P r → Nx H') → inner Dl σ H Nx
def CTn (K : PySem.W.Frag) (tt : TT) (inner : Addr → TN) (P : List D → Prop) (ρ : List En) : Prop := ∃ (mb : M Bool) (mi : M (List D)), RT K tt ρ mb ∧ RIn K inner ρ mi ∧ wp (mb.bind fun b => if b = true then mi else .ret []) P
section
variable {K : PySem.W.Frag} {ρ : List En} {te te1 : TE} {tt : TT} {p : Pt} {js : List Nat} {wi : TI} {mi : M (List D)} {inner : Addr → TN}
theorem CTn.plain {m : M (List D)} (h : RIn K inner ρ m) {P : List D → Prop} (w : wp m P) : CTn K tYes inner P ρ := ⟨_, m, RT.yes, h, by
  rw [M.ret_bind, if_pos rfl]
  exact w⟩
end
end VB
namespace VB
open PySem PySem.Spec PyProof.Rows L2
end VB
namespace VB
open PySem PySem.Spec PyProof.Rows L2
end VB
namespace VB
open PySem PySem.Spec PyProof.Rows L2
end VB
namespace VB
open PySem PySem.Spec PyProof.Rows L2
end VB
namespace VB
open PySem PySem.Spec PyProof.Rows L2
end VB
namespace VB
open PySem PySem.Spec PyProof.Rows L2
end VB
namespace VB
open PySem PySem.Spec PyProof.Rows L2
def rStrI : List V → Hp → VK → Prop := fun xs H Q => ∃ i : Int, xs = [.int i] ∧ i.natAbs.log2 < 1920 ∧ Q (.str (Str.ofString (toString i))) H
theorem cr_strI {X : Cx} : CallR X (.type "str") rStrI := by
  intro pins s σ H xs us Q I r h
  obtain ⟨i, rfl, hi, q⟩ := h
  obtain ⟨u, rfl, rb⟩ := vals1 r
  obtain ⟨t, rfl⟩ := (show ∃ t, u = Value.int i t from rb)
  exact PySem.P.str_of_int hi ⟨.str _, H, I.tok _, ⟨_, rfl⟩, q⟩
def D.strI : D → M D
  | .int i => if i.natAbs.log2 < 1920 then .ret (.str (Str.ofString (toString i))) else .fail
  | _ => .fail
theorem strI_c {K : PySem.W.Frag} : CaD K rStrI (M.one D.strI) := .one fun x P w B W H v bw s Q q => by
  cases x with
  | int i =>
    cases s
    obtain ⟨h1, w⟩ := wp_ite w
    exact ⟨i, rfl, h1, q _ _ H Gs.refl (.str _) w⟩
  | _ => exact (show False from w).elim
end VB
namespace VB
open PySem PySem.Spec PyProof.Rows L2
def enumF {α : Type} : Nat → List α → List (Key × α)
  | _, [] => []
  | i, x :: xs => (.inl (i : Int), x) :: enumF (i + 1) xs
theorem enumF_snd {α : Type} : ∀ {i : Nat} {xs : List α}, (enumF i xs).map (·.2) = xs
  | _, [] => rfl
  | i, x :: xs => by
    show x :: (enumF (i + 1) xs).map (·.2) = _
    rw [enumF_snd]
theorem enumF_fst {α β : Type} : ∀ {i : Nat} {xs : List α} {ys : List β}, xs.length = ys.length → (enumF i xs).map (·.1) = (enumF i ys).map (·.1)
  | _, [], [], _ => rfl
  | i, x :: xs, y :: ys, h => by
    show Sum.inl (i : Int) :: (enumF (i + 1) xs).map (·.1) = Sum.inl (i : Int) :: (enumF (i + 1) ys).map (·.1)
    rw [enumF_fst (Nat.succ.inj h)]
theorem enumF_len {α : Type} : ∀ {i : Nat} {xs : List α}, (enumF i xs).length = xs.length
  | _, [] => rfl
  | i, x :: xs => by
    show (enumF (i + 1) xs).length + 1 = _
    rw [enumF_len]
    rfl
theorem enumF_at {α : Type} : ∀ {i j : Nat} {xs : List α} {x : α}, xs[j]? = some x → (enumF i xs)[j]? = some (.inl ((i + j : Nat) : Int), x)
  | i, 0, y :: xs, x, e => by
    have e : y = x := Option.some.inj e
    subst e
    rfl
  | i, j + 1, y :: xs, x, e => by
    show (enumF (i + 1) xs)[j]? = _
    rw [enumF_at (xs := xs) (j := j) (i := i + 1) (by simpa using e), Nat.add_right_comm]
    rfl
theorem enum_kv : ∀ {i : Nat} {xs : List V} {its : List Value}, Vals xs its → KV (enumF i xs) (enumF i its)
  | _, _, _, .nil => .nil
  | _, _, _, .cons h r => .cons ⟨rfl, h⟩ (enum_kv r)
def tDictEn (K : PySem.W.Frag) (te : TE) : TE := fun σ H Q => te σ H fun x H1 => ∃ (a : Addr) (xs : List V), x = .ref a ∧ SqL K H1 a xs ∧ ∀ p, H1 p = none → Q (.ref p) (upd H1 p (.dK (mergeK [] (enumF 0 xs))))
section
variable {X : Cx} {x y : Str} {p p2 pos pos2 : Pos} {e : Expr} {te : TE}
theorem pe_dictEn (hcalm : X.calm = true) (he : PE X e te) (hg : Gl X x) (hm : X.mg x = none) (hv : bootBuiltins x = some (.type "dict")) (hg2 : Gl X y) (hm2 : X.mg y = none) (hv2 : bootBuiltins y = some (.type "enumerate"))
    (hn : x ≠ "__name__" := by decide) (hdb : (x == ("__debug__" : Str)) = false := by decide) (hn2 : y ≠ "__name__" := by decide) (hdb2 : (y == ("__debug__" : Str)) = false := by decide)
    (hs : starEach [e] X.env = (false, eval e X.env) :: starEach [] X.env := by rfl) :
    PE X (.Call (.Name x p) [.Call (.Name y p2) [e] [] pos2] [] pos) (tDictEn X.K te) := by
  refine ⟨fun pins s σ H Q I h => ?_⟩
  refine wpAny_Call_Name_kw (ld_blt I hg hm hv ?_ hn hdb)
  refine PyProof.Rows.callWith_type1 (Calls.spliced_cons (thn (Q := fun u s2 => ∃ (a : Addr) (xs : List V) (its : List Value) (H1 : Hp) (s1 : Shared) (h' : Heap), u = .ref (s1.heap.objs.size + 1) ∧ s2 = { s1 with heap := h' } ∧ Inv X pins σ H1 s1 ∧ Vals xs its ∧ s1.heap.IsList a its.toArray ∧ its.length ≤ sizeLine ∧ IsEnum h' (s1.heap.objs.size + 1) s1.heap.objs.size 0 .none ∧ h'.IsListIter s1.heap.objs.size a 0 ∧ h'.objs.size = s1.heap.objs.size + 2 ∧ (∀ b o, s1.heap.get? b = some o → h'.get? b = some o) ∧ ∀ p, H1 p = none → Q (.ref p) (upd H1 p (.dK (mergeK [] (enumF 0 xs))))) ?_ fun u s2 z => ?_)) (by rfl) (by rfl)
  · refine wpAny_Call_Name_kw (ld_blt I hg2 hm2 hv2 ?_ hn2 hdb2)
    refine PyProof.Rows.callWith_type1 ?_ hs (by rfl)
    rw [hs]
    refine (show wpAny _ _ (spliced ((false, eval e X.env) :: backTo pos2 (starEach [] X.env))) _ _ _ from Calls.spliced_cons (thn (he.run pins s σ H _ I h) fun u s1 z => Calls.spliced_nil ?_))
    obtain ⟨v, H1, I1, r1, a, xs, rfl, hq, q⟩ := z
    cases r1
    obtain ⟨its, rv, pl, hz⟩ := I1.list hq
    obtain ⟨o, n, ho, hc, hd, hdat⟩ := pl
    have pl : s1.heap.IsList a its.toArray := ⟨o, ho, hc, n, hdat⟩
    refine call_enumerate_list pl fun h' h1 h2 h3 h4 => ?_
    exact ⟨a, xs, its, H1, s1, h', rfl, rfl, I1, rv, pl, by rw [← rv.length]; exact hz, h1, h2, h3, h4, q⟩
  · obtain ⟨a, xs, its, H1, s1, h', rfl, rfl, I1, rv, pl, hz, h1, h2, h3, h4, q⟩ := z
    refine Calls.spliced_nil ?_
    have la : a < s1.heap.objs.size := by
      obtain ⟨o, ho, _⟩ := pl
      exact Heap.lt_size ho
    refine call_dict_pairs (knd := mixKind X.prog X.w) (kvs := enumF 0 its) (PairArg.enumerate (s1.heap.objs.size + 1) s1.heap.objs.size a (Nat.succ_ne_self _) (Nat.ne_of_lt (Nat.lt_succ_of_lt la)) (Nat.ne_of_lt la) its.toArray) (I1.ok.hd hcalm) ⟨⟨_, h1⟩, h2, pl.at fun o x => h4 _ o x⟩ ⟨by rw [enumF_len]; simp, fun i key v e => ?_⟩ (by simpa using hz) fun h2' tk hd' hk => ?_
    · obtain ⟨⟨t, rfl⟩, e⟩ := e
      refine ⟨.inl ((0 + i : Nat) : Int), enumF_at (by simpa using e), ?_⟩
      rw [Nat.zero_add]
      exact kV_is (P := X.prog) (w := X.w) (k := Sum.inl (i : Int)) ⟨t, rfl⟩
    · have sz : (({ s1 with heap := h' } : Shared).heap.objs.size) = s1.heap.objs.size + 2 := h3
      rw [sz] at hd' ⊢
      have k : ∀ b u, s1.heap.get? b = some u → h2'.get? b = some u := fun b u e => by
        have lb := Heap.lt_size e
        exact hk b u (fun m => by
          simp only [List.mem_cons, List.not_mem_nil, or_false] at m
          rcases m with rfl | rfl
          · exact Nat.lt_irrefl _ (Nat.lt_of_succ_lt lb)
          · exact Nat.lt_irrefl _ lb) (h4 b u e)
      have hmod : (s1.heap.objs.size + 2 == sysModules) = false := beq_eq_false_iff_ne.mpr (Nat.ne_of_gt (Nat.lt_of_lt_of_le I1.big (by omega)))
      have rel := enum_kv (i := 0) rv
      have hlen : (mergeK [] (enumF 0 xs)).length ≤ sizeLine := by
        refine Nat.le_trans (length_mergeK (enumF 0 xs) []) ?_
        rw [List.length_nil, Nat.zero_add, enumF_len, rv.length]
        exact hz
      exact ⟨.ref (s1.heap.objs.size + 2), upd H1 (s1.heap.objs.size + 2) (.dK (mergeK [] (enumF 0 xs))), I1.laid (t' := tk) k (by omega) (show ObjOk X.prog X.w _ _ _ (.dK (mergeK [] (enumF 0 xs))) from ⟨hlen, hmod, merged [] (enumF 0 its), KV.merge rel .nil, hd'⟩), rfl, q _ (I1.hok.fresh (by omega))⟩
end
def D.dictEn (x : D) : M D := match x with
  | .lst ds => .ret (mergeDK [] [] (enumF 0 ds))
  | _ => .fail
theorem RN.dictEn {K : PySem.W.Frag} {te : TE} {ρ : List En} {m : M D} (h : RR K te ρ m) : RN K (tDictEn K te) ρ (m.bind D.dictEn) := fun P w B W H σ e Q q =>
  h _ (wp_bind.mp w) B W H σ e _ fun v x H1 g1 s1 w1 => by
    cases x with
    | lst ds =>
      obtain ⟨a, xs, rfl, _, h, r⟩ := s1
      refine ⟨a, xs, rfl, SqL.of h, fun p n => ?_⟩
      have le : xs.length = ds.length := r.length
      have z := mergeDK_at (K := K) (B := p :: B) (H := upd H1 p (.dK (mergeK [] (enumF 0 xs)))) (a := p) (rows := enumF 0 xs) (rs := enumF 0 ds) (kvs := []) (ds := []) (enumF_fst le) (by rw [enumF_snd, enumF_snd]; exact r.out n) .nil upd_same
      exact q p _ _ (g1.trans (Gs.new n)) (g1.gw.free p n) z w1
    | _ => exact (show False from w1).elim
end VB
namespace K28
open PySem PySem.Spec PyProof.Rows L2 VB
theorem sc_Wrong_init : FnScope ["self", "place"] ["self", "place"] (defScope s_Wrong_init) := ⟨rfl, rfl, rfl, by decide +kernel, rfl, by decide +kernel, by decide +kernel⟩
theorem sc_is_integer : FnScope ["thing"] ["thing"] (defScope s_is_integer) := ⟨rfl, rfl, rfl, by decide +kernel, rfl, by decide +kernel, by decide +kernel⟩
theorem sc_is_word : FnScope ["thing", "letter"] ["thing"] (defScope s_is_word) := ⟨rfl, rfl, rfl, by decide +kernel, rfl, by decide +kernel, by decide +kernel⟩
theorem sc_is_day : FnScope ["thing"] ["thing"] (defScope s_is_day) := ⟨rfl, rfl, rfl, by decide +kernel, rfl, by decide +kernel, by decide +kernel⟩
theorem sc_is_carry_row : FnScope ["thing", "rule"] ["thing"] (defScope s_is_carry_row) := ⟨rfl, rfl, rfl, by decide +kernel, rfl, by decide +kernel, by decide +kernel⟩
theorem sc_are_carry_rows : FnScope ["thing", "row", "rule", "rules"] ["thing"] (defScope s_are_carry_rows) := ⟨rfl, rfl, rfl, by decide +kernel, rfl, by decide +kernel, by decide +kernel⟩
theorem sc_unlisted : FnScope ["rest", "rule"] ["rest", "rule"] (defScope s_unlisted) := ⟨rfl, rfl, rfl, by decide +kernel, rfl, by decide +kernel, by decide +kernel⟩
theorem sc_Carry_init : FnScope ["self", "rest", "rows", "listed", "rule", "rules"] ["self", "rest", "rows"] (defScope s_Carry_init) := ⟨rfl, rfl, rfl, by decide +kernel, rfl, by decide +kernel, by decide +kernel⟩
theorem sc_Carry_rest : FnScope ["self"] ["self"] (defScope s_Carry_rest) := ⟨rfl, rfl, rfl, by decide +kernel, rfl, by decide +kernel, by decide +kernel⟩
theorem sc_Carry_carried : FnScope ["self", "rule"] ["self", "rule"] (defScope s_Carry_carried) := ⟨rfl, rfl, rfl, by decide +kernel, rfl, by decide +kernel, by decide +kernel⟩
theorem sc_is_span : FnScope ["thing"] ["thing"] (defScope s_is_span) := ⟨rfl, rfl, rfl, by decide +kernel, rfl, by decide +kernel, by decide +kernel⟩
theorem sc_fewest_spans : FnScope ["spans", "found", "begin", "end"] ["spans"] (defScope s_fewest_spans) := ⟨rfl, rfl, rfl, by decide +kernel, rfl, by decide +kernel, by decide +kernel⟩
theorem sc_Days_init : FnScope ["self", "spans", "span"] ["self", "spans"] (defScope s_Days_init) := ⟨rfl, rfl, rfl, by decide +kernel, rfl, by decide +kernel, by decide +kernel⟩
theorem sc_Days_contains : FnScope ["self", "day", "begin", "end"] ["self", "day"] (defScope s_Days_contains) := ⟨rfl, rfl, rfl, by decide +kernel, rfl, by decide +kernel, by decide +kernel⟩
theorem sc_law_bag : FnScope ["_law_script", "_law_cell"] ["_law_script"] (defScope s_law_bag) := ⟨rfl, rfl, rfl, by decide +kernel, rfl, by decide +kernel, by decide +kernel⟩
theorem sc_law_take : FnScope ["_law_bag_here", "_law_many", "_law_cell", "_law_more", "_law_drawn", "_law_begin", "_law_second"] ["_law_bag_here", "_law_many"] (defScope s_law_take) := ⟨rfl, rfl, rfl, by decide +kernel, rfl, by decide +kernel, by decide +kernel⟩
theorem sc_law_mixed : FnScope ["_law_bag_here", "_law_things", "_law_found", "_law_thing"] ["_law_bag_here", "_law_things"] (defScope s_law_mixed) := ⟨rfl, rfl, rfl, by decide +kernel, rfl, by decide +kernel, by decide +kernel⟩
theorem sc_law_labels : FnScope ["_law_bag_here", "_law_many", "_law_letters", "_law_words", "_law_way", "_law_turn", "_law_base", "_law_at", "_law_far", "_law_some", "_law_k"] ["_law_bag_here", "_law_many"] (defScope s_law_labels) := ⟨rfl, rfl, rfl, by decide +kernel, rfl, by decide +kernel, by decide +kernel⟩
theorem sc_law_drawn_spans : FnScope ["_law_bag_here", "_law_many", "_law_found", "_law_k", "_law_great", "_law_begin", "_law_end"] ["_law_bag_here", "_law_many"] (defScope s_law_drawn_spans) := ⟨rfl, rfl, rfl, by decide +kernel, rfl, by decide +kernel, by decide +kernel⟩
theorem sc_law_has_day : FnScope ["_law_spans", "_law_day", "_law_begin", "_law_end"] ["_law_spans", "_law_day"] (defScope s_law_has_day) := ⟨rfl, rfl, rfl, by decide +kernel, rfl, by decide +kernel, by decide +kernel⟩
theorem sc_law_is_day : FnScope ["_law_thing"] ["_law_thing"] (defScope s_law_is_day) := ⟨rfl, rfl, rfl, by decide +kernel, rfl, by decide +kernel, by decide +kernel⟩
theorem sc_law_is_word : FnScope ["_law_thing", "_law_sign"] ["_law_thing"] (defScope s_law_is_word) := ⟨rfl, rfl, rfl, by decide +kernel, rfl, by decide +kernel, by decide +kernel⟩
theorem sc_law_is_span : FnScope ["_law_thing"] ["_law_thing"] (defScope s_law_is_span) := ⟨rfl, rfl, rfl, by decide +kernel, rfl, by decide +kernel, by decide +kernel⟩
theorem sc_law_is_row : FnScope ["_law_thing", "_law_rule"] ["_law_thing"] (defScope s_law_is_row) := ⟨rfl, rfl, rfl, by decide +kernel, rfl, by decide +kernel, by decide +kernel⟩
theorem sc_law_wrong : FnScope ["_law_way", "_law_things", "_law_good", "_law_told", "_law_double", "_law_one", "_law_k"] ["_law_way", "_law_things"] (defScope s_law_wrong) := ⟨rfl, rfl, rfl, by decide +kernel, rfl, by decide +kernel, by decide +kernel⟩
theorem sc_law_odd : FnScope ["_law_bag_here", "_law_deep", "_law_k", "_law_odd_here"] ["_law_bag_here"] (defScope s_law_odd) := ⟨rfl, rfl, rfl, by decide +kernel, rfl, by decide +kernel, by decide +kernel⟩
theorem sc_law_odd_span : FnScope ["_law_bag_here", "_law_span", "_law_begin", "_law_end", "_law_some"] ["_law_bag_here", "_law_span"] (defScope s_law_odd_span) := ⟨rfl, rfl, rfl, by decide +kernel, rfl, by decide +kernel, by decide +kernel⟩
theorem sc_law_odd_row : FnScope ["_law_bag_here", "_law_row", "_law_rule", "_law_some", "_law_odd_here", "_law_spot", "_law_menu", "_law_one"] ["_law_bag_here", "_law_row"] (defScope s_law_odd_row) := ⟨rfl, rfl, rfl, by decide +kernel, rfl, by decide +kernel, by decide +kernel⟩
theorem sc_law_spoilt : FnScope ["_law_bag_here", "_law_way", "_law_rows", "_law_kind", "_law_spot", "_law_row", "_law_odd_here"] ["_law_bag_here", "_law_way", "_law_rows"] (defScope s_law_spoilt) := ⟨rfl, rfl, rfl, by decide +kernel, rfl, by decide +kernel, by decide +kernel⟩
theorem sc_law_tried : FnScope ["_law_way", "_law_things", "e", "_law_good"] ["_law_way", "_law_things"] (defScope s_law_tried) := ⟨rfl, rfl, rfl, by decide +kernel, rfl, by decide +kernel, by decide +kernel⟩
theorem sc_law_as_told : FnScope ["_law_bag_here", "_law_way", "_law_things", "_law_found", "_law_begin", "_law_end", "_law_wrong_here", "_law_rule", "_law_some", "_law_day"] ["_law_bag_here", "_law_way", "_law_things", "_law_found"] (defScope s_law_as_told) := ⟨rfl, rfl, rfl, by decide +kernel, rfl, by decide +kernel, by decide +kernel⟩
theorem sc_law : FnScope ["_law_script", "_law_bag_here", "_law_words", "_law_k", "_law_way", "_law_spans", "_law_rows", "_law_good", "_law_things", "_law_time", "_law_wrong_here", "_law_shown", "_law_word", "_law_found", "_law_rule"] ["_law_script"] (defScope s_law) := ⟨rfl, rfl, rfl, by decide +kernel, rfl, by decide +kernel, by decide +kernel⟩
structure Ad where
  c : Cl
  f_Wrong_init : Addr
  d_Wrong_init : FuncData
  f_is_integer : Addr
  d_is_integer : FuncData
  f_is_word : Addr
  d_is_word : FuncData
  f_is_day : Addr
  d_is_day : FuncData
  f_is_carry_row : Addr
  d_is_carry_row : FuncData
  f_are_carry_rows : Addr
  d_are_carry_rows : FuncData
  f_unlisted : Addr
  d_unlisted : FuncData
  f_Carry_init : Addr
  d_Carry_init : FuncData
  f_Carry_rest : Addr
  d_Carry_rest : FuncData
  f_Carry_carried : Addr
  d_Carry_carried : FuncData
  f_is_span : Addr
  d_is_span : FuncData
  f_fewest_spans : Addr
  d_fewest_spans : FuncData
  f_Days_init : Addr
  d_Days_init : FuncData
  f_Days_contains : Addr
  d_Days_contains : FuncData
  f_law_bag : Addr
  d_law_bag : FuncData
  f_law_take : Addr
  d_law_take : FuncData
  f_law_mixed : Addr
  d_law_mixed : FuncData
  f_law_labels : Addr
  d_law_labels : FuncData
  f_law_drawn_spans : Addr
  d_law_drawn_spans : FuncData
  f_law_has_day : Addr
  d_law_has_day : FuncData
  f_law_is_day : Addr
  d_law_is_day : FuncData
  f_law_is_word : Addr
  d_law_is_word : FuncData
  f_law_is_span : Addr
  d_law_is_span : FuncData
  f_law_is_row : Addr
  d_law_is_row : FuncData
  f_law_wrong : Addr
  d_law_wrong : FuncData
  f_law_odd : Addr
  d_law_odd : FuncData
  f_law_odd_span : Addr
  d_law_odd_span : FuncData
  f_law_odd_row : Addr
  d_law_odd_row : FuncData
  f_law_spoilt : Addr
  d_law_spoilt : FuncData
  f_law_tried : Addr
  d_law_tried : FuncData
  f_law_as_told : Addr
  d_law_as_told : FuncData
  f_law : Addr
  d_law : FuncData
  p_Carry_rest : Addr
  z_Carry_init_0 : Addr
  z_Days_init_0 : Addr
  t_LETTERS : Tok
  t_MOST_LETTERS : Tok
  t_LAST_DAY : Tok
structure Tx0 (w : World) (K : PySem.W.Frag) (mg : Str → Option Value) (a : Ad) : Prop where
  F_Wrong_init : FunD K "__init__" "Wrong.__init__" (defArgs s_Wrong_init) (defBody s_Wrong_init) (defScope s_Wrong_init) [] [] a.f_Wrong_init a.d_Wrong_init
  b_Wrong_init : Binds K a.d_Wrong_init ["self", "place"] []
  F_is_integer : FunD K "is_integer" "is_integer" (defArgs s_is_integer) (defBody s_is_integer) (defScope s_is_integer) [] [] a.f_is_integer a.d_is_integer
  m_is_integer : mg "is_integer" = some (.ref a.f_is_integer)
  k_is_integer : PySem.W.keepIn K (.ref a.f_is_integer) = true
  b_is_integer : Binds K a.d_is_integer ["thing"] []
  F_is_word : FunD K "is_word" "is_word" (defArgs s_is_word) (defBody s_is_word) (defScope s_is_word) [] [] a.f_is_word a.d_is_word
  m_is_word : mg "is_word" = some (.ref a.f_is_word)
  k_is_word : PySem.W.keepIn K (.ref a.f_is_word) = true
  b_is_word : Binds K a.d_is_word ["thing"] []
  F_is_day : FunD K "is_day" "is_day" (defArgs s_is_day) (defBody s_is_day) (defScope s_is_day) [] [] a.f_is_day a.d_is_day
  m_is_day : mg "is_day" = some (.ref a.f_is_day)
  k_is_day : PySem.W.keepIn K (.ref a.f_is_day) = true
  b_is_day : Binds K a.d_is_day ["thing"] []
  F_is_carry_row : FunD K "is_carry_row" "is_carry_row" (defArgs s_is_carry_row) (defBody s_is_carry_row) (defScope s_is_carry_row) [] [] a.f_is_carry_row a.d_is_carry_row
  m_is_carry_row : mg "is_carry_row" = some (.ref a.f_is_carry_row)
  k_is_carry_row : PySem.W.keepIn K (.ref a.f_is_carry_row) = true
  b_is_carry_row : Binds K a.d_is_carry_row ["thing"] []
  F_are_carry_rows : FunD K "are_carry_rows" "are_carry_rows" (defArgs s_are_carry_rows) (defBody s_are_carry_rows) (defScope s_are_carry_rows) [] [] a.f_are_carry_rows a.d_are_carry_rows
  m_are_carry_rows : mg "are_carry_rows" = some (.ref a.f_are_carry_rows)
  k_are_carry_rows : PySem.W.keepIn K (.ref a.f_are_carry_rows) = true
  b_are_carry_rows : Binds K a.d_are_carry_rows ["thing"] []
  F_unlisted : FunD K "unlisted" "unlisted" (defArgs s_unlisted) (defBody s_unlisted) (defScope s_unlisted) [] [] a.f_unlisted a.d_unlisted
  m_unlisted : mg "unlisted" = some (.ref a.f_unlisted)
  k_unlisted : PySem.W.keepIn K (.ref a.f_unlisted) = true
  b_unlisted : Binds K a.d_unlisted ["rest", "rule"] []
  F_Carry_init : FunD K "__init__" "Carry.__init__" (defArgs s_Carry_init) (defBody s_Carry_init) (defScope s_Carry_init) [.ref a.z_Carry_init_0] [] a.f_Carry_init a.d_Carry_init
  b_Carry_init : Binds K a.d_Carry_init ["self", "rest", "rows"] []
  F_Carry_rest : FunD K "rest" "Carry.rest" (defArgs s_Carry_rest) (defBody s_Carry_rest) (defScope s_Carry_rest) [] [] a.f_Carry_rest a.d_Carry_rest
  b_Carry_rest : Binds K a.d_Carry_rest ["self"] []
  F_Carry_carried : FunD K "carried" "Carry.carried" (defArgs s_Carry_carried) (defBody s_Carry_carried) (defScope s_Carry_carried) [] [] a.f_Carry_carried a.d_Carry_carried
  b_Carry_carried : Binds K a.d_Carry_carried ["self", "rule"] []
  F_is_span : FunD K "is_span" "is_span" (defArgs s_is_span) (defBody s_is_span) (defScope s_is_span) [] [] a.f_is_span a.d_is_span
  m_is_span : mg "is_span" = some (.ref a.f_is_span)
  k_is_span : PySem.W.keepIn K (.ref a.f_is_span) = true
  b_is_span : Binds K a.d_is_span ["thing"] []
  F_fewest_spans : FunD K "fewest_spans" "fewest_spans" (defArgs s_fewest_spans) (defBody s_fewest_spans) (defScope s_fewest_spans) [] [] a.f_fewest_spans a.d_fewest_spans
  m_fewest_spans : mg "fewest_spans" = some (.ref a.f_fewest_spans)
  k_fewest_spans : PySem.W.keepIn K (.ref a.f_fewest_spans) = true
  b_fewest_spans : Binds K a.d_fewest_spans ["spans"] []
  F_Days_init : FunD K "__init__" "Days.__init__" (defArgs s_Days_init) (defBody s_Days_init) (defScope s_Days_init) [.ref a.z_Days_init_0] [] a.f_Days_init a.d_Days_init
  b_Days_init : Binds K a.d_Days_init ["self", "spans"] []
  F_Days_contains : FunD K "__contains__" "Days.__contains__" (defArgs s_Days_contains) (defBody s_Days_contains) (defScope s_Days_contains) [] [] a.f_Days_contains a.d_Days_contains
  b_Days_contains : Binds K a.d_Days_contains ["self", "day"] []
  F_law_bag : FunD K "_law_bag" "_law_bag" (defArgs s_law_bag) (defBody s_law_bag) (defScope s_law_bag) [] [] a.f_law_bag a.d_law_bag
  m_law_bag : mg "_law_bag" = some (.ref a.f_law_bag)
  k_law_bag : PySem.W.keepIn K (.ref a.f_law_bag) = true
  b_law_bag : Binds K a.d_law_bag ["_law_script"] []
  F_law_take : FunD K "_law_take" "_law_take" (defArgs s_law_take) (defBody s_law_take) (defScope s_law_take) [] [] a.f_law_take a.d_law_take
  m_law_take : mg "_law_take" = some (.ref a.f_law_take)
structure Tx1 (w : World) (K : PySem.W.Frag) (mg : Str → Option Value) (a : Ad) : Prop where
  k_law_take : PySem.W.keepIn K (.ref a.f_law_take) = true
  b_law_take : Binds K a.d_law_take ["_law_bag_here", "_law_many"] []
  F_law_mixed : FunD K "_law_mixed" "_law_mixed" (defArgs s_law_mixed) (defBody s_law_mixed) (defScope s_law_mixed) [] [] a.f_law_mixed a.d_law_mixed
  m_law_mixed : mg "_law_mixed" = some (.ref a.f_law_mixed)
  k_law_mixed : PySem.W.keepIn K (.ref a.f_law_mixed) = true
  b_law_mixed : Binds K a.d_law_mixed ["_law_bag_here", "_law_things"] []
  F_law_labels : FunD K "_law_labels" "_law_labels" (defArgs s_law_labels) (defBody s_law_labels) (defScope s_law_labels) [] [] a.f_law_labels a.d_law_labels
  m_law_labels : mg "_law_labels" = some (.ref a.f_law_labels)
  k_law_labels : PySem.W.keepIn K (.ref a.f_law_labels) = true
  b_law_labels : Binds K a.d_law_labels ["_law_bag_here", "_law_many"] []
  F_law_drawn_spans : FunD K "_law_drawn_spans" "_law_drawn_spans" (defArgs s_law_drawn_spans) (defBody s_law_drawn_spans) (defScope s_law_drawn_spans) [] [] a.f_law_drawn_spans a.d_law_drawn_spans
  m_law_drawn_spans : mg "_law_drawn_spans" = some (.ref a.f_law_drawn_spans)
  k_law_drawn_spans : PySem.W.keepIn K (.ref a.f_law_drawn_spans) = true
  b_law_drawn_spans : Binds K a.d_law_drawn_spans ["_law_bag_here", "_law_many"] []
  F_law_has_day : FunD K "_law_has_day" "_law_has_day" (defArgs s_law_has_day) (defBody s_law_has_day) (defScope s_law_has_day) [] [] a.f_law_has_day a.d_law_has_day
  m_law_has_day : mg "_law_has_day" = some (.ref a.f_law_has_day)
  k_law_has_day : PySem.W.keepIn K (.ref a.f_law_has_day) = true
  b_law_has_day : Binds K a.d_law_has_day ["_law_spans", "_law_day"] []
  F_law_is_day : FunD K "_law_is_day" "_law_is_day" (defArgs s_law_is_day) (defBody s_law_is_day) (defScope s_law_is_day) [] [] a.f_law_is_day a.d_law_is_day
  m_law_is_day : mg "_law_is_day" = some (.ref a.f_law_is_day)
  k_law_is_day : PySem.W.keepIn K (.ref a.f_law_is_day) = true
  b_law_is_day : Binds K a.d_law_is_day ["_law_thing"] []
  F_law_is_word : FunD K "_law_is_word" "_law_is_word" (defArgs s_law_is_word) (defBody s_law_is_word) (defScope s_law_is_word) [] [] a.f_law_is_word a.d_law_is_word
  m_law_is_word : mg "_law_is_word" = some (.ref a.f_law_is_word)
  k_law_is_word : PySem.W.keepIn K (.ref a.f_law_is_word) = true
  b_law_is_word : Binds K a.d_law_is_word ["_law_thing"] []
  F_law_is_span : FunD K "_law_is_span" "_law_is_span" (defArgs s_law_is_span) (defBody s_law_is_span) (defScope s_law_is_span) [] [] a.f_law_is_span a.d_law_is_span
  m_law_is_span : mg "_law_is_span" = some (.ref a.f_law_is_span)
  k_law_is_span : PySem.W.keepIn K (.ref a.f_law_is_span) = true
  b_law_is_span : Binds K a.d_law_is_span ["_law_thing"] []
  F_law_is_row : FunD K "_law_is_row" "_law_is_row" (defArgs s_law_is_row) (defBody s_law_is_row) (defScope s_law_is_row) [] [] a.f_law_is_row a.d_law_is_row
  m_law_is_row : mg "_law_is_row" = some (.ref a.f_law_is_row)
  k_law_is_row : PySem.W.keepIn K (.ref a.f_law_is_row) = true
  b_law_is_row : Binds K a.d_law_is_row ["_law_thing"] []
  F_law_wrong : FunD K "_law_wrong" "_law_wrong" (defArgs s_law_wrong) (defBody s_law_wrong) (defScope s_law_wrong) [] [] a.f_law_wrong a.d_law_wrong
  m_law_wrong : mg "_law_wrong" = some (.ref a.f_law_wrong)
  k_law_wrong : PySem.W.keepIn K (.ref a.f_law_wrong) = true
  b_law_wrong : Binds K a.d_law_wrong ["_law_way", "_law_things"] []
  F_law_odd : FunD K "_law_odd" "_law_odd" (defArgs s_law_odd) (defBody s_law_odd) (defScope s_law_odd) [] [] a.f_law_odd a.d_law_odd
  m_law_odd : mg "_law_odd" = some (.ref a.f_law_odd)
  k_law_odd : PySem.W.keepIn K (.ref a.f_law_odd) = true
  b_law_odd : Binds K a.d_law_odd ["_law_bag_here"] []
  F_law_odd_span : FunD K "_law_odd_span" "_law_odd_span" (defArgs s_law_odd_span) (defBody s_law_odd_span) (defScope s_law_odd_span) [] [] a.f_law_odd_span a.d_law_odd_span
  m_law_odd_span : mg "_law_odd_span" = some (.ref a.f_law_odd_span)
  k_law_odd_span : PySem.W.keepIn K (.ref a.f_law_odd_span) = true
  b_law_odd_span : Binds K a.d_law_odd_span ["_law_bag_here", "_law_span"] []
  F_law_odd_row : FunD K "_law_odd_row" "_law_odd_row" (defArgs s_law_odd_row) (defBody s_law_odd_row) (defScope s_law_odd_row) [] [] a.f_law_odd_row a.d_law_odd_row
  m_law_odd_row : mg "_law_odd_row" = some (.ref a.f_law_odd_row)
  k_law_odd_row : PySem.W.keepIn K (.ref a.f_law_odd_row) = true
  b_law_odd_row : Binds K a.d_law_odd_row ["_law_bag_here", "_law_row"] []
structure Tx2 (w : World) (K : PySem.W.Frag) (mg : Str → Option Value) (a : Ad) : Prop where
  F_law_spoilt : FunD K "_law_spoilt" "_law_spoilt" (defArgs s_law_spoilt) (defBody s_law_spoilt) (defScope s_law_spoilt) [] [] a.f_law_spoilt a.d_law_spoilt
  m_law_spoilt : mg "_law_spoilt" = some (.ref a.f_law_spoilt)
  k_law_spoilt : PySem.W.keepIn K (.ref a.f_law_spoilt) = true
  b_law_spoilt : Binds K a.d_law_spoilt ["_law_bag_here", "_law_way", "_law_rows"] []
  F_law_tried : FunD K "_law_tried" "_law_tried" (defArgs s_law_tried) (defBody s_law_tried) (defScope s_law_tried) [] [] a.f_law_tried a.d_law_tried
  m_law_tried : mg "_law_tried" = some (.ref a.f_law_tried)
  k_law_tried : PySem.W.keepIn K (.ref a.f_law_tried) = true
  b_law_tried : Binds K a.d_law_tried ["_law_way", "_law_things"] []
  F_law_as_told : FunD K "_law_as_told" "_law_as_told" (defArgs s_law_as_told) (defBody s_law_as_told) (defScope s_law_as_told) [] [] a.f_law_as_told a.d_law_as_told
  m_law_as_told : mg "_law_as_told" = some (.ref a.f_law_as_told)
  k_law_as_told : PySem.W.keepIn K (.ref a.f_law_as_told) = true
  b_law_as_told : Binds K a.d_law_as_told ["_law_bag_here", "_law_way", "_law_things", "_law_found"] []
  F_law : FunD K "law" "law" (defArgs s_law) (defBody s_law) (defScope s_law) [] [] a.f_law a.d_law
  m_law : mg "law" = some (.ref a.f_law)
  k_law : PySem.W.keepIn K (.ref a.f_law) = true
  b_law : Binds K a.d_law ["_law_script"] []
  zt_Carry_init_0 : ∀ H : Hp, SqT K H a.z_Carry_init_0 []
  zt_Days_init_0 : ∀ H : Hp, SqT K H a.z_Days_init_0 []
  kc : KC K a.c.all
  w_ : a.c.w = w
  i_Carry : a.c.Carry ∈ a.c.all
  c_Carry : ClsF K a.c.Carry
  i_Days : a.c.Days ∈ a.c.all
  c_Days : ClsF K a.c.Days
  mc_Carry : mg "Carry" = some (.ref a.c.Carry)
  mc_Days : mg "Days" = some (.ref a.c.Days)
  mc_TooMany : mg "TooMany" = some (.ref a.c.TooMany)
  mc_Unfit : mg "Unfit" = some (.ref a.c.Unfit)
  mc_VouchError : mg "VouchError" = some (.ref a.c.VouchError)
  mc_Wrong : mg "Wrong" = some (.ref a.c.Wrong)
  na_Carry_kept_rest : NoAttr K a.c.Carry "kept_rest"
  na_Carry_kept_rules : NoAttr K a.c.Carry "kept_rules"
  na_Days_kept_spans : NoAttr K a.c.Days "kept_spans"
  me_Carry_carried : Meth K a.c.Carry "carried" a.f_Carry_carried
  me_Days_contains : Meth K a.c.Days "__contains__" a.f_Days_contains
  pp_Carry_rest : PropOf K a.c.Carry "rest" a.p_Carry_rest a.f_Carry_rest
  mk_Carry : Mk K a.c.Carry a.f_Carry_init
  mk_Days : Mk K a.c.Days a.f_Days_init
  g_LETTERS : mg "LETTERS" = some (.str "abcdefghijklmnopqrstuvwxyz" a.t_LETTERS)
  g_MOST_LETTERS : mg "MOST_LETTERS" = some (.int 8 a.t_MOST_LETTERS)
  g_LAST_DAY : mg "LAST_DAY" = some (.int 1000000000 a.t_LAST_DAY)
  n_abs : mg "abs" = none
  n_all : mg "all" = none
  n_any : mg "any" = none
  n_bool : mg "bool" = none
  n_dict : mg "dict" = none
  n_enumerate : mg "enumerate" = none
  n_int : mg "int" = none
  n_isinstance : mg "isinstance" = none
  n_len : mg "len" = none
structure Tx3 (w : World) (K : PySem.W.Frag) (mg : Str → Option Value) (a : Ad) : Prop where
  n_list : mg "list" = none
  n_max : mg "max" = none
  n_min : mg "min" = none
  n_range : mg "range" = none
  n_repr : mg "repr" = none
  n_set : mg "set" = none
  n_sorted : mg "sorted" = none
  n_str : mg "str" = none
  n_tuple : mg "tuple" = none
  sys : VB.sysOk K = true
  er_Wrong : VB.ErF K a.c.Wrong a.f_Wrong_init "place"
  ve_VouchError : VB.VeF K a.c.VouchError
  ki_Wrong_VouchError : PySem.W.kitOne K (.ref a.c.Wrong) (.ref a.c.VouchError) = some true
  ka_Wrong_TooMany_Unfit : PySem.W.kitAny K (.ref a.c.Wrong) [.ref a.c.TooMany, .ref a.c.Unfit] = some false
structure Tx (w : World) (K : PySem.W.Frag) (mg : Str → Option Value) (a : Ad) : Prop extends Tx0 w K mg a, Tx1 w K mg a, Tx2 w K mg a, Tx3 w K mg a
variable {P : Program} {w : World} {K : PySem.W.Frag} {mg : Str → Option Value} {base : Heap} {a : Ad}
theorem ok_Wrong_init (T : Tx w K mg a) : FnOk P w K mg base CX0 1 a.f_Wrong_init a.d_Wrong_init ["self", "place"] (VB.spEr1 K a.c.Wrong "place") := by
  refine T.F_Wrong_init.ok (k := 0) sc_Wrong_init (fun vs H Q E h => VB.spEr1_len h) (fun cdv A outer s H vs Q E hr h => ?_)
  exact ⟨_, PSs.nox (pss_cons (ps_expr (VB.pe_veinitC (by rfl) T.mc_VouchError T.ve_VouchError.r T.ve_VouchError.s T.ve_VouchError.e (pa_cons (pv 0) pa_nil))) (pss_one (ps_ost (pv 0) (pv 1)))), VB.er1_body h rfl⟩
theorem bag_rd {K : PySem.W.Frag} {σ : L2.St} {H : Hp} {Q : VK} {b c : Addr} {z s i k : Int} {v : V} (h0 : σ[0]? = some (some (.ref b))) (hb : H b = some (bagO z s i c)) (e : atI [V.int z, .int s, .int i, .ref c] k = some v) (q : Q v H) : tOp (rIxL K) (tVar 0) (tC (.int k)) σ H Q :=
  ⟨_, h0, b, _, k, v, rfl, rfl, SqL.of hb, e, q⟩
theorem ok_law_take (T : Tx w K mg a) : FnOk P w K mg base CX0 1 a.f_law_take a.d_law_take ["_law_bag_here", "_law_many"] (spTake K) := by
  refine T.F_law_take.ok (k := 0) sc_law_take (fun vs H Q E h => ?_) (fun cdv A outer s H vs Q E hr h => ?_)
  · exact spA_len h fun _ => rfl
  · obtain ⟨B, W, ⟨b, n⟩, en, ⟨n0, n1⟩, q⟩ := h
    have n0 : 0 < n := n0
    have n1 : n < 2 ^ 200 := n1
    have hv : vs = [.ref b, .int n] := by
      have hl := en.len
      match vs, en, hl with
      | [x, y], en, _ =>
        obtain ⟨e0, _⟩ := en.sl 0 _ rfl
        obtain ⟨v1, e1, s1⟩ := en.sl 1 _ rfl
        cases s1
        cases e0
        cases e1
        rfl
    subst hv
    obtain ⟨_, bW, c, ns, cB, hC⟩ := en.sl 0 _ rfl
    have cW : c ∉ W := fun m => cB (en.bw.sub _ m)
    refine ⟨_, PSs.nox (Evl.pss_cut (ps_if (pt_cmpR op_eq (pe_ix (VB.kIxL (K := K) rfl) (pv 0) pe_int (fun _ _ => rfl)) pe_int (nomark _)) (pss_cons (ps_set (i := 2) sc_law_take.nd rfl (Or.inl rfl) pe_int)
    (Evl.pss_cut (ps_if (pt_cmpR op_lt (pe_ix (VB.kIxL (K := K) rfl) (pv 0) pe_int (fun _ _ => rfl)) (pe_callB (VB.kLen (K := K) rfl) (by rfl) T.n_len (by decide +kernel) (pa_cons (pe_ix (VB.kIxL (K := K) rfl) (pv 0) pe_int (fun _ _ => rfl)) pa_nil)) (nomark _)) (pss_one (ps_set (i := 2) sc_law_take.nd rfl (Or.inl rfl) (pe_ix (VB.kIxL (K := K) rfl) (pe_ix (VB.kIxL (K := K) rfl) (pv 0) pe_int (fun _ _ => rfl)) (pe_ix (VB.kIxL (K := K) rfl) (pv 0) pe_int (fun _ _ => rfl)) (fun _ _ => rfl)))) pss_nil)
    (pss_cons (ps_augS (pv 0) pe_int VB.get_list pe_int ip_add set_list)
    (Evl.pss_cut (ps_if (pt_cmpR op_ge (pv 2) pe_int (nomark _)) (pss_one (ps_asg (pv 2) (pg_sub (pv 0) pe_int set_list))) pss_nil)
    (pss_cons (ps_set (i := 3) sc_law_take.nd rfl (Or.inl rfl) (pe_op op_add (pe_op op_mod (pe_callTy call_int1 (by rfl) T.n_int (by decide +kernel) (pa_cons (pv 2) pa_nil)) pe_int) (pe_op op_mul pe_int (pe_ix (VB.kIxL (K := K) rfl) (pv 0) pe_int (fun _ _ => rfl)))))
    (pss_one (ps_asg (pe_op op_mod (pe_callTy call_int1 (by rfl) T.n_int (by decide +kernel) (pa_cons (pe_op op_add (pe_op op_mul (pe_ix (VB.kIxL (K := K) rfl) (pv 0) pe_int (fun _ _ => rfl)) pe_int) (pv 3)) pa_nil)) pe_int) (pg_sub (pv 0) pe_int set_list)))))))) pss_nil)
    (pss_cons (ps_if (pt_cmpR op_gt (pe_ix (VB.kIxL (K := K) rfl) (pv 0) pe_int (fun _ _ => rfl)) pe_int (nomark _)) (pss_cons (ps_set (i := 4) sc_law_take.nd rfl (Or.inl rfl) (pe_op op_mod (pe_callTy call_int1 (by rfl) T.n_int (by decide +kernel) (pa_cons (pe_ix (VB.kIxL (K := K) rfl) (pv 0) pe_int (fun _ _ => rfl)) pa_nil)) (pv 1)))
    (pss_cons (ps_asg (pe_op op_fdivW (pe_ix (VB.kIxL (K := K) rfl) (pv 0) pe_int (fun _ _ => rfl)) (pv 1)) (pg_sub (pv 0) pe_int set_list))
    (pss_one (ps_ret (pv 4))))) pss_nil)
    (pss_cons (ps_set (i := 5) sc_law_take.nd rfl (Or.inl rfl) (pe_op op_mod (pe_callTy call_int1 (by rfl) T.n_int (by decide +kernel) (pa_cons (pe_op op_mul (pe_op op_add (pe_ix (VB.kIxL (K := K) rfl) (pv 0) pe_int (fun _ _ => rfl)) pe_int) pe_int) pa_nil)) pe_int))
    (pss_cons (ps_set (i := 6) sc_law_take.nd rfl (Or.inl rfl) (pe_op op_mod (pe_callTy call_int1 (by rfl) T.n_int (by decide +kernel) (pa_cons (pe_op op_mul (pe_op op_mod (pe_callTy call_int1 (by rfl) T.n_int (by decide +kernel) (pa_cons (pe_op op_mul (pv 5) (pv 5)) pa_nil)) pe_int) pe_int) pa_nil)) pe_int))
    (pss_cons (ps_if (pt_cmpR op_gt (pv 1) pe_int (nomark _)) (pss_one (ps_ret (pe_op op_mod (pe_callTy call_int1 (by rfl) T.n_int (by decide +kernel) (pa_cons (pe_op op_add (pe_op op_mul (pv 6) pe_int) (pv 5)) pa_nil)) (pv 1)))) pss_nil)
    (pss_one (ps_ret (pe_op op_mod (pe_callTy call_int1 (by rfl) T.n_int (by decide +kernel) (pa_cons (pe_op op_fdivW (pv 6) pe_int) pa_nil)) (pv 1))))))))), ?_⟩
    have fin : ∀ H' r, Gs W H H' → 0 ≤ r → r < n → Q (.int r) H' := fun H' r g h0 h1 => q _ _ H' g (.int r) ⟨r, rfl, h0, h1⟩
    have n9 : CDivW 0 n := wide_div (b := 200) n0 (by omega) (by decide) (by decide)
    -- the first if, whose two ways meet
    refine ⟨fun σ' H' => ∃ c2 c3, σ' = [some (.ref b), some (.int n), c2, c3, none, none, none] ∧ Gs W H H', ?_, ?_⟩
    · obtain ⟨⟨z, s1, i, hb, v1, v2, v3, v4⟩, hc, hn⟩ := hC
      refine bag_rd (v := .int z) rfl hb rfl ⟨rfl, _, rfl, ite2 (fun _ => ?_) (fun _ => ⟨none, none, rfl, Gs.refl⟩)⟩
      refine ⟨fun σ' H' => ∃ k : Int, σ' = [some (.ref b), some (.int n), some (.int k), none, none, none, none] ∧ 0 ≤ k ∧ H' = H, ?_, ?_⟩
      · refine bag_rd (v := .int i) rfl hb rfl (bag_rd (v := .ref c) rfl hb rfl ⟨_, _, rfl, Or.inl ⟨_, SqL.of hc, rfl⟩, _, _, rfl, rfl, _, rfl, ite2 (fun lt => ?_) (fun _ => ⟨0, rfl, Int.le_refl _, rfl⟩)⟩)
        have lt2 : i.toNat < ns.length := by
          have := of_decide_eq_true lt
          rw [List.length_map] at this
          omega
        refine bag_rd (v := .ref c) rfl hb rfl (bag_rd (v := .int i) rfl hb rfl ⟨c, _, i, .int (ns[i.toNat]), rfl, rfl, SqL.of hc, ?_, ?_⟩)
        · have e : i = ((i.toNat : Nat) : Int) := by omega
          have z : (ns.map V.int)[i.toNat]? = some (.int ns[i.toNat]) := by
            rw [List.getElem?_map, List.getElem?_eq_getElem lt2]
            rfl
          have z2 := atI_nat z
          rw [← e] at z2
          exact z2
        · exact ⟨_, rfl, hn _ (List.getElem_mem lt2), rfl⟩
      · rintro σ1 H1 ⟨k, rfl, k0, rfl⟩
        -- the place goes on
        refine ⟨_, rfl, b, _, 2, .int i, rfl, rfl, by decide, by decide, hb, rfl, _, _, rfl, rfl, b, _, 2, 2, rfl, rfl, hb, rfl, ?_⟩
        have g1 : Gs W H1 (upd H1 b (bagO z s1 (i + 1) c)) := Gs.bagW bW hb ⟨v1, v2, v3, by omega⟩
        have hb1 : (upd H1 b (bagO z s1 (i + 1) c)) b = some (bagO z s1 (i + 1) c) := upd_same
        show Evl.tCut _ _ _ _ (upd H1 b (bagO z s1 (i + 1) c))
        generalize upd H1 b (bagO z s1 (i + 1) c) = H2 at g1 hb1 ⊢
        refine ⟨fun σ' H' => ∃ z2 : Int, σ' = [some (.ref b), some (.int n), some (.int k), none, none, none, none] ∧ 0 ≤ z2 ∧ Gs W H1 H' ∧ H' b = some (bagO z2 s1 (i + 1) c), ?_, ?_⟩
        · refine ⟨_, rfl, _, _, rfl, rfl, _, rfl, ite2 (fun _ => ?_) (fun _ => ⟨z, rfl, v1, g1, hb1⟩)⟩
          refine ⟨_, rfl, _, rfl, b, _, 0, 0, rfl, rfl, hb1, rfl, k, rfl, k0, ?_, upd_same⟩
          exact g1.trans (Gs.bagW bW hb1 ⟨k0, v2, v3, by omega⟩)
        · rintro σ3 H3 ⟨z2, rfl, z0, g3, hb3⟩
          -- more
          refine ⟨_, rfl, Or.inl ⟨_, rfl, _, _, rfl, rfl, pos_ (by decide), bag_rd (v := .int (i + 1)) rfl hb3 rfl ⟨_, _, rfl, rfl, (by constructor <;> decide), _, _, rfl, rfl, ?_⟩⟩⟩
          refine bag_rd (v := .int s1) rfl hb3 rfl ⟨_, _, rfl, rfl, (by constructor <;> omega), _, rfl, _, _, rfl, rfl, Or.inl ⟨_, rfl, _, _, rfl, rfl, pos_ (by decide), _, rfl, b, _, 1, 1, rfl, rfl, hb3, rfl, _, _, rfl, ?_⟩⟩
          refine g3.trans (Gs.bagW bW hb3 ⟨z0, Int.emod_nonneg _ (by decide), Int.emod_lt_of_pos _ (by decide), by omega⟩)
    · rintro σ1 H1 ⟨c2, c3, rfl, g⟩
      obtain ⟨⟨z, s1, i, hb, v1, v2, v3, v4⟩, hc, hn⟩ := g.bag b bW c ns cW hC
      refine bag_rd (v := .int z) rfl hb rfl ⟨_, _, rfl, rfl, _, rfl, ite2 (fun zp => ?_) (fun _ => ?_)⟩
      · -- the cell is drawn from
        refine bag_rd (v := .int z) rfl hb rfl (Or.inl ⟨_, rfl, _, rfl, _, _, rfl, rfl, n0, ?_⟩)
        refine bag_rd (v := .int z) rfl hb rfl ⟨_, rfl, _, _, rfl, rfl, n9, _, rfl, b, _, 0, 0, rfl, rfl, hb, rfl, _, rfl, ?_⟩
        refine fin _ _ (g.trans (Gs.bagW (z' := z / n) bW hb ⟨Int.ediv_nonneg v1 (Int.le_of_lt n0), v2, v3, v4⟩)) (Int.emod_nonneg _ (by omega)) (Int.emod_lt_of_pos _ n0)
      · -- a number of its own
        refine bag_rd (v := .int s1) rfl hb rfl ⟨_, _, rfl, rfl, _, _, rfl, rfl, (by constructor <;> omega), Or.inl ⟨_, rfl, _, _, rfl, rfl, pos_ (by decide), ?_⟩⟩
        have p1 : 0 ≤ ((s1 + 1) * 39373) % 1000000007 := Int.emod_nonneg _ (by decide)
        have p2 : ((s1 + 1) * 39373) % 1000000007 < 1000000007 := Int.emod_lt_of_pos _ (by decide)
        generalize ((s1 + 1) * 39373) % 1000000007 = m at p1 p2 ⊢
        refine ⟨_, rfl, _, rfl, _, _, rfl, rfl, (by constructor <;> omega), Or.inl ⟨_, rfl, _, _, rfl, rfl, pos_ (by decide), _, _, rfl, rfl, ?_, Or.inl ⟨_, rfl, _, _, rfl, rfl, pos_ (by decide), ?_⟩⟩⟩
        · have q1 : 0 ≤ m * m % 998244353 := Int.emod_nonneg _ (by decide)
          have q2 : m * m % 998244353 < 998244353 := Int.emod_lt_of_pos _ (by decide)
          constructor <;> omega
        have p3 : 0 ≤ (m * m % 998244353 * 30011) % 998244353 := Int.emod_nonneg _ (by decide)
        have p4 : (m * m % 998244353 * 30011) % 998244353 < 998244353 := Int.emod_lt_of_pos _ (by decide)
        generalize (m * m % 998244353 * 30011) % 998244353 = m2 at p3 p4 ⊢
        refine ⟨_, rfl, _, _, rfl, rfl, _, rfl, ite2 (fun _ => ?_) (fun _ => ?_)⟩
        · exact ⟨_, rfl, _, _, rfl, rfl, (by constructor <;> omega), _, rfl, _, _, rfl, rfl, Or.inl ⟨_, rfl, _, rfl, _, _, rfl, rfl, n0, fin _ _ g (Int.emod_nonneg _ (by omega)) (Int.emod_lt_of_pos _ n0)⟩⟩
        · exact ⟨_, rfl, _, _, rfl, rfl, wide_div (b := 200) (by decide) (by decide) (by decide) (by decide), Or.inl ⟨_, rfl, _, rfl, _, _, rfl, rfl, n0, fin _ _ g (Int.emod_nonneg _ (by omega)) (Int.emod_lt_of_pos _ n0)⟩⟩
theorem ok_law_bag (T : Tx w K mg a) : FnOk P w K mg base CX0 1 a.f_law_bag a.d_law_bag ["_law_script"] (spBag K) := by
  refine T.F_law_bag.ok (k := 0) sc_law_bag (fun vs H Q E h => ?_) (fun cdv A outer s H vs Q E hr h => ?_)
  · obtain ⟨x, ns, rfl, _⟩ := h
    rfl
  · obtain ⟨x, ns, rfl, hS, hl, q⟩ := h
    refine ⟨_, PSs.nox (pss_one (ps_ret (pe_lst (pa_cons pe_int (pa_cons pe_int (pa_cons pe_int (pa_cons (pe_lc (own := [("_law_cell", 1)]) (g := gName 1) (tt := tYes) rfl sc_law_bag.nd (VB.kPiL (K := K) rfl (pe_slice (VB.kSlL (K := K) rfl) (pv 0) po_none (po_some pe_int))) (blkOk_by (N := ["_law_script", "_law_cell"]) (sc := defScope s_law_bag) (by decide +kernel)) (fun _ _ _ _ _ => pg_name (i := 1) sc_law_bag.nd rfl (Or.inl rfl)) (fun _ _ _ _ _ => pts_nil) (fun _ _ _ _ _ => (pe_callB call_abs (by rfl) T.n_abs (by decide +kernel) (pa_cons (pv 1) pa_nil)))) pa_nil))))))), ?_⟩
    refine ⟨_, rfl, 63, rfl, x, _, rfl, hS, fun p np => ?_⟩
    have ecut : cutV (ns.map V.int) none (some 63) = (cutG ns none (some 63)).map V.int := cutG_map V.int ns none (some 63)
    have hp : (upd H p (.lst (cutV (ns.map V.int) none (some 63)))) p = some (.lst ((cutG ns none (some 63)).map V.int)) := by rw [upd_same, ecut]
    generalize upd H p (.lst (cutV (ns.map V.int) none (some 63))) = H1 at hp ⊢
    have ml : (cutG ns none (some 63)).length ≤ 63 := Nat.le_trans (cutG_len ns none (some 63)) hl
    generalize cutG ns none (some 63) = ms at hp ml
    refine ⟨p, rfl, ⟨_, SqL.of hp⟩, fun D nD => ?_⟩
    have pD : p ≠ D := ne_of_none hp nD
    refine lc_list (K := K) (a := p) (xs := ms.map V.int) (fun i H2 => ∃ ks : List Int, H2 D = some (.lst (ks.map V.int)) ∧ ks.length = i ∧ (∀ k ∈ ks, 0 ≤ k) ∧ H2 p = some (.lst (ms.map V.int)))
      ⟨[], upd_same, rfl, (fun _ m => nomatch m), by rw [upd_ne pD]; exact hp⟩ (fun i H2 _ ⟨_, _, _, _, h4⟩ => SqL.of h4) ?_ ?_
    · rintro i y H2 hy ⟨ks, h1, h2, h3, h4⟩
      obtain ⟨m, rfl⟩ : ∃ m, y = V.int m := by
        rw [List.getElem?_map] at hy
        cases e : ms[i]? with
        | none =>
          rw [e] at hy
          cases hy
        | some m =>
          rw [e] at hy
          exact ⟨m, (Option.some.inj hy).symm⟩
      have hi : i < 63 := by
        have := (List.getElem?_eq_some_iff.mp hy).1
        rw [List.length_map] at this
        omega
      refine ⟨rfl, ?_⟩
      unfold tYes
      simp only [if_true]
      refine ⟨_, rfl, m, rfl, _, h1, ?_, ks ++ [if m < 0 then -m else m], ?_, ?_, ?_, ?_⟩
      · rw [List.length_map]
        have : sizeLine = 16777216 := by decide
        omega
      · rw [upd_same, List.map_append]
        rfl
      · rw [List.length_append, h2]
        rfl
      · intro k mk
        rcases List.mem_append.mp mk with z | z
        · exact h3 k z
        · rw [List.mem_singleton.mp z]
          split <;> omega
      · rw [upd_ne pD]
        exact h4
    · rintro H2 ⟨ks, h1, h2, h3, h4⟩
      refine ⟨by show 4 ≤ sizeLine; decide, fun b nb => ?_⟩
      have bD : D ≠ b := ne_of_none h1 nb
      refine q _ b D ks ⟨⟨0, 1234567891, 0, upd_same, by decide, by decide, by decide, by decide⟩, ?_, h3⟩ bD.symm
      rw [upd_ne bD]
      exact h1
end K28
namespace K28
open PySem PySem.Spec PyProof.Rows L2 VB
variable {P : Program} {w : World} {K : PySem.W.Frag} {mg : Str → Option Value} {base : Heap} {a : Ad}
noncomputable def m_is_integer (thing8 : D) : M D := (M.andB (((M.ret thing8)).bind fun a9 => ((M.ret (D.ty "int"))).bind fun a10 => (M.two D.isi) [a9, a10]) (((((M.ret thing8)).bind fun a11 => ((M.ret (D.ty "bool"))).bind fun a12 => (M.two D.isi) [a11, a12])).bind fun a13 => a13.asB.bind fun k14 => .ret (.bl (!k14))))
noncomputable def l_is_integer : List D → M D
  | [thing8] => m_is_integer thing8
  | _ => .fail
noncomputable def m_is_word (thing26 : D) : M D := ((M.or2 (M.not1 (((((M.ret thing26)).bind fun a27 => ((M.ret (D.ty "str"))).bind fun a28 => (M.two D.isi) [a27, a28])).bind D.asB)) (M.not1 (((M.chain D.le D.le (M.ret (D.int 1)) (((M.ret thing26)).bind fun a29 => (M.one D.len) [a29]) (M.ret (D.int 8)))).bind D.asB)))).bind fun k30 => if k30 = true then (M.ret (D.bl false)) else (((((((M.ret thing26)).bind D.items)).bind fun ds35 => (M.map (fun letter32 => (((M.ret letter32)).bind fun a33 => ((M.ret (D.str "abcdefghijklmnopqrstuvwxyz"))).bind fun b34 => D.inM a33 b34)) ds35).bind fun es36 => .ret (.lst es36))).bind fun a37 => (M.one D.all) [a37])
noncomputable def l_is_word : List D → M D
  | [thing26] => m_is_word thing26
  | _ => .fail
noncomputable def m_is_day (thing50 : D) : M D := (M.andB (((M.ret thing50)).bind fun a51 => m_is_integer a51) (M.chain D.le D.le (M.ret (D.int 0)) (M.ret thing50) (M.ret (D.int 1000000000))))
noncomputable def l_is_day : List D → M D
  | [thing50] => m_is_day thing50
  | _ => .fail
noncomputable def m_is_carry_row (c : Cl) (thing63 : D) : M D := ((M.or2 (M.not1 (((((M.ret thing63)).bind fun a64 => ((M.ret (D.ty "tuple"))).bind fun a65 => (M.two D.isi) [a64, a65])).bind D.asB)) (M.or2 (((((((M.ret thing63)).bind fun a66 => (M.one D.len) [a66])).bind fun a67 => ((M.ret (D.int 2))).bind fun b68 => D.ne a67 b68)).bind D.asB) (M.not1 (((((((M.ret thing63)).bind fun a69 => ((M.ret (D.int 0))).bind fun b70 => D.ix a69 b70)).bind fun a71 => m_is_word a71)).bind D.asB))))).bind fun k72 => if k72 = true then (M.ret (D.bl false)) else (M.andB (((((M.ret thing63)).bind fun a73 => ((M.ret (D.int 1))).bind fun b74 => D.ix a73 b74)).bind (D.isiT c.all [(D.ty "list"), (D.ty "tuple")])) (((((((((M.ret thing63)).bind fun a75 => ((M.ret (D.int 1))).bind fun b76 => D.ix a75 b76)).bind D.items)).bind fun ds80 => (M.map (fun rule78 => (((M.ret rule78)).bind fun a79 => m_is_word a79)) ds80).bind fun es81 => .ret (.lst es81))).bind fun a82 => (M.one D.all) [a82]))
noncomputable def l_is_carry_row (c : Cl) : List D → M D
  | [thing63] => m_is_carry_row c thing63
  | _ => .fail
noncomputable def m_are_carry_rows (c : Cl) (thing109 : D) : M D := ((M.or2 (M.not1 (((((M.ret thing109)).bind (D.isiT c.all [(D.ty "list"), (D.ty "tuple")]))).bind D.asB)) (M.not1 (((((((((M.ret thing109)).bind D.items)).bind fun ds113 => (M.map (fun row111 => (((M.ret row111)).bind fun a112 => m_is_carry_row c a112)) ds113).bind fun es114 => .ret (.lst es114))).bind fun a115 => (M.one D.all) [a115])).bind D.asB)))).bind fun k116 => if k116 = true then (M.ret (D.bl false)) else (((((((((M.ret thing109)).bind D.items)).bind fun ds121 => (M.map (fun y120 => D.un2 y120 fun rule118 rules119 => (M.ret rule118)) ds121).bind fun es122 => .ret (.lst es122))).bind D.lenSet)).bind fun a124 => ((((M.ret thing109)).bind fun a123 => (M.one D.lenA) [a123])).bind fun b125 => D.eq a124 b125)
noncomputable def l_are_carry_rows (c : Cl) : List D → M D
  | [thing109] => m_are_carry_rows c thing109
  | _ => .fail
noncomputable def m_unlisted (rest150 rule151 : D) : M D := (((((M.ret rest150)).bind D.truth)).bind fun k152 => if k152 = true then (((M.ret rule151)).bind fun a155 => D.tupM [a155]) else (D.tupM []))
noncomputable def l_unlisted : List D → M D
  | [rest150, rule151] => m_unlisted rest150 rule151
  | _ => .fail
noncomputable def mx_Carry_init (c : Cl) (rest178 rows179 : D) : M Xr := ((M.not1 (((((M.ret rest178)).bind fun a209 => ((M.ret (D.ty "bool"))).bind fun a210 => (M.two D.isi) [a209, a210])).bind D.asB))).bind fun k238 => if k238 = true then ((M.ret (D.int 0))).bind (fun e239 => M.ret (Xr.ex c.Wrong "place" e239)) else ((M.not1 (((((M.ret rows179)).bind fun a211 => m_are_carry_rows c a211)).bind D.asB))).bind fun k236 => if k236 = true then ((M.ret (D.int 1))).bind (fun e237 => M.ret (Xr.ex c.Wrong "place" e237)) else (M.ok (((((((M.ret rows179)).bind D.items)).bind fun ds220 => M.dc (fun y216 => D.un2 y216 fun rule214 rules215 => ((M.ret rule214)).bind fun k218 => ((((((M.ret rules215)).bind D.sortedSet)).bind fun a217 => (M.one D.toTup) [a217])).bind fun v219 => .ret (some (k218, v219))) ds220 (D0 false))).bind fun listed212 => ((M.ret rest178)).bind fun v221 => D.setF c.Carry "kept_rest" (D.ins c.Carry [] []) v221 fun self222 => ((((D.rowsM listed212)).bind fun ds233 => M.dc (fun y225 => D.un2 y225 fun rule223 rules224 => ((((((M.ret rules224)).bind fun a230 => ((((M.ret rest178)).bind fun a228 => ((M.ret rule223)).bind fun a229 => m_unlisted a228 a229)).bind fun b231 => D.ne a230 b231)).bind D.asB)).bind fun k232 => if k232 = true then ((M.ret rule223)).bind fun k226 => ((M.ret rules224)).bind fun v227 => .ret (some (k226, v227)) else .ret none) ds233 (D0 false))).bind fun v234 => D.setF c.Carry "kept_rules" self222 v234 fun self235 => (M.ret self235)))
noncomputable def lx_Carry_init (c : Cl) : List D → M Xr
  | [rest178, rows179] => mx_Carry_init c rest178 rows179
  | _ => .fail
noncomputable def m_Carry_rest (c : Cl) (self262 : D) : M D := (((M.ret self262)).bind (D.getF c.Carry "kept_rest"))
noncomputable def l_Carry_rest (c : Cl) : List D → M D
  | [self262] => m_Carry_rest c self262
  | _ => .fail
noncomputable def m_Carry_carried (c : Cl) (self265 rule266 : D) : M D := (((((((M.ret self265)).bind (D.getF c.Carry "kept_rules"))).bind fun a269 => ((M.ret rule266)).bind fun b270 => ((((((M.ret self265)).bind (D.getF c.Carry "kept_rest"))).bind fun a267 => ((M.ret rule266)).bind fun a268 => m_unlisted a267 a268)).bind fun c271 => D.get2 a269 b270 c271)).bind fun a272 => (M.one D.toLstA) [a272])
noncomputable def l_Carry_carried (c : Cl) : List D → M D
  | [self265, rule266] => m_Carry_carried c self265 rule266
  | _ => .fail
noncomputable def m_is_span (thing291 : D) : M D := (M.andB (((M.ret thing291)).bind fun a292 => ((M.ret (D.ty "tuple"))).bind fun a293 => (M.two D.isi) [a292, a293]) (M.andB (((((M.ret thing291)).bind fun a294 => (M.one D.len) [a294])).bind fun a295 => ((M.ret (D.int 2))).bind fun b296 => D.eq a295 b296) (M.andB (((((M.ret thing291)).bind fun a297 => ((M.ret (D.int 0))).bind fun b298 => D.ix a297 b298)).bind fun a299 => m_is_day a299) (((((M.ret thing291)).bind fun a300 => ((M.ret (D.int 1))).bind fun b301 => D.ix a300 b301)).bind fun a302 => m_is_day a302))))
noncomputable def l_is_span : List D → M D
  | [thing291] => m_is_span thing291
  | _ => .fail
noncomputable def m_fewest_spans (spans314 : D) : M D := ((D.lstM [])).bind fun found315 => ((((((M.ret spans314)).bind fun a316 => (M.one D.sortedA) [a316])).bind D.items)).bind fun ds323 => (M.fold (fun ys318 (s318 : D) => (fun y322 => D.un2 y322 fun begin320 end321 => ((((((M.ret begin320)).bind fun a325 => ((M.ret end321)).bind fun b326 => D.gt a325 b326)).bind D.asB)).bind fun k327 => if k327 = true then (M.ret s318) else ((M.and2 (((((M.ret s318)).bind fun a328 => ((D.lstM [])).bind fun b329 => D.ne a328 b329)).bind D.asB) (((((M.ret begin320)).bind fun a336 => ((((((((M.ret s318)).bind fun a330 => ((M.ret (D.int (-1)))).bind fun b331 => D.ix a330 b331)).bind fun a332 => ((M.ret (D.int 1))).bind fun b333 => D.ix a332 b333)).bind fun a334 => ((M.ret (D.int 1))).bind fun b335 => D.add a334 b335)).bind fun b337 => D.le a336 b337)).bind D.asB))).bind fun k338 => if k338 = true then ((((((((M.ret s318)).bind fun a339 => ((M.ret (D.int (-1)))).bind fun b340 => D.ix a339 b340)).bind fun a341 => ((M.ret (D.int 0))).bind fun b342 => D.ix a341 b342)).bind fun a349 => ((((((((M.ret s318)).bind fun a343 => ((M.ret (D.int (-1)))).bind fun b344 => D.ix a343 b344)).bind fun a345 => ((M.ret (D.int 1))).bind fun b346 => D.ix a345 b346)).bind fun a347 => ((M.ret end321)).bind fun a348 => (M.two D.max2) [a347, a348])).bind fun a350 => D.tupM [a349, a350])).bind fun v352 => ((M.ret (D.int (-1)))).bind fun i353 => D.itemK s318 v352 i353 fun found351 => (M.ret found351) else ((((M.ret begin320)).bind fun a359 => ((M.ret end321)).bind fun a360 => D.tupM [a359, a360])).bind fun v361 => D.appK s318 v361 fun found357 => (M.ret found357)) ys318) ds323 found315).bind fun s324 => (M.ret s324)
noncomputable def l_fewest_spans : List D → M D
  | [spans314] => m_fewest_spans spans314
  | _ => .fail
noncomputable def mx_Days_init (c : Cl) (spans391 : D) : M Xr := ((M.or2 (M.not1 (((((M.ret spans391)).bind (D.isiT c.all [(D.ty "list"), (D.ty "tuple")]))).bind D.asB)) (M.not1 (((((((((M.ret spans391)).bind D.items)).bind fun ds405 => (M.map (fun span403 => (((M.ret span403)).bind fun a404 => m_is_span a404)) ds405).bind fun es406 => .ret (.lst es406))).bind fun a407 => (M.one D.all) [a407])).bind D.asB)))).bind fun k411 => if k411 = true then ((M.ret (D.int 0))).bind (fun e412 => M.ret (Xr.ex c.Wrong "place" e412)) else (M.ok (((((M.ret spans391)).bind fun a408 => m_fewest_spans a408)).bind fun v409 => D.setF c.Days "kept_spans" (D.ins c.Days [] []) v409 fun self410 => (M.ret self410)))
noncomputable def lx_Days_init (c : Cl) : List D → M Xr
  | [spans391] => mx_Days_init c spans391
  | _ => .fail
noncomputable def m_Days_contains (c : Cl) (self420 day421 : D) : M D := (((((((((M.ret self420)).bind (D.getF c.Days "kept_spans"))).bind D.items)).bind fun ds426 => (M.map (fun y425 => D.un2 y425 fun begin423 end424 => (M.chain D.le D.le (M.ret begin423) (M.ret day421) (M.ret end424))) ds426).bind fun es427 => .ret (.lst es427))).bind fun a428 => (M.one D.any) [a428])
noncomputable def l_Days_contains (c : Cl) : List D → M D
  | [self420, day421] => m_Days_contains c self420 day421
  | _ => .fail
noncomputable def m_law_mixed (things437 : D) : M D := ((D.lstM [])).bind fun found438 => ((D.items things437)).bind fun ds443 => (M.fold (fun ys440 (s440 : D) => (fun thing442 => D.lsk s440 fun ds446 => if ds446.length < 16777216 then ((((((((M.ret s440)).bind fun a447 => (M.one D.len) [a447])).bind fun a448 => ((M.ret (D.int 1))).bind fun b449 => D.add a448 b449)).bind D.takeM)).bind fun i450 => ((M.ret thing442)).bind fun v451 => D.insK ds446 i450 v451 fun found445 => (M.ret found445) else M.fail) ys440) ds443 found438).bind fun s444 => (M.ret s444)
noncomputable def l_law_mixed : List D → M D
  | [_, things437] => m_law_mixed things437
  | _ => .fail
noncomputable def m_law_labels (many562 : D) : M D := ((M.ret (D.str "abcdefghijklmnopqrstuvwxyz"))).bind fun letters563 => ((M.ret (D.str "lists paper anchor notice trust arrive renew back all none any named open shut soft strict ok root"))).bind fun words564 => ((((((M.ret words564)).bind fun a566 => ((M.ret (D.str " a b ab zz ask days"))).bind fun b567 => D.add a566 b567)).bind fun a568 => ((M.ret (D.str " "))).bind fun b569 => D.split a568 b569)).bind fun words565 => ((((((M.ret (D.int 4))).bind D.takeM)).bind fun a570 => ((((M.ret (D.int 24))).bind D.takeM)).bind fun a571 => D.tupM [a570, a571])).bind (fun y574 => D.un2 y574 fun way572 turn573 => ((((M.ret (D.str ""))).bind fun a584 => ((((((((M.ret (D.int 1))).bind fun a576 => ((((M.ret (D.int 7))).bind D.takeM)).bind fun b577 => D.add a576 b577)).bind fun a578 => D.rng1 [a578])).bind fun ds582 => (M.map (fun k579 => (((M.ret letters563)).bind fun a580 => ((((M.ret (D.int 26))).bind D.takeM)).bind fun b581 => D.ix a580 b581)) ds582).bind fun es583 => .ret (.lst es583))).bind fun b585 => D.join a584 b585)).bind fun base575 => ((((((((((M.ret base575)).bind fun a586 => (M.one D.len) [a586])).bind fun a587 => ((M.ret (D.int 1))).bind fun b588 => D.add a587 b588)).bind D.takeM)).bind fun a591 => ((((M.ret way572)).bind fun a589 => ((M.ret (D.int 3))).bind fun b590 => D.fdiv a589 b590)).bind fun a592 => D.tupM [a591, a592])).bind (fun y595 => D.un2 y595 fun at593 far594 => ((((((M.ret way572)).bind fun a596 => ((M.ret (D.int 0))).bind fun b597 => D.eq a596 b597)).bind D.asB)).bind fun k598 => if k598 = true then (((((((M.ret words565)).bind fun a601 => ((((M.ret turn573)).bind fun a599 => a599.asI.bind fun i600 => .ret (some i600))).bind fun lo602 => ((M.ret none)).bind fun hi603 => D.sl a601 lo602 hi603)).bind fun a609 => ((((M.ret words565)).bind fun a606 => ((M.ret none)).bind fun lo607 => ((((M.ret turn573)).bind fun a604 => a604.asI.bind fun i605 => .ret (some i605))).bind fun hi608 => D.sl a606 lo607 hi608)).bind fun b610 => D.add a609 b610)).bind fun a613 => ((M.ret none)).bind fun lo614 => ((((M.ret many562)).bind fun a611 => a611.asI.bind fun i612 => .ret (some i612))).bind fun hi615 => D.sl a613 lo614 hi615) else ((((((M.ret many562)).bind fun a617 => D.rng1 [a617])).bind fun ds643 => (M.map (fun k618 => (((((M.ret letters563)).bind fun a632 => ((((((((M.ret turn573)).bind fun a627 => ((((((((M.ret (D.int 3))).bind fun a619 => ((M.ret k618)).bind fun b620 => D.mul a619 b620)).bind fun a623 => ((((M.ret k618)).bind fun a621 => ((M.ret (D.int 8))).bind fun b622 => D.fdiv a621 b622)).bind fun a624 => D.lstM [a623, a624])).bind fun a625 => ((M.ret far594)).bind fun b626 => D.ix a625 b626)).bind fun b628 => D.add a627 b628)).bind fun a629 => (M.one D.toInt) [a629])).bind fun a630 => ((M.ret (D.int 26))).bind fun b631 => D.mod a630 b631)).bind fun b633 => D.ix a632 b633)).bind fun a641 => ((((M.ret (D.int 1))).bind fun a639 => ((((((((M.ret k618)).bind fun a634 => (M.one D.toInt) [a634])).bind fun a635 => ((M.ret (D.int 8))).bind fun b636 => D.mod a635 b636)).bind fun a637 => ((M.ret far594)).bind fun b638 => D.mul a637 b638)).bind fun b640 => D.add a639 b640)).bind fun b642 => D.mul a641 b642)) ds643).bind fun es644 => .ret (.lst es644))).bind fun some616 => ((((M.ret base575)).bind fun a649 => ((((((M.ret way572)).bind fun a646 => ((M.ret (D.int 2))).bind fun b647 => D.eq a646 b647)).bind fun a648 => (M.one D.toInt) [a648])).bind fun b650 => D.mul a649 b650)).bind fun base645 => (((((M.ret many562)).bind fun a651 => D.rng1 [a651])).bind fun ds669 => (M.map (fun k652 => (((((((M.ret base645)).bind fun a655 => ((M.ret none)).bind fun lo656 => ((((M.ret at593)).bind fun a653 => a653.asI.bind fun i654 => .ret (some i654))).bind fun hi657 => D.sl a655 lo656 hi657)).bind fun a660 => ((((M.ret some616)).bind fun a658 => ((M.ret k652)).bind fun b659 => D.ix a658 b659)).bind fun b661 => D.add a660 b661)).bind fun a667 => ((((M.ret base645)).bind fun a664 => ((((M.ret at593)).bind fun a662 => a662.asI.bind fun i663 => .ret (some i663))).bind fun lo665 => ((M.ret none)).bind fun hi666 => D.sl a664 lo665 hi666)).bind fun b668 => D.add a667 b668)) ds669).bind fun es670 => .ret (.lst es670))))
noncomputable def l_law_labels : List D → M D
  | [_, many562] => m_law_labels many562
  | _ => .fail
noncomputable def m_law_drawn_spans (many767 : D) : M D := ((D.lstM [])).bind fun found768 => ((((((((M.ret many767)).bind fun a769 => ((M.ret (D.int 1))).bind fun b770 => D.add a769 b770)).bind D.takeM)).bind fun a771 => D.rng1 [a771])).bind fun ds775 => (M.fold (fun ys772 (s772 : D) => (fun k774 => ((((((((M.ret (D.int 10))).bind fun a778 => ((M.ret (D.int 9))).bind fun b779 => D.pow a778 b779)).bind fun a780 => ((M.ret (D.int 1))).bind fun b781 => D.add a780 b781)).bind D.takeM)).bind fun great777 => ((((((((M.ret (D.int 30))).bind D.takeM)).bind fun a787 => ((((M.ret (D.int 30))).bind D.takeM)).bind fun a788 => ((M.ret great777)).bind fun a789 => ((((((M.ret (D.int 10))).bind fun a783 => ((M.ret (D.int 9))).bind fun b784 => D.pow a783 b784)).bind fun a785 => ((((M.ret (D.int 9))).bind D.takeM)).bind fun b786 => D.sub a785 b786)).bind fun a790 => ((M.ret (D.int 0))).bind fun a791 => D.lstM [a787, a788, a789, a790, a791])).bind fun a792 => ((((M.ret (D.int 5))).bind D.takeM)).bind fun b793 => D.ix a792 b793)).bind fun begin782 => ((((((((M.ret begin782)).bind fun a795 => ((((M.ret (D.int 6))).bind D.takeM)).bind fun b796 => D.add a795 b796)).bind fun a801 => ((M.ret begin782)).bind fun a802 => ((((M.ret begin782)).bind fun a797 => ((((M.ret (D.int 3))).bind D.takeM)).bind fun b798 => D.sub a797 b798)).bind fun a803 => ((((M.ret (D.int 10))).bind fun a799 => ((M.ret (D.int 9))).bind fun b800 => D.pow a799 b800)).bind fun a804 => ((M.ret great777)).bind fun a805 => D.lstM [a801, a802, a803, a804, a805])).bind fun a806 => ((((M.ret (D.int 5))).bind D.takeM)).bind fun b807 => D.ix a806 b807)).bind fun end794 => ((((M.ret begin782)).bind fun a816 => ((((M.ret (D.int 0))).bind fun a814 => ((((((M.ret (D.int 10))).bind fun a810 => ((M.ret (D.int 9))).bind fun b811 => D.pow a810 b811)).bind fun a812 => ((M.ret end794)).bind fun a813 => (M.two D.min2) [a812, a813])).bind fun a815 => (M.two D.max2) [a814, a815])).bind fun a817 => D.tupM [a816, a817])).bind fun v818 => D.appK s772 v818 fun found808 => (M.ret found808)) ys772) ds775 found768).bind fun s776 => (M.ret s776)
noncomputable def l_law_drawn_spans : List D → M D
  | [_, many767] => m_law_drawn_spans many767
  | _ => .fail
noncomputable def m_law_has_day (spans870 day871 : D) : M D := (((((((M.ret spans870)).bind D.items)).bind fun ds878 => (M.cm (fun y875 => D.un2 y875 fun begin873 end874 => ((((M.chain D.le D.le (M.ret begin873) (M.ret day871) (M.ret end874))).bind D.asB)).bind fun k876 => if k876 = true then ((M.ret (D.int 1))).bind fun y877 => .ret (some y877) else .ret none) ds878).bind fun es879 => .ret (.lst es879))).bind fun a880 => ((D.lstM [])).bind fun b881 => D.ne a880 b881)
noncomputable def l_law_has_day : List D → M D
  | [spans870, day871] => m_law_has_day spans870 day871
  | _ => .fail
noncomputable def m_law_is_day (thing901 : D) : M D := (M.andB (((M.ret thing901)).bind fun a902 => ((M.ret (D.ty "int"))).bind fun a903 => (M.two D.isi) [a902, a903]) (M.andB (((((M.ret thing901)).bind fun a904 => ((M.ret (D.ty "bool"))).bind fun a905 => (M.two D.isi) [a904, a905])).bind fun a906 => a906.asB.bind fun k907 => .ret (.bl (!k907))) (M.chain D.le D.le (M.ret (D.int 0)) (M.ret thing901) (((M.ret (D.int 10))).bind fun a908 => ((M.ret (D.int 9))).bind fun b909 => D.pow a908 b909))))
noncomputable def l_law_is_day : List D → M D
  | [thing901] => m_law_is_day thing901
  | _ => .fail
noncomputable def m_law_is_word (thing928 : D) : M D := ((M.or2 (M.not1 (((((M.ret thing928)).bind fun a929 => ((M.ret (D.ty "str"))).bind fun a930 => (M.two D.isi) [a929, a930])).bind D.asB)) (M.or2 (((((((M.ret thing928)).bind fun a931 => (M.one D.len) [a931])).bind fun a932 => ((M.ret (D.int 1))).bind fun b933 => D.lt a932 b933)).bind D.asB) (((((((M.ret thing928)).bind fun a934 => (M.one D.len) [a934])).bind fun a935 => ((M.ret (D.int 8))).bind fun b936 => D.gt a935 b936)).bind D.asB)))).bind fun k937 => if k937 = true then (M.ret (D.bl false)) else (((((((M.ret thing928)).bind D.items)).bind fun ds944 => (M.cm (fun sign939 => ((((((M.ret sign939)).bind fun a940 => ((M.ret (D.str "abcdefghijklmnopqrstuvwxyz"))).bind fun b941 => D.ninM a940 b941)).bind D.asB)).bind fun k942 => if k942 = true then ((M.ret sign939)).bind fun y943 => .ret (some y943) else .ret none) ds944).bind fun es945 => .ret (.lst es945))).bind fun a946 => ((D.lstM [])).bind fun b947 => D.eq a946 b947)
noncomputable def l_law_is_word : List D → M D
  | [thing928] => m_law_is_word thing928
  | _ => .fail
noncomputable def m_law_is_span (thing978 : D) : M D := (M.andB (((M.ret thing978)).bind fun a979 => ((M.ret (D.ty "tuple"))).bind fun a980 => (M.two D.isi) [a979, a980]) (M.andB (((((M.ret thing978)).bind fun a981 => (M.one D.len) [a981])).bind fun a982 => ((M.ret (D.int 2))).bind fun b983 => D.eq a982 b983) (M.andB (((((M.ret thing978)).bind fun a984 => ((M.ret (D.int 0))).bind fun b985 => D.ix a984 b985)).bind fun a986 => m_law_is_day a986) (((((M.ret thing978)).bind fun a987 => ((M.ret (D.int 1))).bind fun b988 => D.ix a987 b988)).bind fun a989 => m_law_is_day a989))))
noncomputable def l_law_is_span : List D → M D
  | [thing978] => m_law_is_span thing978
  | _ => .fail
noncomputable def m_law_is_row (c : Cl) (thing1011 : D) : M D := ((M.or2 (M.not1 (((((M.ret thing1011)).bind fun a1012 => ((M.ret (D.ty "tuple"))).bind fun a1013 => (M.two D.isi) [a1012, a1013])).bind D.asB)) (M.or2 (((((((M.ret thing1011)).bind fun a1014 => (M.one D.len) [a1014])).bind fun a1015 => ((M.ret (D.int 2))).bind fun b1016 => D.ne a1015 b1016)).bind D.asB) (M.not1 (((((((M.ret thing1011)).bind fun a1017 => ((M.ret (D.int 0))).bind fun b1018 => D.ix a1017 b1018)).bind fun a1019 => m_law_is_word a1019)).bind D.asB))))).bind fun k1020 => if k1020 = true then (M.ret (D.bl false)) else (M.andB (((((M.ret thing1011)).bind fun a1021 => ((M.ret (D.int 1))).bind fun b1022 => D.ix a1021 b1022)).bind (D.isiT c.all [(D.ty "list"), (D.ty "tuple")])) (((((((((M.ret thing1011)).bind fun a1023 => ((M.ret (D.int 1))).bind fun b1024 => D.ix a1023 b1024)).bind D.items)).bind fun ds1030 => (M.cm (fun rule1026 => ((M.not1 (((((M.ret rule1026)).bind fun a1027 => m_law_is_word a1027)).bind D.asB))).bind fun k1028 => if k1028 = true then ((M.ret rule1026)).bind fun y1029 => .ret (some y1029) else .ret none) ds1030).bind fun es1031 => .ret (.lst es1031))).bind fun a1032 => ((D.lstM [])).bind fun b1033 => D.eq a1032 b1033))
noncomputable def l_law_is_row (c : Cl) : List D → M D
  | [thing1011] => m_law_is_row c thing1011
  | _ => .fail
noncomputable def m_law_wrong (c : Cl) (way1075 things1076 : D) : M D := ((((((M.ret way1075)).bind fun a1077 => ((M.ret (D.int 0))).bind fun b1078 => D.eq a1077 b1078)).bind D.asB)).bind fun k1079 => if k1079 = true then ((M.andB (((((M.ret things1076)).bind fun a1081 => ((M.ret (D.int 0))).bind fun b1082 => D.ix a1081 b1082)).bind (D.isiT c.all [(D.ty "list"), (D.ty "tuple")])) (((((((((M.ret things1076)).bind fun a1083 => ((M.ret (D.int 0))).bind fun b1084 => D.ix a1083 b1084)).bind D.items)).bind fun ds1090 => (M.cm (fun one1086 => ((M.not1 (((((M.ret one1086)).bind fun a1087 => m_law_is_span a1087)).bind D.asB))).bind fun k1088 => if k1088 = true then ((M.ret one1086)).bind fun y1089 => .ret (some y1089) else .ret none) ds1090).bind fun es1091 => .ret (.lst es1091))).bind fun a1092 => ((D.lstM [])).bind fun b1093 => D.eq a1092 b1093))).bind fun good1080 => (((((M.ret good1080)).bind D.truth)).bind fun k1094 => if k1094 = true then (M.ret D.non) else (M.ret (D.int 0))) else ((M.not1 (((((((M.ret things1076)).bind fun a1095 => ((M.ret (D.int 0))).bind fun b1096 => D.ix a1095 b1096)).bind fun a1097 => ((M.ret (D.ty "bool"))).bind fun a1098 => (M.two D.isi) [a1097, a1098])).bind D.asB))).bind fun k1099 => if k1099 = true then (M.ret (D.int 0)) else ((M.or2 (M.not1 (((((((M.ret things1076)).bind fun a1100 => ((M.ret (D.int 1))).bind fun b1101 => D.ix a1100 b1101)).bind (D.isiT c.all [(D.ty "list"), (D.ty "tuple")]))).bind D.asB)) (((((((((((M.ret things1076)).bind fun a1102 => ((M.ret (D.int 1))).bind fun b1103 => D.ix a1102 b1103)).bind D.items)).bind fun ds1109 => (M.cm (fun one1105 => ((M.not1 (((((M.ret one1105)).bind fun a1106 => m_law_is_row c a1106)).bind D.asB))).bind fun k1107 => if k1107 = true then ((M.ret one1105)).bind fun y1108 => .ret (some y1108) else .ret none) ds1109).bind fun es1110 => .ret (.lst es1110))).bind fun a1111 => ((D.lstM [])).bind fun b1112 => D.ne a1111 b1112)).bind D.asB))).bind fun k1113 => if k1113 = true then (M.ret (D.int 1)) else ((((((((M.ret things1076)).bind fun a1115 => ((M.ret (D.int 1))).bind fun b1116 => D.ix a1115 b1116)).bind D.items)).bind fun ds1121 => (M.map (fun one1118 => (((M.ret one1118)).bind fun a1119 => ((M.ret (D.int 0))).bind fun b1120 => D.ix a1119 b1120)) ds1121).bind fun es1122 => .ret (.lst es1122))).bind fun told1114 => ((((((((M.ret told1114)).bind fun a1124 => (M.one D.len) [a1124])).bind fun a1125 => D.rng1 [a1125])).bind fun ds1138 => (M.cm (fun k1126 => ((((((((M.ret told1114)).bind fun a1127 => ((M.ret k1126)).bind fun b1128 => D.ix a1127 b1128)).bind fun a1134 => ((((M.ret told1114)).bind fun a1131 => ((M.ret none)).bind fun lo1132 => ((((M.ret k1126)).bind fun a1129 => a1129.asI.bind fun i1130 => .ret (some i1130))).bind fun hi1133 => D.sl a1131 lo1132 hi1133)).bind fun b1135 => D.inM a1134 b1135)).bind D.asB)).bind fun k1136 => if k1136 = true then ((M.ret k1126)).bind fun y1137 => .ret (some y1137) else .ret none) ds1138).bind fun es1139 => .ret (.lst es1139))).bind fun double1123 => (((((((M.ret double1123)).bind fun a1140 => ((D.lstM [])).bind fun b1141 => D.ne a1140 b1141)).bind D.asB)).bind fun k1142 => if k1142 = true then (M.ret (D.int 1)) else (M.ret D.non))
noncomputable def l_law_wrong (c : Cl) : List D → M D
  | [way1075, things1076] => m_law_wrong c way1075 things1076
  | _ => .fail
noncomputable def m_law_odd : M D := ((((M.ret D.non)).bind fun a1251 => D.lstM [a1251])).bind fun deep1250 => ((((M.ret (D.int 29))).bind fun a1252 => D.rng1 [a1252])).bind fun ds1256 => (M.fold (fun ys1253 (s1253 : D) => (fun k1255 => ((((M.ret s1253)).bind fun a1259 => D.lstM [a1259])).bind fun deep1258 => (M.ret deep1258)) ys1253) ds1256 deep1250).bind fun s1257 => ((((M.ret D.non)).bind fun a1270 => ((M.ret (D.int 5))).bind fun a1271 => ((M.ret (D.str ""))).bind fun a1272 => ((M.ret (D.str "ab"))).bind fun a1273 => ((M.ret (D.dic [] []))).bind fun a1274 => ((M.ret (D.bl true))).bind fun a1275 => ((M.ret (D.int 0))).bind fun a1276 => ((((D.lstM [])).bind fun a1261 => D.lstM [a1261])).bind fun a1277 => ((((D.tupM [])).bind fun a1262 => D.lstM [a1262])).bind fun a1278 => ((((D.tupM [])).bind fun a1263 => D.tupM [a1263])).bind fun a1279 => ((((M.ret (D.str "a"))).bind fun k1265 => ((((M.ret (D.str "b"))).bind fun a1264 => D.tupM [a1264])).bind fun v1266 => D.dispK [(k1265, v1266)])).bind fun a1280 => ((M.ret s1257)).bind fun a1281 => ((((((M.ret D.non)).bind fun a1267 => D.lstM [a1267])).bind fun a1268 => ((M.ret (D.int 9900))).bind fun b1269 => D.mul a1268 b1269)).bind fun a1282 => D.lstM [a1270, a1271, a1272, a1273, a1274, a1275, a1276, a1277, a1278, a1279, a1280, a1281, a1282])).bind fun odd_here1260 => (((((M.ret odd_here1260)).bind fun a1291 => ((((((M.ret (D.int 5))).bind fun a1283 => D.lstM [a1283])).bind fun a1288 => ((((M.ret (D.int 3))).bind fun a1284 => ((M.ret (D.int 4))).bind fun a1285 => D.tupM [a1284, a1285])).bind fun a1289 => ((((M.ret (D.str "a"))).bind fun a1286 => ((M.ret (D.str "b"))).bind fun a1287 => D.tupM [a1286, a1287])).bind fun a1290 => D.lstM [a1288, a1289, a1290])).bind fun b1292 => D.add a1291 b1292)).bind fun a1293 => ((((M.ret (D.int 16))).bind D.takeM)).bind fun b1294 => D.ixA a1293 b1294)
noncomputable def l_law_odd : List D → M D
  | [_] => m_law_odd
  | _ => .fail
noncomputable def m_law_odd_span (span1413 : D) : M D := ((M.ret span1413)).bind (fun y1416 => D.un2 y1416 fun begin1414 end1415 => ((((((M.ret begin1414)).bind fun a1418 => ((M.ret end1415)).bind fun a1419 => D.lstM [a1418, a1419])).bind fun a1432 => ((((M.ret begin1414)).bind fun a1420 => D.tupM [a1420])).bind fun a1433 => ((((M.ret begin1414)).bind fun a1421 => ((M.ret end1415)).bind fun a1422 => ((M.ret end1415)).bind fun a1423 => D.tupM [a1421, a1422, a1423])).bind fun a1434 => ((((M.ret (D.int (-1)))).bind fun a1424 => ((M.ret end1415)).bind fun a1425 => D.tupM [a1424, a1425])).bind fun a1435 => ((((M.ret begin1414)).bind fun a1430 => ((((((M.ret (D.int 10))).bind fun a1426 => ((M.ret (D.int 9))).bind fun b1427 => D.pow a1426 b1427)).bind fun a1428 => ((M.ret (D.int 1))).bind fun b1429 => D.add a1428 b1429)).bind fun a1431 => D.tupM [a1430, a1431])).bind fun a1436 => D.lstM [a1432, a1433, a1434, a1435, a1436])).bind fun some1417 => ((((M.ret some1417)).bind fun a1444 => ((((((M.ret (D.bl true))).bind fun a1438 => ((M.ret end1415)).bind fun a1439 => D.tupM [a1438, a1439])).bind fun a1442 => ((((M.ret begin1414)).bind fun a1440 => ((M.ret (D.bl false))).bind fun a1441 => D.tupM [a1440, a1441])).bind fun a1443 => D.lstM [a1442, a1443])).bind fun b1445 => D.add a1444 b1445)).bind fun some1437 => ((((M.ret some1437)).bind fun a1455 => ((((((((M.ret begin1414)).bind fun a1447 => (M.one D.strI) [a1447])).bind fun a1448 => ((M.ret end1415)).bind fun a1449 => D.tupM [a1448, a1449])).bind fun a1452 => ((((M.ret begin1414)).bind fun a1450 => ((M.ret D.non)).bind fun a1451 => D.tupM [a1450, a1451])).bind fun a1453 => ((M.ret D.non)).bind fun a1454 => D.lstM [a1452, a1453, a1454])).bind fun b1456 => D.add a1455 b1456)).bind fun some1446 => ((((M.ret some1446)).bind fun a1467 => ((((M.ret begin1414)).bind fun a1464 => ((M.ret (D.dic [] []))).bind fun a1465 => ((((((((M.ret (D.int 0))).bind fun a1458 => ((M.ret begin1414)).bind fun b1459 => D.sub a1458 b1459)).bind fun a1460 => ((M.ret (D.int 1))).bind fun b1461 => D.sub a1460 b1461)).bind fun a1462 => ((M.ret end1415)).bind fun a1463 => D.tupM [a1462, a1463])).bind fun a1466 => D.lstM [a1464, a1465, a1466])).bind fun b1468 => D.add a1467 b1468)).bind fun some1457 => ((((M.ret some1457)).bind fun a1486 => ((((((M.ret begin1414)).bind fun a1472 => ((((M.ret (D.int 10))).bind fun a1470 => ((M.ret (D.int 30))).bind fun b1471 => D.pow a1470 b1471)).bind fun a1473 => D.tupM [a1472, a1473])).bind fun a1482 => ((M.ret span1413)).bind fun a1483 => ((((((((M.ret (D.int 10))).bind fun a1474 => ((M.ret (D.int 9))).bind fun b1475 => D.pow a1474 b1475)).bind fun a1476 => ((M.ret (D.int 1))).bind fun b1477 => D.add a1476 b1477)).bind fun a1478 => ((M.ret end1415)).bind fun a1479 => D.tupM [a1478, a1479])).bind fun a1484 => ((((M.ret begin1414)).bind fun a1480 => ((M.ret (D.int (-1)))).bind fun a1481 => D.tupM [a1480, a1481])).bind fun a1485 => D.lstM [a1482, a1483, a1484, a1485])).bind fun b1487 => D.add a1486 b1487)).bind fun some1469 => (((M.ret some1469)).bind fun a1488 => ((((M.ret (D.int 17))).bind D.takeM)).bind fun b1489 => D.ix a1488 b1489))
noncomputable def l_law_odd_span : List D → M D
  | [_, span1413] => m_law_odd_span span1413
  | _ => .fail
noncomputable def m_law_odd_row (row1753 : D) : M D := ((((M.ret row1753)).bind fun a1754 => ((M.ret (D.int 0))).bind fun b1755 => D.ixA a1754 b1755)).bind fun rule1759 => ((((((M.ret row1753)).bind fun a1756 => ((M.ret (D.int 1))).bind fun b1757 => D.ixA a1756 b1757)).bind fun a1758 => (M.one D.toLstA) [a1758])).bind fun some1760 => ((((((M.ret (D.str ""))).bind fun a1763 => ((M.ret (D.str "A"))).bind fun a1764 => ((M.ret (D.str "a1"))).bind fun a1765 => ((M.ret (D.str "abcdefghi"))).bind fun a1766 => ((M.ret D.non)).bind fun a1767 => ((M.ret (D.int 5))).bind fun a1768 => ((((M.ret (D.str "a"))).bind fun a1762 => D.tupM [a1762])).bind fun a1769 => ((M.ret (D.str "a b"))).bind fun a1770 => ((M.ret (D.bl true))).bind fun a1771 => ((D.lstM [])).bind fun a1772 => D.lstM [a1763, a1764, a1765, a1766, a1767, a1768, a1769, a1770, a1771, a1772])).bind fun a1773 => ((((M.ret (D.int 10))).bind D.takeM)).bind fun b1774 => D.ixA a1773 b1774)).bind fun odd_here1761 => ((((((((M.ret some1760)).bind fun a1776 => (M.one D.lenA) [a1776])).bind fun a1777 => ((M.ret (D.int 1))).bind fun b1778 => D.add a1777 b1778)).bind D.takeM)).bind fun spot1775 => ((((((M.ret rule1759)).bind fun a1780 => ((M.ret some1760)).bind fun a1781 => D.lstM [a1780, a1781])).bind fun a1790 => ((((M.ret rule1759)).bind fun a1782 => D.tupM [a1782])).bind fun a1791 => ((((M.ret rule1759)).bind fun a1783 => ((M.ret some1760)).bind fun a1784 => ((M.ret some1760)).bind fun a1785 => D.tupM [a1783, a1784, a1785])).bind fun a1792 => ((((M.ret some1760)).bind fun a1786 => ((M.ret rule1759)).bind fun a1787 => D.tupM [a1786, a1787])).bind fun a1793 => ((((M.ret odd_here1761)).bind fun a1788 => ((M.ret some1760)).bind fun a1789 => D.tupM [a1788, a1789])).bind fun a1794 => D.lstM [a1790, a1791, a1792, a1793, a1794])).bind fun menu1779 => ((((M.ret menu1779)).bind fun a1817 => ((((((M.ret rule1759)).bind fun a1811 => ((((((((M.ret some1760)).bind fun a1798 => ((M.ret none)).bind fun lo1799 => ((((M.ret spot1775)).bind fun a1796 => a1796.asI.bind fun i1797 => .ret (some i1797))).bind fun hi1800 => D.sl a1798 lo1799 hi1800)).bind fun a1802 => ((((M.ret odd_here1761)).bind fun a1801 => D.lstM [a1801])).bind fun b1803 => D.add a1802 b1803)).bind fun a1809 => ((((M.ret some1760)).bind fun a1806 => ((((M.ret spot1775)).bind fun a1804 => a1804.asI.bind fun i1805 => .ret (some i1805))).bind fun lo1807 => ((M.ret none)).bind fun hi1808 => D.sl a1806 lo1807 hi1808)).bind fun b1810 => D.add a1809 b1810)).bind fun a1812 => D.tupM [a1811, a1812])).bind fun a1815 => ((((M.ret rule1759)).bind fun a1813 => ((M.ret (D.str "ab"))).bind fun a1814 => D.tupM [a1813, a1814])).bind fun a1816 => D.lstM [a1815, a1816])).bind fun b1818 => D.add a1817 b1818)).bind fun menu1795 => ((((M.ret menu1795)).bind fun a1826 => ((((((M.ret rule1759)).bind fun a1820 => ((M.ret (D.dic [] []))).bind fun a1821 => D.tupM [a1820, a1821])).bind fun a1824 => ((((M.ret rule1759)).bind fun a1822 => ((M.ret D.non)).bind fun a1823 => D.tupM [a1822, a1823])).bind fun a1825 => D.lstM [a1824, a1825])).bind fun b1827 => D.add a1826 b1827)).bind fun menu1819 => ((((M.ret menu1819)).bind fun a1841 => ((((((M.ret rule1759)).bind fun a1836 => ((((((((M.ret some1760)).bind D.items)).bind fun ds1833 => (M.map (fun one1830 => (((M.ret one1830)).bind fun a1831 => ((M.ret (D.int 1))).bind fun a1832 => D.tupM [a1831, a1832])) ds1833).bind fun es1834 => .ret (.lst es1834))).bind fun a1835 => (M.one D.dictA) [a1835])).bind fun a1837 => D.tupM [a1836, a1837])).bind fun a1838 => ((M.ret rule1759)).bind fun a1839 => ((M.ret D.non)).bind fun a1840 => D.lstM [a1838, a1839, a1840])).bind fun b1842 => D.add a1841 b1842)).bind fun menu1828 => (((((M.ret menu1828)).bind fun a1848 => ((((((M.ret rule1759)).bind fun a1844 => ((((M.ret some1760)).bind fun a1843 => (M.one D.toTup) [a1843])).bind fun a1845 => D.tupM [a1844, a1845])).bind fun a1846 => ((M.ret row1753)).bind fun a1847 => D.lstM [a1846, a1847])).bind fun b1849 => D.add a1848 b1849)).bind fun a1850 => ((((M.ret (D.int 14))).bind D.takeM)).bind fun b1851 => D.ixA a1850 b1851)
noncomputable def l_law_odd_row : List D → M D
  | [_, row1753] => m_law_odd_row row1753
  | _ => .fail
noncomputable def m_law_spoilt (way1984 rows1985 : D) : M D := ((((M.ret (D.int 5))).bind D.takeM)).bind fun kind1989 => ((((((((M.ret rows1985)).bind fun a1986 => (M.one D.lenA) [a1986])).bind fun a1987 => ((M.ret (D.int 1))).bind fun b1988 => D.add a1987 b1988)).bind D.takeM)).bind fun spot1990 => ((((((((M.ret rows1985)).bind fun a1998 => ((((M.ret spot1990)).bind fun a1992 => a1992.asI.bind fun i1993 => .ret (some i1993))).bind fun lo1999 => ((((((M.ret spot1990)).bind fun a1994 => ((M.ret (D.int 1))).bind fun b1995 => D.add a1994 b1995)).bind fun a1996 => a1996.asI.bind fun i1997 => .ret (some i1997))).bind fun hi2000 => D.sl a1998 lo1999 hi2000)).bind fun a2011 => ((((((((((M.ret (D.int 3))).bind fun a2001 => ((M.ret (D.int 5))).bind fun a2002 => D.tupM [a2001, a2002])).bind fun a2006 => ((((M.ret (D.str "a"))).bind fun a2004 => ((((M.ret (D.str "b"))).bind fun a2003 => D.lstM [a2003])).bind fun a2005 => D.tupM [a2004, a2005])).bind fun a2007 => D.lstM [a2006, a2007])).bind fun a2008 => ((M.ret way1984)).bind fun b2009 => D.ixA a2008 b2009)).bind fun a2010 => D.lstM [a2010])).bind fun b2012 => D.add a2011 b2012)).bind fun a2013 => ((M.ret (D.int 0))).bind fun b2014 => D.ixA a2013 b2014)).bind fun row1991 => ((((((M.ret kind1989)).bind fun a2015 => ((M.ret (D.int 0))).bind fun b2016 => D.eq a2015 b2016)).bind D.asB)).bind fun k2017 => if k2017 = true then (((((m_law_odd)).bind fun a2019 => ((((M.ret rows1985)).bind fun a2018 => (M.one D.toTup) [a2018])).bind fun a2020 => ((((M.ret rows1985)).bind D.dictEn)).bind fun a2021 => D.lstM [a2019, a2020, a2021])).bind fun a2022 => ((((M.ret (D.int 3))).bind D.takeM)).bind fun b2023 => D.ixA a2022 b2023) else ((((((M.ret kind1989)).bind fun a2024 => ((M.ret (D.int 1))).bind fun b2025 => D.eq a2024 b2025)).bind D.asB)).bind fun k2026 => if k2026 = true then (((((((M.ret rows1985)).bind fun a2029 => ((M.ret none)).bind fun lo2030 => ((((M.ret spot1990)).bind fun a2027 => a2027.asI.bind fun i2028 => .ret (some i2028))).bind fun hi2031 => D.sl a2029 lo2030 hi2031)).bind fun a2033 => ((((M.ret row1991)).bind fun a2032 => D.lstM [a2032])).bind fun b2034 => D.add a2033 b2034)).bind fun a2040 => ((((M.ret rows1985)).bind fun a2037 => ((((M.ret spot1990)).bind fun a2035 => a2035.asI.bind fun i2036 => .ret (some i2036))).bind fun lo2038 => ((M.ret none)).bind fun hi2039 => D.sl a2037 lo2038 hi2039)).bind fun b2041 => D.add a2040 b2041) else ((((((((M.ret way1984)).bind fun a2043 => ((M.ret (D.int 0))).bind fun b2044 => D.eq a2043 b2044)).bind D.asB)).bind fun k2045 => if k2045 = true then (((M.ret row1991)).bind fun a2048 => m_law_odd_span a2048) else (((M.ret row1991)).bind fun a2049 => m_law_odd_row a2049))).bind fun odd_here2042 => (((((((M.ret rows1985)).bind fun a2052 => ((M.ret none)).bind fun lo2053 => ((((M.ret spot1990)).bind fun a2050 => a2050.asI.bind fun i2051 => .ret (some i2051))).bind fun hi2054 => D.sl a2052 lo2053 hi2054)).bind fun a2056 => ((((M.ret odd_here2042)).bind fun a2055 => D.lstM [a2055])).bind fun b2057 => D.add a2056 b2057)).bind fun a2068 => ((((M.ret rows1985)).bind fun a2065 => ((((((M.ret spot1990)).bind fun a2061 => ((((((M.ret kind1989)).bind fun a2058 => ((M.ret (D.int 2))).bind fun b2059 => D.gt a2058 b2059)).bind fun a2060 => (M.one D.toInt) [a2060])).bind fun b2062 => D.add a2061 b2062)).bind fun a2063 => a2063.asI.bind fun i2064 => .ret (some i2064))).bind fun lo2066 => ((M.ret none)).bind fun hi2067 => D.sl a2065 lo2066 hi2067)).bind fun b2069 => D.add a2068 b2069)
noncomputable def l_law_spoilt : List D → M D
  | [_, way1984, rows1985] => m_law_spoilt way1984 rows1985
  | _ => .fail
noncomputable def m_law_tried (c : Cl) (way2148 things2149 : D) : M D := (M.tryAs c.Wrong "place" (((M.ret (D.str "made"))).bind fun a2162 => ((((((((M.ret way2148)).bind fun a2150 => ((M.ret (D.int 0))).bind fun b2151 => D.eq a2150 b2151)).bind D.asB)).bind fun k2161 => if k2161 = true then (((((M.ret things2149)).bind fun a2152 => ((M.ret (D.int 0))).bind fun b2153 => D.ix a2152 b2153)).bind fun a2154 => mx_Days_init c a2154) else (((((M.ret things2149)).bind fun a2157 => ((M.ret (D.int 0))).bind fun b2158 => D.ix a2157 b2158)).bind fun a2159 => ((((M.ret things2149)).bind fun a2155 => ((M.ret (D.int 1))).bind fun b2156 => D.ix a2155 b2156)).bind fun a2160 => mx_Carry_init c a2159 a2160))).bind (Xr.next fun a2163 => .ret (.ok (.tup [a2162, a2163])))) (fun d => D.tupM [D.str "refused", d]))
noncomputable def l_law_tried (c : Cl) : List D → M D
  | [way2148, things2149] => m_law_tried c way2148 things2149
  | _ => .fail
noncomputable def m_law_as_told (c : Cl) (way2215 things2216 found2217 : D) : M D := ((((((M.ret way2215)).bind fun a2218 => ((M.ret (D.int 0))).bind fun b2219 => D.eq a2218 b2219)).bind D.asB)).bind fun k2220 => if k2220 = true then ((((((M.ret things2216)).bind fun a2221 => ((M.ret (D.int 0))).bind fun b2222 => D.ix a2221 b2222)).bind D.items)).bind fun ds2229 => (M.loop (X := Empty) (fun ys2224 (s2224 : Unit) => (fun y2228 => D.un2 y2228 fun begin2226 end2227 => ((((((((((((M.ret begin2226)).bind fun a2231 => ((M.ret end2227)).bind fun a2232 => D.tupM [a2231, a2232])).bind D.items)).bind fun ds2245 => (M.cm (fun day2234 => ((((((((M.ret day2234)).bind fun a2235 => ((M.ret found2217)).bind fun b2236 => D.inO c.Days (l_Days_contains c) a2235 b2236)).bind fun a2241 => ((((((M.ret things2216)).bind fun a2237 => ((M.ret (D.int 0))).bind fun b2238 => D.ix a2237 b2238)).bind fun a2239 => ((M.ret day2234)).bind fun a2240 => m_law_has_day a2239 a2240)).bind fun b2242 => D.ne a2241 b2242)).bind D.asB)).bind fun k2243 => if k2243 = true then ((M.ret day2234)).bind fun y2244 => .ret (some y2244) else .ret none) ds2245).bind fun es2246 => .ret (.lst es2246))).bind fun a2247 => ((D.lstM [])).bind fun b2248 => D.ne a2247 b2248)).bind D.asB)).bind fun k2249 => if k2249 = true then ((M.ret (D.bl false))).bind fun r2250 => M.ret (Fl.rt r2250) else (M.ret (Fl.nx ()))) ys2224) ds2229 ()).bind (Fl.toF fun s2230 => (M.ret (D.bl true))) else ((((((((M.ret things2216)).bind fun a2252 => ((M.ret (D.int 1))).bind fun b2253 => D.ix a2252 b2253)).bind D.items)).bind fun ds2264 => (M.cm (fun y2257 => D.un2 y2257 fun rule2255 some2256 => ((((((((M.ret found2217)).bind fun o2258 => D.mth c.Carry "carried" o2258 (((M.ret rule2255)).bind fun a2259 => m_Carry_carried c o2258 a2259))).bind fun a2260 => ((((M.ret some2256)).bind D.sortedSet)).bind fun b2261 => D.ne a2260 b2261)).bind D.asB)).bind fun k2262 => if k2262 = true then ((M.ret rule2255)).bind fun y2263 => .ret (some y2263) else .ret none) ds2264).bind fun es2265 => .ret (.lst es2265))).bind fun wrong_here2251 => (M.andB (((M.ret wrong_here2251)).bind fun a2266 => ((D.lstM [])).bind fun b2267 => D.eq a2266 b2267) (((((M.ret found2217)).bind (D.prp c.Carry (l_Carry_rest c)))).bind fun a2270 => ((((M.ret things2216)).bind fun a2268 => ((M.ret (D.int 0))).bind fun b2269 => D.ix a2268 b2269)).bind fun b2271 => D.eq a2270 b2271))
noncomputable def l_law_as_told (c : Cl) : List D → M D
  | [_, way2215, things2216, found2217] => m_law_as_told c way2215 things2216 found2217
  | _ => .fail
noncomputable def m_law (c : Cl) : M D := ((((M.ret (D.int 4))).bind fun a2317 => m_law_labels a2317)).bind fun words2316 => ((((M.ret (D.int 20))).bind fun a2318 => D.rng1 [a2318])).bind fun ds2322 => (M.loop (X := Empty) (fun ys2319 (s2319 : Unit) => (fun k2321 => ((((M.ret (D.int 2))).bind D.takeM)).bind fun way2324 => ((((M.ret (D.int 5))).bind fun a2326 => m_law_drawn_spans a2326)).bind fun spans2325 => ((((((((M.ret words2316)).bind fun a2330 => ((M.ret none)).bind fun lo2331 => ((((((M.ret (D.int 5))).bind D.takeM)).bind fun a2328 => a2328.asI.bind fun i2329 => .ret (some i2329))).bind fun hi2332 => D.sl a2330 lo2331 hi2332)).bind D.items)).bind fun ds2343 => (M.map (fun rule2334 => (((M.ret rule2334)).bind fun a2341 => ((((((M.ret words2316)).bind fun a2335 => m_law_mixed a2335)).bind fun a2338 => ((M.ret none)).bind fun lo2339 => ((((((M.ret (D.int 4))).bind D.takeM)).bind fun a2336 => a2336.asI.bind fun i2337 => .ret (some i2337))).bind fun hi2340 => D.sl a2338 lo2339 hi2340)).bind fun a2342 => D.tupM [a2341, a2342])) ds2343).bind fun es2344 => .ret (.lst es2344))).bind fun rows2327 => ((((((((M.ret spans2325)).bind fun a2346 => D.lstM [a2346])).bind fun a2351 => ((((((((M.ret (D.int 2))).bind D.takeM)).bind fun a2347 => ((M.ret (D.int 0))).bind fun b2348 => D.eq a2347 b2348)).bind fun a2349 => ((M.ret rows2327)).bind fun a2350 => D.lstM [a2349, a2350])).bind fun a2352 => D.lstM [a2351, a2352])).bind fun a2353 => ((M.ret way2324)).bind fun b2354 => D.ix a2353 b2354)).bind fun good2345 => ((((M.ret good2345)).bind fun a2356 => (M.one D.toLst) [a2356])).bind fun things2355 => ((((((M.ret (D.int 3))).bind D.takeM)).bind fun a2357 => D.rng1 [a2357])).bind fun ds2361 => (M.fold (fun ys2358 (s2358 : D) => (fun time2360 => ((M.and2 (((((M.ret way2324)).bind fun a2363 => ((M.ret (D.int 1))).bind fun b2364 => D.eq a2363 b2364)).bind D.asB) (((((((M.ret (D.int 3))).bind D.takeM)).bind fun a2365 => ((M.ret (D.int 0))).bind fun b2366 => D.eq a2365 b2366)).bind D.asB))).bind fun k2367 => if k2367 = true then ((m_law_odd)).bind fun v2369 => ((M.ret (D.int 0))).bind fun i2370 => D.itemK s2358 v2369 i2370 fun things2368 => (M.ret things2368) else ((M.and2 (((((((M.ret way2324)).bind fun a2384 => ((((((((M.ret (D.bl true))).bind fun a2374 => D.lstM [a2374])).bind fun a2375 => ((M.ret way2324)).bind fun b2376 => D.mul a2375 b2376)).bind fun a2382 => ((((M.ret s2358)).bind fun a2379 => ((((M.ret (D.int (-1)))).bind fun a2377 => a2377.asI.bind fun i2378 => .ret (some i2378))).bind fun lo2380 => ((M.ret none)).bind fun hi2381 => D.sl a2379 lo2380 hi2381)).bind fun b2383 => D.add a2382 b2383)).bind fun a2385 => m_law_wrong c a2384 a2385)).bind fun a2386 => ((M.ret D.non)).bind fun b2387 => (D.is1 false) a2386 b2387)).bind D.asB) (((((((M.ret s2358)).bind fun a2388 => ((M.ret (D.int (-1)))).bind fun b2389 => D.ix a2388 b2389)).bind fun a2390 => ((M.ret (D.ty "list"))).bind fun a2391 => (M.two D.isi) [a2390, a2391])).bind D.asB))).bind fun k2392 => if k2392 = true then ((((M.ret way2324)).bind fun a2395 => ((((M.ret s2358)).bind fun a2393 => ((M.ret (D.int (-1)))).bind fun b2394 => D.ix a2393 b2394)).bind fun a2396 => m_law_spoilt a2395 a2396)).bind fun v2398 => ((M.ret (D.int (-1)))).bind fun i2399 => D.itemK s2358 v2398 i2399 fun things2397 => (M.ret things2397) else (M.ret s2358)) ys2358) ds2361 things2355).bind fun s2362 => ((((M.ret way2324)).bind fun a2403 => ((M.ret s2362)).bind fun a2404 => m_law_wrong c a2403 a2404)).bind fun wrong_here2406 => ((((M.ret s2362)).bind fun a2405 => (M.one D.reprM) [a2405])).bind fun shown2407 => ((((M.ret way2324)).bind fun a2408 => ((M.ret s2362)).bind fun a2409 => m_law_tried c a2408 a2409)).bind (fun y2412 => D.un2 y2412 fun word2410 found2411 => ((M.or2 (((((((M.ret word2410)).bind fun a2413 => ((M.ret (D.str "made"))).bind fun b2414 => D.eq a2413 b2414)).bind fun a2417 => ((((M.ret wrong_here2406)).bind fun a2415 => ((M.ret D.non)).bind fun b2416 => (D.is1 false) a2415 b2416)).bind fun b2418 => D.ne a2417 b2418)).bind D.asB) (((((((M.ret s2362)).bind fun a2419 => (M.one D.reprM) [a2419])).bind fun a2420 => ((M.ret shown2407)).bind fun b2421 => D.ne a2420 b2421)).bind D.asB))).bind fun k2422 => if k2422 = true then ((M.ret (D.bl false))).bind fun r2423 => M.ret (Fl.rt r2423) else ((M.and2 (((((M.ret word2410)).bind fun a2424 => ((M.ret (D.str "refused"))).bind fun b2425 => D.eq a2424 b2425)).bind D.asB) (((((((M.ret found2411)).bind fun a2426 => (M.one D.reprM) [a2426])).bind fun a2428 => ((((M.ret wrong_here2406)).bind fun a2427 => (M.one D.reprM) [a2427])).bind fun b2429 => D.ne a2428 b2429)).bind D.asB))).bind fun k2430 => if k2430 = true then ((M.ret (D.bl false))).bind fun r2431 => M.ret (Fl.rt r2431) else ((M.and2 (((((M.ret word2410)).bind fun a2432 => ((M.ret (D.str "made"))).bind fun b2433 => D.eq a2432 b2433)).bind D.asB) (M.not1 (((((M.ret way2324)).bind fun a2434 => ((M.ret s2362)).bind fun a2435 => ((M.ret found2411)).bind fun a2436 => m_law_as_told c a2434 a2435 a2436)).bind D.asB)))).bind fun k2437 => if k2437 = true then ((M.ret (D.bl false))).bind fun r2438 => M.ret (Fl.rt r2438) else ((((M.ret way2324)).bind fun a2439 => ((M.ret good2345)).bind fun a2440 => m_law_tried c a2439 a2440)).bind (fun y2443 => D.un2 y2443 fun word2441 found2442 => ((M.or2 (((((M.ret word2441)).bind fun a2444 => ((M.ret (D.str "made"))).bind fun b2445 => D.ne a2444 b2445)).bind D.asB) (M.not1 (((((M.ret way2324)).bind fun a2446 => ((M.ret good2345)).bind fun a2447 => ((M.ret found2442)).bind fun a2448 => m_law_as_told c a2446 a2447 a2448)).bind D.asB)))).bind fun k2449 => if k2449 = true then ((M.ret (D.bl false))).bind fun r2450 => M.ret (Fl.rt r2450) else (M.ret (Fl.nx ()))))) ys2319) ds2322 ()).bind (Fl.toF fun s2323 => (M.ret (D.bl true)))
end K28
namespace K28
open PySem PySem.Spec PyProof.Rows L2 VB
variable {P : Program} {w : World} {K : PySem.W.Frag} {mg : Str → Option Value} {base : Heap} {a : Ad}
theorem ok_is_integer (T : Tx w K mg a) : FnOk P w K mg base CX0 1 a.f_is_integer a.d_is_integer ["thing"] (spM K [.bor] l_is_integer) := by
  refine T.F_is_integer.ok (k := 0) sc_is_integer (fun vs H Q E h => spM_len h) (fun cdv A outer s H vs Q E hr h => ?_)
  refine ⟨_, PSs.nox (pss_one (ps_ret (pe_and (pe_callB (VB.kIsi (K := K) rfl) (by rfl) T.n_isinstance (by decide +kernel) (pa_cons (pv 0) (pa_cons (pe_bltn (v := .ty "int") (u := .type "int") (by rfl) T.n_int (by decide +kernel) rfl) pa_nil))) (pe_one (pe_not (pe_callB (VB.kIsi (K := K) rfl) (by rfl) T.n_isinstance (by decide +kernel) (pa_cons (pv 0) (pa_cons (pe_bltn (v := .ty "bool") (u := .type "bool") (by rfl) T.n_bool (by decide +kernel) rfl) pa_nil)))))))), body_M h fun ds hd => ?_⟩
  match ds, hd with
  | _, (.bor thing8 .nil) =>
    refine ⟨[.bor thing8], rfl, ?_⟩
    show G K _ _ _ (m_is_integer thing8) CF
    unfold m_is_integer
    exact (G.one (G.retF (fun _ r => r.1) (RE.andV (RE.cb isi_c (RAr.cons (RR.bor (d := thing8) rfl) (RAr.cons (RE.rr RE.ty) RAr.nil))) (RE.notV (RE.cb isi_c (RAr.cons (RR.bor (d := thing8) rfl) (RAr.cons (RE.rr RE.ty) RAr.nil)))))))
theorem ok_is_word (T : Tx w K mg a) : FnOk P w K mg base CX0 1 a.f_is_word a.d_is_word ["thing"] (spM K [.bor] l_is_word) := by
  refine T.F_is_word.ok (k := 0) sc_is_word (fun vs H Q E h => spM_len h) (fun cdv A outer s H vs Q E hr h => ?_)
  refine ⟨_, PSs.nox (pss_cons (ps_if (PW.pt (pw_or (pt_not (pt_val (pe_callB (VB.kIsi (K := K) rfl) (by rfl) T.n_isinstance (by decide +kernel) (pa_cons (pv 0) (pa_cons (pe_bltn (v := .ty "str") (u := .type "str") (by rfl) T.n_str (by decide +kernel) rfl) pa_nil))))) (pw_or1 (pt_not (pt_chain VB.op_leX VB.op_leX pe_int (pe_callB (VB.kLen (K := K) rfl) (by rfl) T.n_len (by decide +kernel) (pa_cons (pv 0) pa_nil)) (pe_glob (v := .int 8) (by rfl) T.g_MOST_LETTERS ⟨_, rfl⟩)))))) (pss_one (ps_ret pe_bl)) pss_nil)
    (pss_one (ps_ret (pe_callB (VB.kAll (K := K) rfl rfl) (by rfl) T.n_all (by decide +kernel) (pa_cons (pe_lc (own := [("letter", 1)]) (g := gName 1) (tt := tYes) rfl sc_is_word.nd (VB.pi_dat (K := K) rfl (pv 0)) (blkOk_by (N := ["thing", "letter"]) (sc := defScope s_is_word) (by decide +kernel)) (fun _ _ _ _ _ => (pg_name (i := 1) sc_is_word.nd rfl (Or.inl rfl))) (fun _ _ _ _ _ => pts_nil) (fun _ _ _ _ _ => (pe_cmpR (VB.op_inX (K := K) rfl (VB.room65 hr)) (pv 1) (pe_glob (v := .str "abcdefghijklmnopqrstuvwxyz") (by rfl) T.g_LETTERS ⟨_, rfl⟩) (by rfl)))) pa_nil))))), body_M h fun ds hd => ?_⟩
  match ds, hd with
  | _, (.bor thing26 .nil) =>
    refine ⟨[.bor thing26, .no], rfl, ?_⟩
    show G K _ _ _ (m_is_word thing26) CF
    unfold m_is_word
    exact (G.ifS (RT.or (RT.not (RT.b (RE.rr (RE.cb isi_c (RAr.cons (RR.bor (d := thing26) rfl) (RAr.cons (RE.rr RE.ty) RAr.nil)))))) (RT.not (RT.test (RE.rr (RE.chain le_d le_d (RE.rr RE.int) (RE.rr (RE.cb len_c (RAr.cons (RR.bor (d := thing26) rfl) RAr.nil))) (RE.rr RE.int)))))) (G.retF (fun _ r => r.1) RE.bl) (G.next (G.one (G.retF (fun _ r => r.1) (RE.cb all_c (RAr.cons (RE.rr (RN.re (RN.map (p := .nm 1) (js := [1]) (RI.rd (RR.bor (d := thing26) rfl)) (fun _ m => m) (PB.nm fun letter32 P w => CTp.of (RE.op in_d (RE.rr (RE.var (d := letter32) rfl)) (RE.rr RE.str)) w)))) RAr.nil))))))
theorem ok_is_day (T : Tx w K mg a) : FnOk P w K mg base CX0 2 a.f_is_day a.d_is_day ["thing"] (spM K [.bor] l_is_day) := by
  refine T.F_is_day.ok (k := 1) sc_is_day (fun vs H Q E h => spM_len h) (fun cdv A outer s H vs Q E hr h => ?_)
  refine ⟨_, PSs.nox (pss_one (ps_ret (pe_and (pe_call (ok_is_integer (K := K) T) (hr.mono (by decide)) (by rfl) T.m_is_integer T.k_is_integer T.b_is_integer .nil pass0 (pa_cons (pv 0) pa_nil)) (pe_one (pe_chain VB.op_leX VB.op_leX pe_int (pv 0) (pe_glob (v := .int 1000000000) (by rfl) T.g_LAST_DAY ⟨_, rfl⟩)))))), body_M h fun ds hd => ?_⟩
  match ds, hd with
  | _, (.bor thing50 .nil) =>
    refine ⟨[.bor thing50], rfl, ?_⟩
    show G K _ _ _ (m_is_day thing50) CF
    unfold m_is_day
    exact (G.one (G.retF (fun _ r => r.1) (RE.andV (RE.callE (RAm.bor (RR.bor (d := thing50) rfl) RAm.nil) rfl) (RE.chain le_d le_d (RE.rr RE.int) (RR.bor (d := thing50) rfl) (RE.rr RE.int)))))
theorem ok_is_carry_row (T : Tx w K mg a) : FnOk P w K mg base CX0 2 a.f_is_carry_row a.d_is_carry_row ["thing"] (spM K [.bor] (l_is_carry_row a.c)) := by
  refine T.F_is_carry_row.ok (k := 1) sc_is_carry_row (fun vs H Q E h => spM_len h) (fun cdv A outer s H vs Q E hr h => ?_)
  refine ⟨_, PSs.nox (pss_cons (ps_if (PW.pt (pw_or (pt_not (pt_val (pe_callB (VB.kIsi (K := K) rfl) (by rfl) T.n_isinstance (by decide +kernel) (pa_cons (pv 0) (pa_cons (pe_bltn (v := .ty "tuple") (u := .type "tuple") (by rfl) T.n_tuple (by decide +kernel) rfl) pa_nil))))) (pw_or (pt_cmpR (VB.op_neX (K := K) rfl hr.units) (pe_callB (VB.kLen (K := K) rfl) (by rfl) T.n_len (by decide +kernel) (pa_cons (pv 0) pa_nil)) pe_int (nomark _)) (pw_or1 (pt_not (pt_val (pe_call (ok_is_word (K := K) T) (hr.mono (by decide)) (by rfl) T.m_is_word T.k_is_word T.b_is_word .nil pass0 (pa_cons (pe_ix (VB.ixX (K := K) rfl) (pv 0) pe_int (fun _ _ => rfl)) pa_nil)))))))) (pss_one (ps_ret pe_bl)) pss_nil)
    (pss_one (ps_ret (pe_and (pe_callB (VB.kIsiT (K := K) rfl) (by rfl) T.n_isinstance (by decide +kernel) (pa_cons (pe_ix (VB.ixX (K := K) rfl) (pv 0) pe_int (fun _ _ => rfl)) (pa_cons (pe_tup (pa_cons (pe_bltn (v := .ty "list") (u := .type "list") (by rfl) T.n_list (by decide +kernel) rfl) (pa_cons (pe_bltn (v := .ty "tuple") (u := .type "tuple") (by rfl) T.n_tuple (by decide +kernel) rfl) pa_nil))) pa_nil))) (pe_one (pe_callB (VB.kAll (K := K) rfl rfl) (by rfl) T.n_all (by decide +kernel) (pa_cons (pe_lc (own := [("rule", 1)]) (g := gName 1) (tt := tYes) rfl sc_is_carry_row.nd (VB.pi_dat (K := K) rfl (pe_ix (VB.ixX (K := K) rfl) (pv 0) pe_int (fun _ _ => rfl))) (blkOk_by (N := ["thing", "rule"]) (sc := defScope s_is_carry_row) (by decide +kernel)) (fun _ _ _ _ _ => (pg_name (i := 1) sc_is_carry_row.nd rfl (Or.inl rfl))) (fun _ _ _ _ _ => pts_nil) (fun _ _ _ _ _ => (pe_call (ok_is_word (K := K) T) (hr.mono (by decide)) (by rfl) T.m_is_word T.k_is_word T.b_is_word .nil pass0 (pa_cons (pv 1) pa_nil)))) pa_nil))))))), body_M h fun ds hd => ?_⟩
  match ds, hd with
  | _, (.bor thing63 .nil) =>
    refine ⟨[.bor thing63, .no], rfl, ?_⟩
    show G K _ _ _ (m_is_carry_row a.c thing63) CF
    unfold m_is_carry_row
    exact (G.ifS (RT.or (RT.not (RT.b (RE.rr (RE.cb isi_c (RAr.cons (RR.bor (d := thing63) rfl) (RAr.cons (RE.rr RE.ty) RAr.nil)))))) (RT.or (RT.test (RE.rr (RE.op ne_d (RE.rr (RE.cb len_c (RAr.cons (RR.bor (d := thing63) rfl) RAr.nil))) (RE.rr RE.int)))) (RT.not (RT.b (RE.rr (RE.callE (RAm.bor (RE.rr (RE.op ix_d (RR.bor (d := thing63) rfl) (RE.rr RE.int))) RAm.nil) rfl)))))) (G.retF (fun _ r => r.1) RE.bl) (G.next (G.one (G.retF (fun _ r => r.1) (RE.andV (RE.isiT (cs := [(D.ty "list"), (D.ty "tuple")]) T.kc (RE.rr (RE.op ix_d (RR.bor (d := thing63) rfl) (RE.rr RE.int))) (fun _ _ _ q => q)) (RE.cb all_c (RAr.cons (RE.rr (RN.re (RN.map (p := .nm 1) (js := [1]) (RI.dat (RE.op ix_d (RR.bor (d := thing63) rfl) (RE.rr RE.int))) (fun _ m => m) (PB.nm fun rule78 P w => CTp.of (RE.callE (RAm.bor (RE.rr (RE.var (d := rule78) rfl)) RAm.nil) rfl) w)))) RAr.nil)))))))
theorem ok_are_carry_rows (T : Tx w K mg a) : FnOk P w K mg base CX0 3 a.f_are_carry_rows a.d_are_carry_rows ["thing"] (spM K [.bor] (l_are_carry_rows a.c)) := by
  refine T.F_are_carry_rows.ok (k := 2) sc_are_carry_rows (fun vs H Q E h => spM_len h) (fun cdv A outer s H vs Q E hr h => ?_)
  refine ⟨_, PSs.nox (pss_cons (ps_if (PW.pt (pw_or (pt_not (pt_val (pe_callB (VB.kIsiT (K := K) rfl) (by rfl) T.n_isinstance (by decide +kernel) (pa_cons (pv 0) (pa_cons (pe_tup (pa_cons (pe_bltn (v := .ty "list") (u := .type "list") (by rfl) T.n_list (by decide +kernel) rfl) (pa_cons (pe_bltn (v := .ty "tuple") (u := .type "tuple") (by rfl) T.n_tuple (by decide +kernel) rfl) pa_nil))) pa_nil))))) (pw_or1 (pt_not (pt_val (pe_callB (VB.kAll (K := K) rfl rfl) (by rfl) T.n_all (by decide +kernel) (pa_cons (pe_lc (own := [("row", 1)]) (g := gName 1) (tt := tYes) rfl sc_are_carry_rows.nd (VB.pi_dat (K := K) rfl (pv 0)) (blkOk_by (N := ["thing", "row", "rule", "rules"]) (sc := defScope s_are_carry_rows) (by decide +kernel)) (fun _ _ _ _ _ => (pg_name (i := 1) sc_are_carry_rows.nd rfl (Or.inl rfl))) (fun _ _ _ _ _ => pts_nil) (fun _ _ _ _ _ => (pe_call (ok_is_carry_row (K := K) T) (hr.mono (by decide)) (by rfl) T.m_is_carry_row T.k_is_carry_row T.b_is_carry_row .nil pass0 (pa_cons (pv 1) pa_nil)))) pa_nil))))))) (pss_one (ps_ret pe_bl)) pss_nil)
    (pss_one (ps_ret (pe_cmpR (VB.op_eqX (K := K) rfl hr.units) (pe_callB (VB.cr_lenX rfl rfl) (by rfl) T.n_len (by decide +kernel) (pa_cons (pe_callTy (VB.cr_setX (K := K) rfl rfl rfl rfl) (by rfl) T.n_set (by decide +kernel) (pa_cons (pe_lc (own := [("rule", 2), ("rules", 3)]) (tt := tYes) rfl sc_are_carry_rows.nd (VB.pi_dat (K := K) rfl (pv 0)) (blkOk_by (N := ["thing", "row", "rule", "rules"]) (sc := defScope s_are_carry_rows) (by decide +kernel)) (fun _ _ _ _ _ => (VB.kTg (K := K) (n := 2) rfl rfl (pgs_cons (pg_name (i := 2) sc_are_carry_rows.nd rfl (Or.inl rfl)) (pgs_cons (pg_name (i := 3) sc_are_carry_rows.nd rfl (Or.inl rfl)) pgs_nil)))) (fun _ _ _ _ _ => pts_nil) (fun _ _ _ _ _ => (pv 2))) pa_nil)) pa_nil)) (pe_callB (VB.kLenA (K := K) rfl) (by rfl) T.n_len (by decide +kernel) (pa_cons (pv 0) pa_nil)) (nomark _))))), body_M h fun ds hd => ?_⟩
  match ds, hd with
  | _, (.bor thing109 .nil) =>
    refine ⟨[.bor thing109, .no, .no, .no], rfl, ?_⟩
    show G K _ _ _ (m_are_carry_rows a.c thing109) CF
    unfold m_are_carry_rows
    exact (G.ifS (RT.or (RT.not (RT.b (RE.rr (RE.isiT (cs := [(D.ty "list"), (D.ty "tuple")]) T.kc (RR.bor (d := thing109) rfl) (fun _ _ _ q => q))))) (RT.not (RT.b (RE.rr (RE.cb all_c (RAr.cons (RE.rr (RN.re (RN.map (p := .nm 1) (js := [1]) (RI.rd (RR.bor (d := thing109) rfl)) (fun _ m => m) (PB.nm fun row111 P w => CTp.of (RE.callE (RAm.bor (RE.rr (RE.var (d := row111) rfl)) RAm.nil) rfl) w)))) RAr.nil)))))) (G.retF (fun _ r => r.1) RE.bl) (G.next (G.one (G.retF (fun _ r => r.1) (RE.op eq_d (RE.rr (RE.lenSet (RE.rr (RN.re (RN.map (p := Pt.two 2 3) (js := [2, 3]) (RI.rd (RR.bor (d := thing109) rfl)) (fun _ m => m) (PB.two fun rule118 rules119 P w => CTp.of (RE.var (d := rule118) rfl) w)))))) (RE.rr (RE.cb lenA_c (RAr.cons (RR.bor (d := thing109) rfl) RAr.nil))))))))
theorem ok_unlisted (T : Tx w K mg a) : FnOk P w K mg base CX0 1 a.f_unlisted a.d_unlisted ["rest", "rule"] (spM K [.bor, .dat] l_unlisted) := by
  refine T.F_unlisted.ok (k := 0) sc_unlisted (fun vs H Q E h => spM_len h) (fun cdv A outer s H vs Q E hr h => ?_)
  refine ⟨_, PSs.nox (pss_one (ps_ret (pe_ifExp (VB.pt_tr (K := K) rfl (pv 0) (by intro _; rfl)) (pe_tup (pa_cons (pv 1) pa_nil)) (pe_tup pa_nil)))), body_M h fun ds hd => ?_⟩
  match ds, hd with
  | _, (.bor rest150 (.dat rule151 .nil)) =>
    refine ⟨[.bor rest150, .dat rule151], rfl, ?_⟩
    show G K _ _ _ (m_unlisted rest150 rule151) CF
    unfold m_unlisted
    exact (G.one (G.retF (fun _ r => r.1) (RE.ifx (RT.truth (RR.bor (d := rest150) rfl)) (RE.tup (RAs.cons (RE.var (d := rule151) rfl) RAs.nil)) (RE.tup RAs.nil))))
theorem okx_Carry_init (T : Tx w K mg a) : FnOk P w K mg base (L2.CX P w) 4 a.f_Carry_init a.d_Carry_init ["self", "rest", "rows"] (spMIX K a.c.Carry [.dat, .bor] (lx_Carry_init a.c)) := by
  refine T.F_Carry_init.ok (k := 3) sc_Carry_init (fun vs H Q E h => spMIX_len h) (fun cdv A outer s H vs Q E hr h => ?_)
  refine ⟨_, (pss_cons (ps_if (PT.nox (pt_not (pt_val (pe_callB (VB.kIsi (K := K) rfl) (by rfl) T.n_isinstance (by decide +kernel) (pa_cons (pv 1) (pa_cons (pe_bltn (v := .ty "bool") (u := .type "bool") (by rfl) T.n_bool (by decide +kernel) rfl) pa_nil)))))) (pss_one (ps_raise rfl (takes_of rfl rfl rfl rfl) (pmk_oex T.er_Wrong.ox T.er_Wrong.ii T.er_Wrong.ti (ok_Wrong_init (K := K) T) (hr.mono (by decide)) T.b_Wrong_init .nil pass0 (by rfl) T.mc_Wrong (pa_cons pe_int pa_nil)))) pss_nil)
    (pss_cons (ps_if (PT.nox (pt_not (pt_val (pe_call (ok_are_carry_rows (K := K) T) (hr.mono (by decide)) (by rfl) T.m_are_carry_rows T.k_are_carry_rows T.b_are_carry_rows .nil pass0 (pa_cons (pv 2) pa_nil))))) (pss_one (ps_raise rfl (takes_of rfl rfl rfl rfl) (pmk_oex T.er_Wrong.ox T.er_Wrong.ii T.er_Wrong.ti (ok_Wrong_init (K := K) T) (hr.mono (by decide)) T.b_Wrong_init .nil pass0 (by rfl) T.mc_Wrong (pa_cons pe_int pa_nil)))) pss_nil)
    (PSs.nox (pss_cons (VB.ps_setDc (i := 3) (own := [("rule", 4), ("rules", 5)]) (tt := tYes) (VB.mt0 false) (VB.room65 hr) rfl sc_Carry_init.nd rfl rfl (VB.sw_trueD rfl rfl rfl (by decide +kernel)) (VB.pi_dat (K := K) rfl (pv 2)) (blkOk_by (N := ["self", "rest", "rows", "listed", "rule", "rules"]) (sc := defScope s_Carry_init) (by decide +kernel)) (fun _ _ _ _ _ => (VB.kTg (K := K) (n := 2) rfl rfl (pgs_cons (pg_name (i := 4) sc_Carry_init.nd rfl (Or.inl rfl)) (pgs_cons (pg_name (i := 5) sc_Carry_init.nd rfl (Or.inl rfl)) pgs_nil)))) (fun _ _ _ _ _ => pts_nil) (fun _ _ _ _ _ => (pv 4)) (fun _ _ _ _ _ => (pe_callTy (VB.kTup (K := K) rfl) (by rfl) T.n_tuple (by decide +kernel) (pa_cons (pe_callB (VB.cr_sortedX rfl rfl rfl) (by rfl) T.n_sorted (by decide +kernel) (pa_cons (pe_callTy (VB.cr_setX (K := K) rfl rfl rfl rfl) (by rfl) T.n_set (by decide +kernel) (pa_cons (pv 5) pa_nil)) pa_nil)) pa_nil))))
    (pss_cons (ps_fld (pv 0) (pv 1) rfl)
    (pss_one (ps_fld (pv 0) (VB.pe_lockX (VB.pe_dcA (own := [("rule", 4), ("rules", 5)]) (VB.mt0 false) (VB.room65 hr) rfl sc_Carry_init.nd (VB.pi_itR (pv 3)) (blkOk_by (N := ["self", "rest", "rows", "listed", "rule", "rules"]) (sc := defScope s_Carry_init) (by decide +kernel)) (fun _ _ _ _ _ => (VB.kTg (K := K) (n := 2) rfl rfl (pgs_cons (pg_name (i := 4) sc_Carry_init.nd rfl (Or.inl rfl)) (pgs_cons (pg_name (i := 5) sc_Carry_init.nd rfl (Or.inl rfl)) pgs_nil)))) (fun _ _ _ _ _ => pts_one (pt_cmpR (VB.op_neX (K := K) rfl hr.units) (pv 5) (pe_call (ok_unlisted (K := K) T) (hr.mono (by decide)) (by rfl) T.m_unlisted T.k_unlisted T.b_unlisted .nil pass0 (pa_cons (pv 1) (pa_cons (pv 4) pa_nil))) (nomark _))) (fun _ _ _ _ _ => (pv 4)) (fun _ _ _ _ _ => (pv 5)))) rfl))))))), body_MIX h (by decide) fun ds x hd => ?_⟩
  match ds, hd with
  | _, (.dat rest178 (.bor rows179 .nil)) =>
    refine ⟨[.own ⟨some x, (D.ins a.c.Carry [] [])⟩, .dat rest178, .bor rows179, .no, .no, .no], rfl, ?_⟩
    show GX K _ E _ _ (mx_Carry_init a.c rest178 rows179) (CI x)
    unfold mx_Carry_init
    exact (GX.ifRaise T.er_Wrong.ox T.er_Wrong.nf (RT.not (RT.b (RE.rr (RE.cb isi_c (RAr.cons (RE.rr (RE.var (d := rest178) rfl)) (RAr.cons (RE.rr RE.ty) RAr.nil)))))) RE.int (GX.ifRaise T.er_Wrong.ox T.er_Wrong.nf (RT.not (RT.b (RE.rr (RE.callE (RAm.bor (RR.bor (d := rows179) rfl) RAm.nil) rfl)))) RE.int (GX.of (G.asg (RN.re (RN.dc (kd := false) (p := Pt.two 4 5) (js := [4, 5]) (RI.rd (RR.bor (d := rows179) rfl)) (fun _ m => m) (PB.two fun rule214 rules215 P w => DT1.plain (RE.var (d := rule214) rfl) (RE.cb tup_c (RAr.cons (RE.rr (RN.re (RN.sortedSet (RE.rr (RE.var (d := rules215) rfl))))) RAr.nil)) w))) (fun listed212 => (G.fld (i := 0) (d := (D.ins a.c.Carry [] [])) T.c_Carry.cl T.na_Carry_kept_rest rfl (RE.var (d := rest178) rfl) (fun self222 => (G.one (G.fld (i := 0) (d := self222) T.c_Carry.cl T.na_Carry_kept_rules rfl (RN.re (RN.lock (i := 3) rfl (fun w => dcw w) (RNL.dc (RN.dc (kd := false) (p := Pt.two 4 5) (js := [4, 5]) (RI.tf (RI.itR (i := 3) rfl)) (fun _ m => m) (PB.two fun rule223 rules224 P w => DT1.test (RT.test (RE.rr (RE.op ne_d (RE.rr (RE.var (d := rules224) rfl)) (RE.rr (RE.callE (RAm.bor (RE.rr (RE.var (d := rest178) rfl)) (RAm.dat (RE.var (d := rule223) rfl) RAm.nil)) rfl))))) (RE.var (d := rule223) rfl) (RE.var (d := rules224) rfl) w))))) (fun self235 => (G.finI rfl)))))))))))
theorem ok_Carry_rest (T : Tx w K mg a) : FnOk P w K mg base CX0 1 a.f_Carry_rest a.d_Carry_rest ["self"] (spM K [.bor] (l_Carry_rest a.c)) := by
  refine T.F_Carry_rest.ok (k := 0) sc_Carry_rest (fun vs H Q E h => spM_len h) (fun cdv A outer s H vs Q E hr h => ?_)
  refine ⟨_, PSs.nox (pss_one (ps_ret (VB.kFld (K := K) rfl (by exact (pv 0)) (by rfl)))), body_M h fun ds hd => ?_⟩
  match ds, hd with
  | _, (.bor self262 .nil) =>
    refine ⟨[.bor self262], rfl, ?_⟩
    show G K _ _ _ (m_Carry_rest a.c self262) CF
    unfold m_Carry_rest
    exact (G.one (G.retF (fun _ r => r.1) (RE.fld T.c_Carry.cl T.na_Carry_kept_rest (RR.bor (d := self262) rfl))))
theorem ok_Carry_carried (T : Tx w K mg a) : FnOk P w K mg base CX0 2 a.f_Carry_carried a.d_Carry_carried ["self", "rule"] (spMN K [.bor, .dat] (l_Carry_carried a.c)) := by
  refine T.F_Carry_carried.ok (k := 1) sc_Carry_carried (fun vs H Q E h => spMN_len h) (fun cdv A outer s H vs Q E hr h => ?_)
  refine ⟨_, PSs.nox (pss_one (ps_ret (pe_callTy (VB.kLstA (K := K) rfl rfl) (by rfl) T.n_list (by decide +kernel) (pa_cons (VB.kGet2 (VB.room65 hr) (VB.kFld (K := K) rfl (by exact (pv 0)) (by rfl)) (pv 1) (pe_call (ok_unlisted (K := K) T) (hr.mono (by decide)) (by rfl) T.m_unlisted T.k_unlisted T.b_unlisted .nil pass0 (pa_cons (VB.kFld (K := K) rfl (by exact (pv 0)) (by rfl)) (pa_cons (pv 1) pa_nil))) ⟨by rfl, by rfl, by rfl, by rfl⟩) pa_nil)))), body_MN h fun ds hd => ?_⟩
  match ds, hd with
  | _, (.bor self265 (.dat rule266 .nil)) =>
    refine ⟨[.bor self265, .dat rule266], rfl, ?_⟩
    show G K _ _ _ (m_Carry_carried a.c self265 rule266) CF
    unfold m_Carry_carried
    exact (G.one (G.retFN (fun _ r => r) (RN.cb lstA_c (RAr.cons (RE.rr (RE.get2 (RE.rr (RE.fld T.c_Carry.cl T.na_Carry_kept_rules (RR.bor (d := self265) rfl))) (RE.rr (RE.var (d := rule266) rfl)) (RE.callE (RAm.bor (RE.rr (RE.fld T.c_Carry.cl T.na_Carry_kept_rest (RR.bor (d := self265) rfl))) (RAm.dat (RE.var (d := rule266) rfl) RAm.nil)) rfl))) RAr.nil))))
theorem ok_is_span (T : Tx w K mg a) : FnOk P w K mg base CX0 3 a.f_is_span a.d_is_span ["thing"] (spM K [.bor] l_is_span) := by
  refine T.F_is_span.ok (k := 2) sc_is_span (fun vs H Q E h => spM_len h) (fun cdv A outer s H vs Q E hr h => ?_)
  refine ⟨_, PSs.nox (pss_one (ps_ret (pe_and (pe_callB (VB.kIsi (K := K) rfl) (by rfl) T.n_isinstance (by decide +kernel) (pa_cons (pv 0) (pa_cons (pe_bltn (v := .ty "tuple") (u := .type "tuple") (by rfl) T.n_tuple (by decide +kernel) rfl) pa_nil))) (pe_and (pe_cmpR (VB.op_eqX (K := K) rfl hr.units) (pe_callB (VB.kLen (K := K) rfl) (by rfl) T.n_len (by decide +kernel) (pa_cons (pv 0) pa_nil)) pe_int (nomark _)) (pe_and (pe_call (ok_is_day (K := K) T) (hr.mono (by decide)) (by rfl) T.m_is_day T.k_is_day T.b_is_day .nil pass0 (pa_cons (pe_ix (VB.ixX (K := K) rfl) (pv 0) pe_int (fun _ _ => rfl)) pa_nil)) (pe_one (pe_call (ok_is_day (K := K) T) (hr.mono (by decide)) (by rfl) T.m_is_day T.k_is_day T.b_is_day .nil pass0 (pa_cons (pe_ix (VB.ixX (K := K) rfl) (pv 0) pe_int (fun _ _ => rfl)) pa_nil)))))))), body_M h fun ds hd => ?_⟩
  match ds, hd with
  | _, (.bor thing291 .nil) =>
    refine ⟨[.bor thing291], rfl, ?_⟩
    show G K _ _ _ (m_is_span thing291) CF
    unfold m_is_span
    exact (G.one (G.retF (fun _ r => r.1) (RE.andV (RE.cb isi_c (RAr.cons (RR.bor (d := thing291) rfl) (RAr.cons (RE.rr RE.ty) RAr.nil))) (RE.andV (RE.op eq_d (RE.rr (RE.cb len_c (RAr.cons (RR.bor (d := thing291) rfl) RAr.nil))) (RE.rr RE.int)) (RE.andV (RE.callE (RAm.bor (RE.rr (RE.op ix_d (RR.bor (d := thing291) rfl) (RE.rr RE.int))) RAm.nil) rfl) (RE.callE (RAm.bor (RE.rr (RE.op ix_d (RR.bor (d := thing291) rfl) (RE.rr RE.int))) RAm.nil) rfl))))))
theorem ok_fewest_spans (T : Tx w K mg a) : FnOk P w K mg base CX0 1 a.f_fewest_spans a.d_fewest_spans ["spans"] (spMN K [.bor] l_fewest_spans) := by
  refine T.F_fewest_spans.ok (k := 0) sc_fewest_spans (fun vs H Q E h => spMN_len h) (fun cdv A outer s H vs Q E hr h => ?_)
  refine ⟨_, PSs.nox (pss_cons (ps_set (i := 1) sc_fewest_spans.nd rfl (Or.inl rfl) (pe_lst pa_nil))
    (pss_cons (ps_for PassesOwn.never rfl (VB.pi_dat (K := K) rfl (pe_callB (VB.cr_sortA (K := K) rfl hr.units) (by rfl) T.n_sorted (by decide +kernel) (pa_cons (pv 0) pa_nil))) (VB.kTg (K := K) (n := 2) rfl rfl (pgs_cons (pg_name (i := 2) sc_fewest_spans.nd rfl (Or.inl rfl)) (pgs_cons (pg_name (i := 3) sc_fewest_spans.nd rfl (Or.inl rfl)) pgs_nil)))
      (pss_cons (ps_if (pt_cmpR VB.op_gtX (pv 2) (pv 3) (nomark _)) (pss_one ps_continue) pss_nil)
    (pss_one (ps_if (PW.pt (pw_and (pt_cmpR (VB.op_neX (K := K) rfl hr.units) (pv 1) (pe_lst pa_nil) (nomark _)) (pw_and1 (pt_cmpR VB.op_leX (pv 2) (pe_op (VB.op_addX (K := K) rfl) (pe_ix (VB.ixX (K := K) rfl) (pe_ix (VB.ixX (K := K) rfl) (pv 1) (pe_un un_neg pe_int) (fun _ _ => rfl)) pe_int (fun _ _ => rfl)) pe_int) (nomark _))))) (pss_one (ps_asg (pe_tup (pa_cons (pe_ix (VB.ixX (K := K) rfl) (pe_ix (VB.ixX (K := K) rfl) (pv 1) (pe_un un_neg pe_int) (fun _ _ => rfl)) pe_int (fun _ _ => rfl)) (pa_cons (pe_callB (call_max2 rfl) (by rfl) T.n_max (by decide +kernel) (pa_cons (pe_ix (VB.ixX (K := K) rfl) (pe_ix (VB.ixX (K := K) rfl) (pv 1) (pe_un un_neg pe_int) (fun _ _ => rfl)) pe_int (fun _ _ => rfl)) (pa_cons (pv 3) pa_nil))) pa_nil))) (pg_sub (pv 1) (pe_un un_neg pe_int) set_list))) (pss_one (ps_expr (pe_bm PySem.F.plainAttrs_list PySem.F.slot_list_append PySem.F.type_list_append mt_append (pv 1) (pa_cons (pe_tup (pa_cons (pv 2) (pa_cons (pv 3) pa_nil))) pa_nil))))))))
    (pss_one (ps_ret (pv 1))))), body_MN h fun ds hd => ?_⟩
  match ds, hd with
  | _, (.bor spans314 .nil) =>
    refine ⟨[.bor spans314, .no, .no, .no], rfl, ?_⟩
    show G K _ _ _ (m_fewest_spans spans314) CF
    unfold m_fewest_spans
    exact (G.asgO (RN.lst RAs.nil) (fun found315 => (G.forP (embL := fun s319 : D => [.bor spans314, .own ⟨none, s319⟩, .no, .no]) (s0 := found315) (p := Pt.two 2 3) (fun _ r => r) (RI.dat (RN.re (RN.cb sortA_c (RAr.cons (RR.bor (d := spans314) rfl) RAr.nil)))) (.same _ (.same _ (.same _ (.same _ .nil)))) (fun s318 => PB.two fun begin320 end321 P w => LTp.of (by exact (G.ifS (RT.test (RE.rr (RE.op gt_d (RE.rr (RE.var (d := begin320) rfl)) (RE.rr (RE.var (d := end321) rfl))))) (by exact (G.contP (.same _ (.same _ (.drop _ (.drop _ .nil)))))) (by exact (G.next (G.one (G.ifS (RT.and (RT.test (RE.rr (RE.op ne_d (RR.own (d := s318) rfl) (RE.rr (RN.re (RN.lst RAs.nil)))))) (RT.test (RE.rr (RE.op le_d (RE.rr (RE.var (d := begin320) rfl)) (RE.rr (RE.op add_d (RE.rr (RE.op ix_d (RE.rr (RE.op ix_d (RR.own (d := s318) rfl) (RE.rr RE.negC))) (RE.rr RE.int))) (RE.rr RE.int))))))) (by exact (G.item2 (i := 1) (d := s318) rfl (RE.tup (RAs.cons (RE.op ix_d (RE.rr (RE.op ix_d (RR.own (d := s318) rfl) (RE.rr RE.negC))) (RE.rr RE.int)) (RAs.cons (RE.cb max2_c (RAr.cons (RE.rr (RE.op ix_d (RE.rr (RE.op ix_d (RR.own (d := s318) rfl) (RE.rr RE.negC))) (RE.rr RE.int))) (RAr.cons (RE.rr (RE.var (d := end321) rfl)) RAr.nil))) RAs.nil))) RE.negC (fun found351 => (G.finP (.same _ (.same _ (.drop _ (.drop _ .nil)))))))) (by exact (G.app2 (i := 1) (d := s318) rfl (RE.tup (RAs.cons (RE.var (d := begin320) rfl) (RAs.cons (RE.var (d := end321) rfl) RAs.nil))) (fun found357 => (G.finP (.same _ (.same _ (.drop _ (.drop _ .nil)))))))))))))) w) (fun s324 => (G.one (G.retFO (i := 1) (d := s324) (fun _ r => r) rfl))))))
theorem okx_Days_init (T : Tx w K mg a) : FnOk P w K mg base (L2.CX P w) 4 a.f_Days_init a.d_Days_init ["self", "spans"] (spMIX K a.c.Days [.bor] (lx_Days_init a.c)) := by
  refine T.F_Days_init.ok (k := 3) sc_Days_init (fun vs H Q E h => spMIX_len h) (fun cdv A outer s H vs Q E hr h => ?_)
  refine ⟨_, (pss_cons (ps_if (PT.nox (PW.pt (pw_or (pt_not (pt_val (pe_callB (VB.kIsiT (K := K) rfl) (by rfl) T.n_isinstance (by decide +kernel) (pa_cons (pv 1) (pa_cons (pe_tup (pa_cons (pe_bltn (v := .ty "list") (u := .type "list") (by rfl) T.n_list (by decide +kernel) rfl) (pa_cons (pe_bltn (v := .ty "tuple") (u := .type "tuple") (by rfl) T.n_tuple (by decide +kernel) rfl) pa_nil))) pa_nil))))) (pw_or1 (pt_not (pt_val (pe_callB (VB.kAll (K := K) rfl rfl) (by rfl) T.n_all (by decide +kernel) (pa_cons (pe_lc (own := [("span", 2)]) (g := gName 2) (tt := tYes) rfl sc_Days_init.nd (VB.pi_dat (K := K) rfl (pv 1)) (blkOk_by (N := ["self", "spans", "span"]) (sc := defScope s_Days_init) (by decide +kernel)) (fun _ _ _ _ _ => (pg_name (i := 2) sc_Days_init.nd rfl (Or.inl rfl))) (fun _ _ _ _ _ => pts_nil) (fun _ _ _ _ _ => (pe_call (ok_is_span (K := K) T) (hr.mono (by decide)) (by rfl) T.m_is_span T.k_is_span T.b_is_span .nil pass0 (pa_cons (pv 2) pa_nil)))) pa_nil)))))))) (pss_one (ps_raise rfl (takes_of rfl rfl rfl rfl) (pmk_oex T.er_Wrong.ox T.er_Wrong.ii T.er_Wrong.ti (ok_Wrong_init (K := K) T) (hr.mono (by decide)) T.b_Wrong_init .nil pass0 (by rfl) T.mc_Wrong (pa_cons pe_int pa_nil)))) pss_nil)
    (PSs.nox (pss_one (ps_fld (pv 0) (pe_call (ok_fewest_spans (K := K) T) (hr.mono (by decide)) (by rfl) T.m_fewest_spans T.k_fewest_spans T.b_fewest_spans .nil pass0 (pa_cons (pv 1) pa_nil)) rfl)))), body_MIX h (by decide) fun ds x hd => ?_⟩
  match ds, hd with
  | _, (.bor spans391 .nil) =>
    refine ⟨[.own ⟨some x, (D.ins a.c.Days [] [])⟩, .bor spans391, .no], rfl, ?_⟩
    show GX K _ E _ _ (mx_Days_init a.c spans391) (CI x)
    unfold mx_Days_init
    exact (GX.ifRaise T.er_Wrong.ox T.er_Wrong.nf (RT.or (RT.not (RT.b (RE.rr (RE.isiT (cs := [(D.ty "list"), (D.ty "tuple")]) T.kc (RR.bor (d := spans391) rfl) (fun _ _ _ q => q))))) (RT.not (RT.b (RE.rr (RE.cb all_c (RAr.cons (RE.rr (RN.re (RN.map (p := .nm 2) (js := [2]) (RI.rd (RR.bor (d := spans391) rfl)) (fun _ m => m) (PB.nm fun span403 P w => CTp.of (RE.callE (RAm.bor (RE.rr (RE.var (d := span403) rfl)) RAm.nil) rfl) w)))) RAr.nil)))))) RE.int (GX.of (G.one (G.fld (i := 0) (d := (D.ins a.c.Days [] [])) T.c_Days.cl T.na_Days_kept_spans rfl (RN.re (RN.callE (RAm.bor (RR.bor (d := spans391) rfl) RAm.nil) rfl)) (fun self410 => (G.finI rfl))))))
theorem ok_Days_contains (T : Tx w K mg a) : FnOk P w K mg base CX0 1 a.f_Days_contains a.d_Days_contains ["self", "day"] (spM K [.bor, .bor] (l_Days_contains a.c)) := by
  refine T.F_Days_contains.ok (k := 0) sc_Days_contains (fun vs H Q E h => spM_len h) (fun cdv A outer s H vs Q E hr h => ?_)
  refine ⟨_, PSs.nox (pss_one (ps_ret (pe_callB (VB.kAny (K := K) rfl rfl) (by rfl) T.n_any (by decide +kernel) (pa_cons (pe_lc (own := [("begin", 2), ("end", 3)]) (tt := tYes) rfl sc_Days_contains.nd (VB.pi_dat (K := K) rfl (VB.kFld (K := K) rfl (by exact (pv 0)) (by rfl))) (blkOk_by (N := ["self", "day", "begin", "end"]) (sc := defScope s_Days_contains) (by decide +kernel)) (fun _ _ _ _ _ => (VB.kTg (K := K) (n := 2) rfl rfl (pgs_cons (pg_name (i := 2) sc_Days_contains.nd rfl (Or.inl rfl)) (pgs_cons (pg_name (i := 3) sc_Days_contains.nd rfl (Or.inl rfl)) pgs_nil)))) (fun _ _ _ _ _ => pts_nil) (fun _ _ _ _ _ => (pe_chain VB.op_leX VB.op_leX (pv 2) (pv 1) (pv 3)))) pa_nil)))), body_M h fun ds hd => ?_⟩
  match ds, hd with
  | _, (.bor self420 (.bor day421 .nil)) =>
    refine ⟨[.bor self420, .bor day421, .no, .no], rfl, ?_⟩
    show G K _ _ _ (m_Days_contains a.c self420 day421) CF
    unfold m_Days_contains
    exact (G.one (G.retF (fun _ r => r.1) (RE.cb any_c (RAr.cons (RE.rr (RN.re (RN.map (p := Pt.two 2 3) (js := [2, 3]) (RI.dat (RE.fld T.c_Days.cl T.na_Days_kept_spans (RR.bor (d := self420) rfl))) (fun _ m => m) (PB.two fun begin423 end424 P w => CTp.of (RE.chain le_d le_d (RE.rr (RE.var (d := begin423) rfl)) (RR.bor (d := day421) rfl) (RE.rr (RE.var (d := end424) rfl))) w)))) RAr.nil))))
theorem ok_law_mixed (T : Tx w K mg a) : FnOk P w K mg base CX0 2 a.f_law_mixed a.d_law_mixed ["_law_bag_here", "_law_things"] (spMN K [.bag, .bor] l_law_mixed) := by
  refine T.F_law_mixed.ok (k := 1) sc_law_mixed (fun vs H Q E h => spMN_len h) (fun cdv A outer s H vs Q E hr h => ?_)
  refine ⟨_, PSs.nox (pss_cons (ps_set (i := 2) sc_law_mixed.nd rfl (Or.inl rfl) (pe_lst pa_nil))
    (pss_cons (ps_for PassesOwn.never rfl (VB.pi_dat (K := K) rfl (pv 1)) (pg_name (i := 3) sc_law_mixed.nd rfl (Or.inl rfl))
      (pss_one (ps_expr (pe_bm PySem.F.plainAttrs_list PySem.F.slot_list_insert PySem.F.type_list_insert mt_insert (pv 2) (pa_cons (pe_call (ok_law_take (K := K) T) (hr.mono (by decide)) (by rfl) T.m_law_take T.k_law_take T.b_law_take .nil pass0 (pa_cons (pv 0) (pa_cons (pe_op (VB.op_addX (K := K) rfl) (pe_callB (VB.kLen (K := K) rfl) (by rfl) T.n_len (by decide +kernel) (pa_cons (pv 2) pa_nil)) pe_int) pa_nil))) (pa_cons (pv 3) pa_nil))))))
    (pss_one (ps_ret (pv 2))))), body_MN h fun ds hd => ?_⟩
  match ds, hd with
  | _, (.bag b436 (.bor things437 .nil)) =>
    refine ⟨[.bag b436, .bor things437, .no, .no], rfl, ?_⟩
    show G K _ _ _ (m_law_mixed things437) CF
    unfold m_law_mixed
    exact (G.asgO (RN.lst RAs.nil) (fun found438 => (G.forP (embL := fun s441 : D => [.bag b436, .bor things437, .own ⟨none, s441⟩, .no]) (s0 := found438) (p := .nm 3) (fun _ r => r) (RI.bor (d := things437) rfl) (.same _ (.same _ (.same _ (.same _ .nil)))) (fun s440 => PB.nm fun thing442 P w => LTp.of (by exact (G.one (G.ins (i := 2) (d := s440) rfl (RAs.cons (RE.take (i := 0) rfl (RE.op add_d (RE.rr (RE.cb len_c (RAr.cons (RR.own (d := s440) rfl) RAr.nil))) (RE.rr RE.int))) (RAs.cons (RE.var (d := thing442) rfl) RAs.nil)) (fun found445 => (G.finP (.same _ (.same _ (.same _ (.drop _ .nil))))))))) w) (fun s444 => (G.one (G.retFO (i := 2) (d := s444) (fun _ r => r) rfl))))))
end K28
namespace K28
open PySem PySem.Spec PyProof.Rows L2 VB
variable {P : Program} {w : World} {K : PySem.W.Frag} {mg : Str → Option Value} {base : Heap} {a : Ad}
theorem ok_law_labels (T : Tx w K mg a) : FnOk P w K mg base CX0 2 a.f_law_labels a.d_law_labels ["_law_bag_here", "_law_many"] (spM K [.bag, .dat] l_law_labels) := by
  refine T.F_law_labels.ok (k := 1) sc_law_labels (fun vs H Q E h => spM_len h) (fun cdv A outer s H vs Q E hr h => ?_)
  refine ⟨_, PSs.nox (pss_cons (ps_set (i := 2) sc_law_labels.nd rfl (Or.inr rfl) pe_str)
    (pss_cons (ps_set (i := 3) sc_law_labels.nd rfl (Or.inl rfl) pe_str)
    (pss_cons (ps_set (i := 3) sc_law_labels.nd rfl (Or.inl rfl) (VB.kSplit (pe_op (VB.op_addX (K := K) rfl) (pv 3) pe_str) pe_str))
    (pss_cons (ps_asg (pe_tup (pa_cons (pe_call (ok_law_take (K := K) T) (hr.mono (by decide)) (by rfl) T.m_law_take T.k_law_take T.b_law_take .nil pass0 (pa_cons (pv 0) (pa_cons pe_int pa_nil))) (pa_cons (pe_call (ok_law_take (K := K) T) (hr.mono (by decide)) (by rfl) T.m_law_take T.k_law_take T.b_law_take .nil pass0 (pa_cons (pv 0) (pa_cons pe_int pa_nil))) pa_nil))) (VB.kTg (K := K) (n := 2) rfl rfl (pgs_cons (pg_name (i := 4) sc_law_labels.nd rfl (Or.inl rfl)) (pgs_cons (pg_name (i := 5) sc_law_labels.nd rfl (Or.inr rfl)) pgs_nil))))
    (pss_cons (ps_set (i := 6) sc_law_labels.nd rfl (Or.inr rfl) (VB.kJoin (K := K) rfl pe_str (pe_lc (own := [("_law_k", 10)]) (g := gName 10) (tt := tYes) rfl sc_law_labels.nd (pi_range1 rfl T.n_range (pa_cons (pe_op (VB.op_addX (K := K) rfl) pe_int (pe_call (ok_law_take (K := K) T) (hr.mono (by decide)) (by rfl) T.m_law_take T.k_law_take T.b_law_take .nil pass0 (pa_cons (pv 0) (pa_cons pe_int pa_nil)))) pa_nil)) (blkOk_by (N := ["_law_bag_here", "_law_many", "_law_letters", "_law_words", "_law_way", "_law_turn", "_law_base", "_law_at", "_law_far", "_law_some", "_law_k"]) (sc := defScope s_law_labels) (by decide +kernel)) (fun _ _ _ _ _ => (pg_name (i := 10) sc_law_labels.nd rfl (Or.inl rfl))) (fun _ _ _ _ _ => pts_nil) (fun _ _ _ _ _ => (pe_ix (VB.ixX (K := K) rfl) (pv 2) (pe_call (ok_law_take (K := K) T) (hr.mono (by decide)) (by rfl) T.m_law_take T.k_law_take T.b_law_take .nil pass0 (pa_cons (pv 0) (pa_cons pe_int pa_nil))) (fun _ _ => rfl))))))
    (pss_cons (ps_asg (pe_tup (pa_cons (pe_call (ok_law_take (K := K) T) (hr.mono (by decide)) (by rfl) T.m_law_take T.k_law_take T.b_law_take .nil pass0 (pa_cons (pv 0) (pa_cons (pe_op (VB.op_addX (K := K) rfl) (pe_callB (VB.kLen (K := K) rfl) (by rfl) T.n_len (by decide +kernel) (pa_cons (pv 6) pa_nil)) pe_int) pa_nil))) (pa_cons (pe_op op_fdivW (pv 4) pe_int) pa_nil))) (VB.kTg (K := K) (n := 2) rfl rfl (pgs_cons (pg_name (i := 7) sc_law_labels.nd rfl (Or.inr rfl)) (pgs_cons (pg_name (i := 8) sc_law_labels.nd rfl (Or.inr rfl)) pgs_nil))))
    (pss_cons (ps_if (pt_cmpR (VB.op_eqX (K := K) rfl hr.units) (pv 4) pe_int (nomark _)) (pss_one (ps_ret (pe_slice (VB.slX (K := K) rfl) (pe_op (VB.op_addX (K := K) rfl) (pe_slice (VB.slX (K := K) rfl) (pv 3) (po_some (pv 5)) po_none) (pe_slice (VB.slX (K := K) rfl) (pv 3) po_none (po_some (pv 5)))) po_none (po_some (pv 1))))) pss_nil)
    (pss_cons (ps_set (i := 9) sc_law_labels.nd rfl (Or.inr rfl) (pe_lc (own := [("_law_k", 10)]) (g := gName 10) (tt := tYes) rfl sc_law_labels.nd (pi_range1 rfl T.n_range (pa_cons (pv 1) pa_nil)) (blkOk_by (N := ["_law_bag_here", "_law_many", "_law_letters", "_law_words", "_law_way", "_law_turn", "_law_base", "_law_at", "_law_far", "_law_some", "_law_k"]) (sc := defScope s_law_labels) (by decide +kernel)) (fun _ _ _ _ _ => (pg_name (i := 10) sc_law_labels.nd rfl (Or.inl rfl))) (fun _ _ _ _ _ => pts_nil) (fun _ _ _ _ _ => (pe_op (VB.op_mulX (K := K) rfl) (pe_ix (VB.ixX (K := K) rfl) (pv 2) (pe_op op_mod (pe_callTy call_int1 (by rfl) T.n_int (by decide +kernel) (pa_cons (pe_op (VB.op_addX (K := K) rfl) (pv 5) (pe_ix (VB.ixX (K := K) rfl) (pe_lst (pa_cons (pe_op (VB.op_mulX (K := K) rfl) pe_int (pv 10)) (pa_cons (pe_op op_fdivW (pv 10) pe_int) pa_nil))) (pv 8) (fun _ _ => rfl))) pa_nil)) pe_int) (fun _ _ => rfl)) (pe_op (VB.op_addX (K := K) rfl) pe_int (pe_op (VB.op_mulX (K := K) rfl) (pe_op op_mod (pe_callTy call_int1 (by rfl) T.n_int (by decide +kernel) (pa_cons (pv 10) pa_nil)) pe_int) (pv 8)))))))
    (pss_cons (ps_set (i := 6) sc_law_labels.nd rfl (Or.inr rfl) (pe_op (VB.op_mulX (K := K) rfl) (pv 6) (pe_callTy call_int1 (by rfl) T.n_int (by decide +kernel) (pa_cons (pe_cmpR (VB.op_eqX (K := K) rfl hr.units) (pv 4) pe_int (nomark _)) pa_nil))))
    (pss_one (ps_ret (pe_lc (own := [("_law_k", 10)]) (g := gName 10) (tt := tYes) rfl sc_law_labels.nd (pi_range1 rfl T.n_range (pa_cons (pv 1) pa_nil)) (blkOk_by (N := ["_law_bag_here", "_law_many", "_law_letters", "_law_words", "_law_way", "_law_turn", "_law_base", "_law_at", "_law_far", "_law_some", "_law_k"]) (sc := defScope s_law_labels) (by decide +kernel)) (fun _ _ _ _ _ => (pg_name (i := 10) sc_law_labels.nd rfl (Or.inl rfl))) (fun _ _ _ _ _ => pts_nil) (fun _ _ _ _ _ => (pe_op (VB.op_addX (K := K) rfl) (pe_op (VB.op_addX (K := K) rfl) (pe_slice (VB.slX (K := K) rfl) (pv 6) po_none (po_some (pv 7))) (pe_ix (VB.ixX (K := K) rfl) (pv 9) (pv 10) (fun _ _ => rfl))) (pe_slice (VB.slX (K := K) rfl) (pv 6) (po_some (pv 7)) po_none))))))))))))))), body_M h fun ds hd => ?_⟩
  match ds, hd with
  | _, (.bag b561 (.dat many562 .nil)) =>
    refine ⟨[.bag b561, .dat many562, .no, .no, .no, .no, .no, .no, .no, .no, .no], rfl, ?_⟩
    show G K _ _ _ (m_law_labels many562) CF
    unfold m_law_labels
    exact (G.asg RE.str (fun letters563 => (G.asg RE.str (fun words564 => (G.asg (RE.split (RE.rr (RE.op add_d (RE.rr (RE.var (d := words564) rfl)) (RE.rr RE.str))) (RE.rr RE.str)) (fun words565 => (G.unp (p := Pt.two 4 5) (RE.tup (RAs.cons (RE.take (i := 0) rfl RE.int) (RAs.cons (RE.take (i := 0) rfl RE.int) RAs.nil))) (PB.two fun way572 turn573 P w => unp_of (by exact (G.asg (RE.join (RE.rr RE.str) (RE.rr (RN.re (RN.map (p := .nm 10) (js := [10]) (RI.rng1 (RAr.cons (RE.rr (RE.op add_d (RE.rr RE.int) (RE.rr (RE.take (i := 0) rfl RE.int)))) RAr.nil)) (fun _ m => m) (PB.nm fun k579 P w => CTp.of (RE.op ix_d (RE.rr (RE.var (d := letters563) rfl)) (RE.rr (RE.take (i := 0) rfl RE.int))) w))))) (fun base575 => (G.unp (p := Pt.two 7 8) (RE.tup (RAs.cons (RE.take (i := 0) rfl (RE.op add_d (RE.rr (RE.cb len_c (RAr.cons (RE.rr (RE.var (d := base575) rfl)) RAr.nil))) (RE.rr RE.int))) (RAs.cons (RE.op fdiv_d (RE.rr (RE.var (d := way572) rfl)) (RE.rr RE.int)) RAs.nil))) (PB.two fun at593 far594 P w => unp_of (by exact (G.ifS (RT.test (RE.rr (RE.op eq_d (RE.rr (RE.var (d := way572) rfl)) (RE.rr RE.int)))) (G.retF (fun _ r => r.1) (RE.sl sl_d (RE.rr (RE.op add_d (RE.rr (RE.sl sl_d (RE.rr (RE.var (d := words565) rfl)) (RO.some (RE.var (d := turn573) rfl)) RO.none)) (RE.rr (RE.sl sl_d (RE.rr (RE.var (d := words565) rfl)) RO.none (RO.some (RE.var (d := turn573) rfl)))))) RO.none (RO.some (RE.var (d := many562) rfl)))) (G.next (G.asg (RN.re (RN.map (p := .nm 10) (js := [10]) (RI.rng1 (RAr.cons (RE.rr (RE.var (d := many562) rfl)) RAr.nil)) (fun _ m => m) (PB.nm fun k618 P w => CTp.of (RE.op mul_d (RE.rr (RE.op ix_d (RE.rr (RE.var (d := letters563) rfl)) (RE.rr (RE.op mod_d (RE.rr (RE.cb int_c (RAr.cons (RE.rr (RE.op add_d (RE.rr (RE.var (d := turn573) rfl)) (RE.rr (RE.op ix_d (RE.rr (RN.re (RN.lst (RAs.cons (RE.op mul_d (RE.rr RE.int) (RE.rr (RE.var (d := k618) rfl))) (RAs.cons (RE.op fdiv_d (RE.rr (RE.var (d := k618) rfl)) (RE.rr RE.int)) RAs.nil))))) (RE.rr (RE.var (d := far594) rfl)))))) RAr.nil))) (RE.rr RE.int))))) (RE.rr (RE.op add_d (RE.rr RE.int) (RE.rr (RE.op mul_d (RE.rr (RE.op mod_d (RE.rr (RE.cb int_c (RAr.cons (RE.rr (RE.var (d := k618) rfl)) RAr.nil))) (RE.rr RE.int))) (RE.rr (RE.var (d := far594) rfl))))))) w))) (fun some616 => (G.asg (RE.op mul_d (RE.rr (RE.var (d := base575) rfl)) (RE.rr (RE.cb int_c (RAr.cons (RE.rr (RE.op eq_d (RE.rr (RE.var (d := way572) rfl)) (RE.rr RE.int))) RAr.nil)))) (fun base645 => (G.one (G.retF (fun _ r => r.1) (RN.re (RN.map (p := .nm 10) (js := [10]) (RI.rng1 (RAr.cons (RE.rr (RE.var (d := many562) rfl)) RAr.nil)) (fun _ m => m) (PB.nm fun k652 P w => CTp.of (RE.op add_d (RE.rr (RE.op add_d (RE.rr (RE.sl sl_d (RE.rr (RE.var (d := base645) rfl)) RO.none (RO.some (RE.var (d := at593) rfl)))) (RE.rr (RE.op ix_d (RE.rr (RE.var (d := some616) rfl)) (RE.rr (RE.var (d := k652) rfl)))))) (RE.rr (RE.sl sl_d (RE.rr (RE.var (d := base645) rfl)) (RO.some (RE.var (d := at593) rfl)) RO.none))) w)))))))))))) w))))) w))))))))
theorem ok_law_drawn_spans (T : Tx w K mg a) : FnOk P w K mg base CX0 2 a.f_law_drawn_spans a.d_law_drawn_spans ["_law_bag_here", "_law_many"] (spMN K [.bag, .bor] l_law_drawn_spans) := by
  refine T.F_law_drawn_spans.ok (k := 1) sc_law_drawn_spans (fun vs H Q E h => spMN_len h) (fun cdv A outer s H vs Q E hr h => ?_)
  refine ⟨_, PSs.nox (pss_cons (ps_set (i := 2) sc_law_drawn_spans.nd rfl (Or.inl rfl) (pe_lst pa_nil))
    (pss_cons (ps_for PassesOwn.never rfl (pi_range1 rfl T.n_range (pa_cons (pe_call (ok_law_take (K := K) T) (hr.mono (by decide)) (by rfl) T.m_law_take T.k_law_take T.b_law_take .nil pass0 (pa_cons (pv 0) (pa_cons (pe_op (VB.op_addX (K := K) rfl) (pv 1) pe_int) pa_nil))) pa_nil)) (pg_name (i := 3) sc_law_drawn_spans.nd rfl (Or.inl rfl))
      (pss_cons (ps_set (i := 4) sc_law_drawn_spans.nd rfl (Or.inl rfl) (pe_call (ok_law_take (K := K) T) (hr.mono (by decide)) (by rfl) T.m_law_take T.k_law_take T.b_law_take .nil pass0 (pa_cons (pv 0) (pa_cons (pe_op (VB.op_addX (K := K) rfl) (pe_op op_pow pe_int pe_int) pe_int) pa_nil))))
    (pss_cons (ps_set (i := 5) sc_law_drawn_spans.nd rfl (Or.inl rfl) (pe_ix (VB.ixX (K := K) rfl) (pe_lst (pa_cons (pe_call (ok_law_take (K := K) T) (hr.mono (by decide)) (by rfl) T.m_law_take T.k_law_take T.b_law_take .nil pass0 (pa_cons (pv 0) (pa_cons pe_int pa_nil))) (pa_cons (pe_call (ok_law_take (K := K) T) (hr.mono (by decide)) (by rfl) T.m_law_take T.k_law_take T.b_law_take .nil pass0 (pa_cons (pv 0) (pa_cons pe_int pa_nil))) (pa_cons (pv 4) (pa_cons (pe_op op_sub (pe_op op_pow pe_int pe_int) (pe_call (ok_law_take (K := K) T) (hr.mono (by decide)) (by rfl) T.m_law_take T.k_law_take T.b_law_take .nil pass0 (pa_cons (pv 0) (pa_cons pe_int pa_nil)))) (pa_cons pe_int pa_nil)))))) (pe_call (ok_law_take (K := K) T) (hr.mono (by decide)) (by rfl) T.m_law_take T.k_law_take T.b_law_take .nil pass0 (pa_cons (pv 0) (pa_cons pe_int pa_nil))) (fun _ _ => rfl)))
    (pss_cons (ps_set (i := 6) sc_law_drawn_spans.nd rfl (Or.inl rfl) (pe_ix (VB.ixX (K := K) rfl) (pe_lst (pa_cons (pe_op (VB.op_addX (K := K) rfl) (pv 5) (pe_call (ok_law_take (K := K) T) (hr.mono (by decide)) (by rfl) T.m_law_take T.k_law_take T.b_law_take .nil pass0 (pa_cons (pv 0) (pa_cons pe_int pa_nil)))) (pa_cons (pv 5) (pa_cons (pe_op op_sub (pv 5) (pe_call (ok_law_take (K := K) T) (hr.mono (by decide)) (by rfl) T.m_law_take T.k_law_take T.b_law_take .nil pass0 (pa_cons (pv 0) (pa_cons pe_int pa_nil)))) (pa_cons (pe_op op_pow pe_int pe_int) (pa_cons (pv 4) pa_nil)))))) (pe_call (ok_law_take (K := K) T) (hr.mono (by decide)) (by rfl) T.m_law_take T.k_law_take T.b_law_take .nil pass0 (pa_cons (pv 0) (pa_cons pe_int pa_nil))) (fun _ _ => rfl)))
    (pss_one (ps_expr (pe_bm PySem.F.plainAttrs_list PySem.F.slot_list_append PySem.F.type_list_append mt_append (pv 2) (pa_cons (pe_tup (pa_cons (pv 5) (pa_cons (pe_callB (call_max2 rfl) (by rfl) T.n_max (by decide +kernel) (pa_cons pe_int (pa_cons (pe_callB (call_min2 rfl) (by rfl) T.n_min (by decide +kernel) (pa_cons (pe_op op_pow pe_int pe_int) (pa_cons (pv 6) pa_nil))) pa_nil))) pa_nil))) pa_nil))))))))
    (pss_one (ps_ret (pv 2))))), body_MN h fun ds hd => ?_⟩
  match ds, hd with
  | _, (.bag b766 (.bor many767 .nil)) =>
    refine ⟨[.bag b766, .bor many767, .no, .no, .no, .no, .no], rfl, ?_⟩
    show G K _ _ _ (m_law_drawn_spans many767) CF
    unfold m_law_drawn_spans
    exact (G.asgO (RN.lst RAs.nil) (fun found768 => (G.forP (embL := fun s773 : D => [.bag b766, .bor many767, .own ⟨none, s773⟩, .no, .no, .no, .no]) (s0 := found768) (p := .nm 3) (fun _ r => r) (RI.rng1 (RAr.cons (RE.rr (RE.take (i := 0) rfl (RE.op add_d (RR.bor (d := many767) rfl) (RE.rr RE.int)))) RAr.nil)) (.same _ (.same _ (.same _ (.same _ (.same _ (.same _ (.same _ .nil))))))) (fun s772 => PB.nm fun k774 P w => LTp.of (by exact (G.asg (RE.take (i := 0) rfl (RE.op add_d (RE.rr (RE.op pow_d (RE.rr RE.int) (RE.rr RE.int))) (RE.rr RE.int))) (fun great777 => (G.asg (RE.op ix_d (RE.rr (RN.re (RN.lst (RAs.cons (RE.take (i := 0) rfl RE.int) (RAs.cons (RE.take (i := 0) rfl RE.int) (RAs.cons (RE.var (d := great777) rfl) (RAs.cons (RE.op sub_d (RE.rr (RE.op pow_d (RE.rr RE.int) (RE.rr RE.int))) (RE.rr (RE.take (i := 0) rfl RE.int))) (RAs.cons RE.int RAs.nil)))))))) (RE.rr (RE.take (i := 0) rfl RE.int))) (fun begin782 => (G.asg (RE.op ix_d (RE.rr (RN.re (RN.lst (RAs.cons (RE.op add_d (RE.rr (RE.var (d := begin782) rfl)) (RE.rr (RE.take (i := 0) rfl RE.int))) (RAs.cons (RE.var (d := begin782) rfl) (RAs.cons (RE.op sub_d (RE.rr (RE.var (d := begin782) rfl)) (RE.rr (RE.take (i := 0) rfl RE.int))) (RAs.cons (RE.op pow_d (RE.rr RE.int) (RE.rr RE.int)) (RAs.cons (RE.var (d := great777) rfl) RAs.nil)))))))) (RE.rr (RE.take (i := 0) rfl RE.int))) (fun end794 => (G.one (G.app2 (i := 2) (d := s772) rfl (RE.tup (RAs.cons (RE.var (d := begin782) rfl) (RAs.cons (RE.cb max2_c (RAr.cons (RE.rr RE.int) (RAr.cons (RE.rr (RE.cb min2_c (RAr.cons (RE.rr (RE.op pow_d (RE.rr RE.int) (RE.rr RE.int))) (RAr.cons (RE.rr (RE.var (d := end794) rfl)) RAr.nil)))) RAr.nil))) RAs.nil))) (fun found808 => (G.finP (.same _ (.same _ (.same _ (.drop _ (.drop _ (.drop _ (.drop _ .nil)))))))))))))))))) w) (fun s776 => (G.one (G.retFO (i := 2) (d := s776) (fun _ r => r) rfl))))))
theorem ok_law_has_day (T : Tx w K mg a) : FnOk P w K mg base CX0 1 a.f_law_has_day a.d_law_has_day ["_law_spans", "_law_day"] (spM K [.bor, .bor] l_law_has_day) := by
  refine T.F_law_has_day.ok (k := 0) sc_law_has_day (fun vs H Q E h => spM_len h) (fun cdv A outer s H vs Q E hr h => ?_)
  refine ⟨_, PSs.nox (pss_one (ps_ret (pe_cmpR (VB.op_neX (K := K) rfl hr.units) (pe_lc (own := [("_law_begin", 2), ("_law_end", 3)]) rfl sc_law_has_day.nd (VB.pi_dat (K := K) rfl (pv 0)) (blkOk_by (N := ["_law_spans", "_law_day", "_law_begin", "_law_end"]) (sc := defScope s_law_has_day) (by decide +kernel)) (fun _ _ _ _ _ => (VB.kTg (K := K) (n := 2) rfl rfl (pgs_cons (pg_name (i := 2) sc_law_has_day.nd rfl (Or.inl rfl)) (pgs_cons (pg_name (i := 3) sc_law_has_day.nd rfl (Or.inl rfl)) pgs_nil)))) (fun _ _ _ _ _ => pts_one (pt_chain VB.op_leX VB.op_leX (pv 2) (pv 1) (pv 3))) (fun _ _ _ _ _ => pe_int)) (pe_lst pa_nil) (nomark _)))), body_M h fun ds hd => ?_⟩
  match ds, hd with
  | _, (.bor spans870 (.bor day871 .nil)) =>
    refine ⟨[.bor spans870, .bor day871, .no, .no], rfl, ?_⟩
    show G K _ _ _ (m_law_has_day spans870 day871) CF
    unfold m_law_has_day
    exact (G.one (G.retF (fun _ r => r.1) (RE.op ne_d (RE.rr (RN.re (RN.lc (p := Pt.two 2 3) (js := [2, 3]) (RI.rd (RR.bor (d := spans870) rfl)) (fun _ m => m) (PB.two fun begin873 end874 P w => CT.test (RT.test (RE.rr (RE.chain le_d le_d (RE.rr (RE.var (d := begin873) rfl)) (RR.bor (d := day871) rfl) (RE.rr (RE.var (d := end874) rfl))))) RE.int w)))) (RE.rr (RN.re (RN.lst RAs.nil))))))
theorem ok_law_is_day (T : Tx w K mg a) : FnOk P w K mg base CX0 1 a.f_law_is_day a.d_law_is_day ["_law_thing"] (spM K [.bor] l_law_is_day) := by
  refine T.F_law_is_day.ok (k := 0) sc_law_is_day (fun vs H Q E h => spM_len h) (fun cdv A outer s H vs Q E hr h => ?_)
  refine ⟨_, PSs.nox (pss_one (ps_ret (pe_and (pe_callB (VB.kIsi (K := K) rfl) (by rfl) T.n_isinstance (by decide +kernel) (pa_cons (pv 0) (pa_cons (pe_bltn (v := .ty "int") (u := .type "int") (by rfl) T.n_int (by decide +kernel) rfl) pa_nil))) (pe_and (pe_not (pe_callB (VB.kIsi (K := K) rfl) (by rfl) T.n_isinstance (by decide +kernel) (pa_cons (pv 0) (pa_cons (pe_bltn (v := .ty "bool") (u := .type "bool") (by rfl) T.n_bool (by decide +kernel) rfl) pa_nil)))) (pe_one (pe_chain VB.op_leX VB.op_leX pe_int (pv 0) (pe_op op_pow pe_int pe_int))))))), body_M h fun ds hd => ?_⟩
  match ds, hd with
  | _, (.bor thing901 .nil) =>
    refine ⟨[.bor thing901], rfl, ?_⟩
    show G K _ _ _ (m_law_is_day thing901) CF
    unfold m_law_is_day
    exact (G.one (G.retF (fun _ r => r.1) (RE.andV (RE.cb isi_c (RAr.cons (RR.bor (d := thing901) rfl) (RAr.cons (RE.rr RE.ty) RAr.nil))) (RE.andV (RE.notV (RE.cb isi_c (RAr.cons (RR.bor (d := thing901) rfl) (RAr.cons (RE.rr RE.ty) RAr.nil)))) (RE.chain le_d le_d (RE.rr RE.int) (RR.bor (d := thing901) rfl) (RE.rr (RE.op pow_d (RE.rr RE.int) (RE.rr RE.int))))))))
theorem ok_law_is_word (T : Tx w K mg a) : FnOk P w K mg base CX0 1 a.f_law_is_word a.d_law_is_word ["_law_thing"] (spM K [.bor] l_law_is_word) := by
  refine T.F_law_is_word.ok (k := 0) sc_law_is_word (fun vs H Q E h => spM_len h) (fun cdv A outer s H vs Q E hr h => ?_)
  refine ⟨_, PSs.nox (pss_cons (ps_if (PW.pt (pw_or (pt_not (pt_val (pe_callB (VB.kIsi (K := K) rfl) (by rfl) T.n_isinstance (by decide +kernel) (pa_cons (pv 0) (pa_cons (pe_bltn (v := .ty "str") (u := .type "str") (by rfl) T.n_str (by decide +kernel) rfl) pa_nil))))) (pw_or (pt_cmpR VB.op_ltX (pe_callB (VB.kLen (K := K) rfl) (by rfl) T.n_len (by decide +kernel) (pa_cons (pv 0) pa_nil)) pe_int (nomark _)) (pw_or1 (pt_cmpR VB.op_gtX (pe_callB (VB.kLen (K := K) rfl) (by rfl) T.n_len (by decide +kernel) (pa_cons (pv 0) pa_nil)) pe_int (nomark _)))))) (pss_one (ps_ret pe_bl)) pss_nil)
    (pss_one (ps_ret (pe_cmpR (VB.op_eqX (K := K) rfl hr.units) (pe_lc (own := [("_law_sign", 1)]) (g := gName 1) rfl sc_law_is_word.nd (VB.pi_dat (K := K) rfl (pv 0)) (blkOk_by (N := ["_law_thing", "_law_sign"]) (sc := defScope s_law_is_word) (by decide +kernel)) (fun _ _ _ _ _ => (pg_name (i := 1) sc_law_is_word.nd rfl (Or.inl rfl))) (fun _ _ _ _ _ => pts_one (pt_cmpR (VB.op_ninX (K := K) rfl (VB.room65 hr)) (pv 1) pe_str (by rfl))) (fun _ _ _ _ _ => (pv 1))) (pe_lst pa_nil) (nomark _))))), body_M h fun ds hd => ?_⟩
  match ds, hd with
  | _, (.bor thing928 .nil) =>
    refine ⟨[.bor thing928, .no], rfl, ?_⟩
    show G K _ _ _ (m_law_is_word thing928) CF
    unfold m_law_is_word
    exact (G.ifS (RT.or (RT.not (RT.b (RE.rr (RE.cb isi_c (RAr.cons (RR.bor (d := thing928) rfl) (RAr.cons (RE.rr RE.ty) RAr.nil)))))) (RT.or (RT.test (RE.rr (RE.op lt_d (RE.rr (RE.cb len_c (RAr.cons (RR.bor (d := thing928) rfl) RAr.nil))) (RE.rr RE.int)))) (RT.test (RE.rr (RE.op gt_d (RE.rr (RE.cb len_c (RAr.cons (RR.bor (d := thing928) rfl) RAr.nil))) (RE.rr RE.int)))))) (G.retF (fun _ r => r.1) RE.bl) (G.next (G.one (G.retF (fun _ r => r.1) (RE.op eq_d (RE.rr (RN.re (RN.lc (p := .nm 1) (js := [1]) (RI.rd (RR.bor (d := thing928) rfl)) (fun _ m => m) (PB.nm fun sign939 P w => CT.test (RT.test (RE.rr (RE.op nin_d (RE.rr (RE.var (d := sign939) rfl)) (RE.rr RE.str)))) (RE.var (d := sign939) rfl) w)))) (RE.rr (RN.re (RN.lst RAs.nil))))))))
theorem ok_law_is_span (T : Tx w K mg a) : FnOk P w K mg base CX0 2 a.f_law_is_span a.d_law_is_span ["_law_thing"] (spM K [.bor] l_law_is_span) := by
  refine T.F_law_is_span.ok (k := 1) sc_law_is_span (fun vs H Q E h => spM_len h) (fun cdv A outer s H vs Q E hr h => ?_)
  refine ⟨_, PSs.nox (pss_one (ps_ret (pe_and (pe_callB (VB.kIsi (K := K) rfl) (by rfl) T.n_isinstance (by decide +kernel) (pa_cons (pv 0) (pa_cons (pe_bltn (v := .ty "tuple") (u := .type "tuple") (by rfl) T.n_tuple (by decide +kernel) rfl) pa_nil))) (pe_and (pe_cmpR (VB.op_eqX (K := K) rfl hr.units) (pe_callB (VB.kLen (K := K) rfl) (by rfl) T.n_len (by decide +kernel) (pa_cons (pv 0) pa_nil)) pe_int (nomark _)) (pe_and (pe_call (ok_law_is_day (K := K) T) (hr.mono (by decide)) (by rfl) T.m_law_is_day T.k_law_is_day T.b_law_is_day .nil pass0 (pa_cons (pe_ix (VB.ixX (K := K) rfl) (pv 0) pe_int (fun _ _ => rfl)) pa_nil)) (pe_one (pe_call (ok_law_is_day (K := K) T) (hr.mono (by decide)) (by rfl) T.m_law_is_day T.k_law_is_day T.b_law_is_day .nil pass0 (pa_cons (pe_ix (VB.ixX (K := K) rfl) (pv 0) pe_int (fun _ _ => rfl)) pa_nil)))))))), body_M h fun ds hd => ?_⟩
  match ds, hd with
  | _, (.bor thing978 .nil) =>
    refine ⟨[.bor thing978], rfl, ?_⟩
    show G K _ _ _ (m_law_is_span thing978) CF
    unfold m_law_is_span
    exact (G.one (G.retF (fun _ r => r.1) (RE.andV (RE.cb isi_c (RAr.cons (RR.bor (d := thing978) rfl) (RAr.cons (RE.rr RE.ty) RAr.nil))) (RE.andV (RE.op eq_d (RE.rr (RE.cb len_c (RAr.cons (RR.bor (d := thing978) rfl) RAr.nil))) (RE.rr RE.int)) (RE.andV (RE.callE (RAm.bor (RE.rr (RE.op ix_d (RR.bor (d := thing978) rfl) (RE.rr RE.int))) RAm.nil) rfl) (RE.callE (RAm.bor (RE.rr (RE.op ix_d (RR.bor (d := thing978) rfl) (RE.rr RE.int))) RAm.nil) rfl))))))
theorem ok_law_is_row (T : Tx w K mg a) : FnOk P w K mg base CX0 2 a.f_law_is_row a.d_law_is_row ["_law_thing"] (spM K [.bor] (l_law_is_row a.c)) := by
  refine T.F_law_is_row.ok (k := 1) sc_law_is_row (fun vs H Q E h => spM_len h) (fun cdv A outer s H vs Q E hr h => ?_)
  refine ⟨_, PSs.nox (pss_cons (ps_if (PW.pt (pw_or (pt_not (pt_val (pe_callB (VB.kIsi (K := K) rfl) (by rfl) T.n_isinstance (by decide +kernel) (pa_cons (pv 0) (pa_cons (pe_bltn (v := .ty "tuple") (u := .type "tuple") (by rfl) T.n_tuple (by decide +kernel) rfl) pa_nil))))) (pw_or (pt_cmpR (VB.op_neX (K := K) rfl hr.units) (pe_callB (VB.kLen (K := K) rfl) (by rfl) T.n_len (by decide +kernel) (pa_cons (pv 0) pa_nil)) pe_int (nomark _)) (pw_or1 (pt_not (pt_val (pe_call (ok_law_is_word (K := K) T) (hr.mono (by decide)) (by rfl) T.m_law_is_word T.k_law_is_word T.b_law_is_word .nil pass0 (pa_cons (pe_ix (VB.ixX (K := K) rfl) (pv 0) pe_int (fun _ _ => rfl)) pa_nil)))))))) (pss_one (ps_ret pe_bl)) pss_nil)
    (pss_one (ps_ret (pe_and (pe_callB (VB.kIsiT (K := K) rfl) (by rfl) T.n_isinstance (by decide +kernel) (pa_cons (pe_ix (VB.ixX (K := K) rfl) (pv 0) pe_int (fun _ _ => rfl)) (pa_cons (pe_tup (pa_cons (pe_bltn (v := .ty "list") (u := .type "list") (by rfl) T.n_list (by decide +kernel) rfl) (pa_cons (pe_bltn (v := .ty "tuple") (u := .type "tuple") (by rfl) T.n_tuple (by decide +kernel) rfl) pa_nil))) pa_nil))) (pe_one (pe_cmpR (VB.op_eqX (K := K) rfl hr.units) (pe_lc (own := [("_law_rule", 1)]) (g := gName 1) rfl sc_law_is_row.nd (VB.pi_dat (K := K) rfl (pe_ix (VB.ixX (K := K) rfl) (pv 0) pe_int (fun _ _ => rfl))) (blkOk_by (N := ["_law_thing", "_law_rule"]) (sc := defScope s_law_is_row) (by decide +kernel)) (fun _ _ _ _ _ => (pg_name (i := 1) sc_law_is_row.nd rfl (Or.inl rfl))) (fun _ _ _ _ _ => pts_one (pt_not (pt_val (pe_call (ok_law_is_word (K := K) T) (hr.mono (by decide)) (by rfl) T.m_law_is_word T.k_law_is_word T.b_law_is_word .nil pass0 (pa_cons (pv 1) pa_nil))))) (fun _ _ _ _ _ => (pv 1))) (pe_lst pa_nil) (nomark _))))))), body_M h fun ds hd => ?_⟩
  match ds, hd with
  | _, (.bor thing1011 .nil) =>
    refine ⟨[.bor thing1011, .no], rfl, ?_⟩
    show G K _ _ _ (m_law_is_row a.c thing1011) CF
    unfold m_law_is_row
    exact (G.ifS (RT.or (RT.not (RT.b (RE.rr (RE.cb isi_c (RAr.cons (RR.bor (d := thing1011) rfl) (RAr.cons (RE.rr RE.ty) RAr.nil)))))) (RT.or (RT.test (RE.rr (RE.op ne_d (RE.rr (RE.cb len_c (RAr.cons (RR.bor (d := thing1011) rfl) RAr.nil))) (RE.rr RE.int)))) (RT.not (RT.b (RE.rr (RE.callE (RAm.bor (RE.rr (RE.op ix_d (RR.bor (d := thing1011) rfl) (RE.rr RE.int))) RAm.nil) rfl)))))) (G.retF (fun _ r => r.1) RE.bl) (G.next (G.one (G.retF (fun _ r => r.1) (RE.andV (RE.isiT (cs := [(D.ty "list"), (D.ty "tuple")]) T.kc (RE.rr (RE.op ix_d (RR.bor (d := thing1011) rfl) (RE.rr RE.int))) (fun _ _ _ q => q)) (RE.op eq_d (RE.rr (RN.re (RN.lc (p := .nm 1) (js := [1]) (RI.dat (RE.op ix_d (RR.bor (d := thing1011) rfl) (RE.rr RE.int))) (fun _ m => m) (PB.nm fun rule1026 P w => CT.test (RT.not (RT.b (RE.rr (RE.callE (RAm.bor (RE.rr (RE.var (d := rule1026) rfl)) RAm.nil) rfl)))) (RE.var (d := rule1026) rfl) w)))) (RE.rr (RN.re (RN.lst RAs.nil)))))))))
theorem ok_law_wrong (T : Tx w K mg a) : FnOk P w K mg base CX0 3 a.f_law_wrong a.d_law_wrong ["_law_way", "_law_things"] (spM K [.bor, .bor] (l_law_wrong a.c)) := by
  refine T.F_law_wrong.ok (k := 2) sc_law_wrong (fun vs H Q E h => spM_len h) (fun cdv A outer s H vs Q E hr h => ?_)
  refine ⟨_, PSs.nox (pss_cons (ps_if (pt_cmpR (VB.op_eqX (K := K) rfl hr.units) (pv 0) pe_int (nomark _)) (pss_cons (ps_set (i := 2) sc_law_wrong.nd rfl (Or.inl rfl) (pe_and (pe_callB (VB.kIsiT (K := K) rfl) (by rfl) T.n_isinstance (by decide +kernel) (pa_cons (pe_ix (VB.ixX (K := K) rfl) (pv 1) pe_int (fun _ _ => rfl)) (pa_cons (pe_tup (pa_cons (pe_bltn (v := .ty "list") (u := .type "list") (by rfl) T.n_list (by decide +kernel) rfl) (pa_cons (pe_bltn (v := .ty "tuple") (u := .type "tuple") (by rfl) T.n_tuple (by decide +kernel) rfl) pa_nil))) pa_nil))) (pe_one (pe_cmpR (VB.op_eqX (K := K) rfl hr.units) (pe_lc (own := [("_law_one", 5)]) (g := gName 5) rfl sc_law_wrong.nd (VB.pi_dat (K := K) rfl (pe_ix (VB.ixX (K := K) rfl) (pv 1) pe_int (fun _ _ => rfl))) (blkOk_by (N := ["_law_way", "_law_things", "_law_good", "_law_told", "_law_double", "_law_one", "_law_k"]) (sc := defScope s_law_wrong) (by decide +kernel)) (fun _ _ _ _ _ => (pg_name (i := 5) sc_law_wrong.nd rfl (Or.inl rfl))) (fun _ _ _ _ _ => pts_one (pt_not (pt_val (pe_call (ok_law_is_span (K := K) T) (hr.mono (by decide)) (by rfl) T.m_law_is_span T.k_law_is_span T.b_law_is_span .nil pass0 (pa_cons (pv 5) pa_nil))))) (fun _ _ _ _ _ => (pv 5))) (pe_lst pa_nil) (nomark _)))))
    (pss_one (ps_ret (pe_ifExp (VB.pt_tr (K := K) rfl (pv 2) (by intro _; rfl)) pe_non pe_int)))) pss_nil)
    (pss_cons (ps_if (pt_not (pt_val (pe_callB (VB.kIsi (K := K) rfl) (by rfl) T.n_isinstance (by decide +kernel) (pa_cons (pe_ix (VB.ixX (K := K) rfl) (pv 1) pe_int (fun _ _ => rfl)) (pa_cons (pe_bltn (v := .ty "bool") (u := .type "bool") (by rfl) T.n_bool (by decide +kernel) rfl) pa_nil))))) (pss_one (ps_ret pe_int)) pss_nil)
    (pss_cons (ps_if (PW.pt (pw_or (pt_not (pt_val (pe_callB (VB.kIsiT (K := K) rfl) (by rfl) T.n_isinstance (by decide +kernel) (pa_cons (pe_ix (VB.ixX (K := K) rfl) (pv 1) pe_int (fun _ _ => rfl)) (pa_cons (pe_tup (pa_cons (pe_bltn (v := .ty "list") (u := .type "list") (by rfl) T.n_list (by decide +kernel) rfl) (pa_cons (pe_bltn (v := .ty "tuple") (u := .type "tuple") (by rfl) T.n_tuple (by decide +kernel) rfl) pa_nil))) pa_nil))))) (pw_or1 (pt_cmpR (VB.op_neX (K := K) rfl hr.units) (pe_lc (own := [("_law_one", 5)]) (g := gName 5) rfl sc_law_wrong.nd (VB.pi_dat (K := K) rfl (pe_ix (VB.ixX (K := K) rfl) (pv 1) pe_int (fun _ _ => rfl))) (blkOk_by (N := ["_law_way", "_law_things", "_law_good", "_law_told", "_law_double", "_law_one", "_law_k"]) (sc := defScope s_law_wrong) (by decide +kernel)) (fun _ _ _ _ _ => (pg_name (i := 5) sc_law_wrong.nd rfl (Or.inl rfl))) (fun _ _ _ _ _ => pts_one (pt_not (pt_val (pe_call (ok_law_is_row (K := K) T) (hr.mono (by decide)) (by rfl) T.m_law_is_row T.k_law_is_row T.b_law_is_row .nil pass0 (pa_cons (pv 5) pa_nil))))) (fun _ _ _ _ _ => (pv 5))) (pe_lst pa_nil) (nomark _))))) (pss_one (ps_ret pe_int)) pss_nil)
    (pss_cons (ps_set (i := 3) sc_law_wrong.nd rfl (Or.inr rfl) (pe_lc (own := [("_law_one", 5)]) (g := gName 5) (tt := tYes) rfl sc_law_wrong.nd (VB.pi_dat (K := K) rfl (pe_ix (VB.ixX (K := K) rfl) (pv 1) pe_int (fun _ _ => rfl))) (blkOk_by (N := ["_law_way", "_law_things", "_law_good", "_law_told", "_law_double", "_law_one", "_law_k"]) (sc := defScope s_law_wrong) (by decide +kernel)) (fun _ _ _ _ _ => (pg_name (i := 5) sc_law_wrong.nd rfl (Or.inl rfl))) (fun _ _ _ _ _ => pts_nil) (fun _ _ _ _ _ => (pe_ix (VB.ixX (K := K) rfl) (pv 5) pe_int (fun _ _ => rfl)))))
    (pss_cons (ps_setLc (i := 4) rfl sc_law_wrong.nd rfl rfl (sw_true rfl rfl rfl (by decide +kernel)) (own := [("_law_k", 6)]) (g := gName 6) (pi_range1 rfl T.n_range (pa_cons (pe_callB (VB.kLen (K := K) rfl) (by rfl) T.n_len (by decide +kernel) (pa_cons (pv 3) pa_nil)) pa_nil)) (blkOk_by (N := ["_law_way", "_law_things", "_law_good", "_law_told", "_law_double", "_law_one", "_law_k"]) (sc := defScope s_law_wrong) (by decide +kernel)) (fun _ _ _ _ _ => (pg_name (i := 6) sc_law_wrong.nd rfl (Or.inl rfl))) (fun _ _ _ _ _ => pts_one (pt_cmpR (VB.op_inX (K := K) rfl (VB.room65 hr)) (pe_ix (VB.ixX (K := K) rfl) (pv 3) (pv 6) (fun _ _ => rfl)) (pe_slice (VB.slX (K := K) rfl) (pv 3) po_none (po_some (pv 6))) (by rfl))) (fun _ _ _ _ _ => (pv 6)))
    (pss_one (ps_ret (pe_ifExp (pt_cmpR (VB.op_neX (K := K) rfl hr.units) (pv 4) (pe_lst pa_nil) (nomark _)) pe_int pe_non)))))))), body_M h fun ds hd => ?_⟩
  match ds, hd with
  | _, (.bor way1075 (.bor things1076 .nil)) =>
    refine ⟨[.bor way1075, .bor things1076, .no, .no, .no, .no, .no], rfl, ?_⟩
    show G K _ _ _ (m_law_wrong a.c way1075 things1076) CF
    unfold m_law_wrong
    exact (G.ifS (RT.test (RE.rr (RE.op eq_d (RR.bor (d := way1075) rfl) (RE.rr RE.int)))) (G.assoc (G.asg (RE.andV (RE.isiT (cs := [(D.ty "list"), (D.ty "tuple")]) T.kc (RE.rr (RE.op ix_d (RR.bor (d := things1076) rfl) (RE.rr RE.int))) (fun _ _ _ q => q)) (RE.op eq_d (RE.rr (RN.re (RN.lc (p := .nm 5) (js := [5]) (RI.dat (RE.op ix_d (RR.bor (d := things1076) rfl) (RE.rr RE.int))) (fun _ m => m) (PB.nm fun one1086 P w => CT.test (RT.not (RT.b (RE.rr (RE.callE (RAm.bor (RE.rr (RE.var (d := one1086) rfl)) RAm.nil) rfl)))) (RE.var (d := one1086) rfl) w)))) (RE.rr (RN.re (RN.lst RAs.nil))))) (fun good1080 => (G.retF (fun _ r => r.1) (RE.ifx (RT.truth (RE.rr (RE.var (d := good1080) rfl))) RE.non RE.int))))) (G.next (G.ifS (RT.not (RT.b (RE.rr (RE.cb isi_c (RAr.cons (RE.rr (RE.op ix_d (RR.bor (d := things1076) rfl) (RE.rr RE.int))) (RAr.cons (RE.rr RE.ty) RAr.nil)))))) (G.retF (fun _ r => r.1) RE.int) (G.next (G.ifS (RT.or (RT.not (RT.b (RE.rr (RE.isiT (cs := [(D.ty "list"), (D.ty "tuple")]) T.kc (RE.rr (RE.op ix_d (RR.bor (d := things1076) rfl) (RE.rr RE.int))) (fun _ _ _ q => q))))) (RT.test (RE.rr (RE.op ne_d (RE.rr (RN.re (RN.lc (p := .nm 5) (js := [5]) (RI.dat (RE.op ix_d (RR.bor (d := things1076) rfl) (RE.rr RE.int))) (fun _ m => m) (PB.nm fun one1105 P w => CT.test (RT.not (RT.b (RE.rr (RE.callE (RAm.bor (RE.rr (RE.var (d := one1105) rfl)) RAm.nil) rfl)))) (RE.var (d := one1105) rfl) w)))) (RE.rr (RN.re (RN.lst RAs.nil))))))) (G.retF (fun _ r => r.1) RE.int) (G.next (G.asg (RN.re (RN.map (p := .nm 5) (js := [5]) (RI.dat (RE.op ix_d (RR.bor (d := things1076) rfl) (RE.rr RE.int))) (fun _ m => m) (PB.nm fun one1118 P w => CTp.of (RE.op ix_d (RE.rr (RE.var (d := one1118) rfl)) (RE.rr RE.int)) w))) (fun told1114 => (G.asg (RN.re (RN.lc (p := .nm 6) (js := [6]) (RI.rng1 (RAr.cons (RE.rr (RE.cb len_c (RAr.cons (RE.rr (RE.var (d := told1114) rfl)) RAr.nil))) RAr.nil)) (fun _ m => m) (PB.nm fun k1126 P w => CT.test (RT.test (RE.rr (RE.op in_d (RE.rr (RE.op ix_d (RE.rr (RE.var (d := told1114) rfl)) (RE.rr (RE.var (d := k1126) rfl)))) (RE.rr (RE.sl sl_d (RE.rr (RE.var (d := told1114) rfl)) RO.none (RO.some (RE.var (d := k1126) rfl))))))) (RE.var (d := k1126) rfl) w))) (fun double1123 => (G.one (G.retF (fun _ r => r.1) (RE.ifx (RT.test (RE.rr (RE.op ne_d (RE.rr (RE.var (d := double1123) rfl)) (RE.rr (RN.re (RN.lst RAs.nil)))))) RE.int RE.non)))))))))))))
theorem ok_law_odd (T : Tx w K mg a) : FnOk P w K mg base CX0 2 a.f_law_odd a.d_law_odd ["_law_bag_here"] (spM K [.bag] l_law_odd) := by
  refine T.F_law_odd.ok (k := 1) sc_law_odd (fun vs H Q E h => spM_len h) (fun cdv A outer s H vs Q E hr h => ?_)
  refine ⟨_, PSs.nox (pss_cons (ps_set (i := 1) sc_law_odd.nd rfl (Or.inl rfl) (pe_lst (pa_cons pe_non pa_nil)))
    (pss_cons (ps_for PassesOwn.never rfl (pi_range1 rfl T.n_range (pa_cons pe_int pa_nil)) (pg_name (i := 2) sc_law_odd.nd rfl (Or.inl rfl))
      (pss_one (ps_set (i := 1) sc_law_odd.nd rfl (Or.inl rfl) (pe_lst (pa_cons (pv 1) pa_nil)))))
    (pss_cons (ps_set (i := 3) sc_law_odd.nd rfl (Or.inl rfl) (pe_lst (pa_cons pe_non (pa_cons pe_int (pa_cons pe_str (pa_cons pe_str (pa_cons pe_dnewK (pa_cons pe_bl (pa_cons pe_int (pa_cons (pe_lst (pa_cons (pe_lst pa_nil) pa_nil)) (pa_cons (pe_lst (pa_cons (pe_tup pa_nil) pa_nil)) (pa_cons (pe_tup (pa_cons (pe_tup pa_nil) pa_nil)) (pa_cons (pe_disp (pps_cons pe_str (pe_tup (pa_cons pe_str pa_nil)) pps_nil) (by rfl) (by rfl) (List.cons_ne_nil _ _) (by decide)) (pa_cons (pv 1) (pa_cons (pe_op (VB.op_mulX (K := K) rfl) (pe_lst (pa_cons pe_non pa_nil)) pe_int) pa_nil)))))))))))))))
    (pss_one (ps_ret (pe_ix (VB.ixA (K := K) rfl (VB.room65 hr)) (pe_op (VB.op_addX (K := K) rfl) (pv 3) (pe_lst (pa_cons (pe_lst (pa_cons pe_int pa_nil)) (pa_cons (pe_tup (pa_cons pe_int (pa_cons pe_int pa_nil))) (pa_cons (pe_tup (pa_cons pe_str (pa_cons pe_str pa_nil))) pa_nil))))) (pe_call (ok_law_take (K := K) T) (hr.mono (by decide)) (by rfl) T.m_law_take T.k_law_take T.b_law_take .nil pass0 (pa_cons (pv 0) (pa_cons pe_int pa_nil))) (fun _ _ => rfl))))))), body_M h fun ds hd => ?_⟩
  match ds, hd with
  | _, (.bag b1249 .nil) =>
    refine ⟨[.bag b1249, .no, .no, .no], rfl, ?_⟩
    show G K _ _ _ (m_law_odd) CF
    unfold m_law_odd
    exact (G.asg (RN.re (RN.lst (RAs.cons RE.non RAs.nil))) (fun deep1250 => (G.forP (embL := fun s1254 : D => [.bag b1249, .dat s1254, .no, .no]) (s0 := deep1250) (p := .nm 2) (fun _ r => r.1) (RI.rng1 (RAr.cons (RE.rr RE.int) RAr.nil)) (.same _ (.same _ (.same _ (.same _ .nil)))) (fun s1253 => PB.nm fun k1255 P w => LTp.of (by exact (G.one (G.asg (RN.re (RN.lst (RAs.cons (RE.var (d := s1253) rfl) RAs.nil))) (fun deep1258 => (G.finP (.same _ (.same _ (.drop _ (.same _ .nil))))))))) w) (fun s1257 => (G.asg (RN.re (RN.lst (RAs.cons RE.non (RAs.cons RE.int (RAs.cons RE.str (RAs.cons RE.str (RAs.cons (RN.re RN.dnew) (RAs.cons RE.bl (RAs.cons RE.int (RAs.cons (RN.re (RN.lst (RAs.cons (RN.re (RN.lst RAs.nil)) RAs.nil))) (RAs.cons (RN.re (RN.lst (RAs.cons (RE.tup RAs.nil) RAs.nil))) (RAs.cons (RE.tup (RAs.cons (RE.tup RAs.nil) RAs.nil)) (RAs.cons (RN.re (RN.disp (RPs.cons RE.str (RE.tup (RAs.cons RE.str RAs.nil)) RPs.nil))) (RAs.cons (RE.var (d := s1257) rfl) (RAs.cons (RE.op mul_d (RE.rr (RN.re (RN.lst (RAs.cons RE.non RAs.nil)))) (RE.rr RE.int)) RAs.nil))))))))))))))) (fun odd_here1260 => (G.one (G.retF (fun _ r => r.1) (RE.op ixA_d (RE.rr (RE.op add_d (RE.rr (RE.var (d := odd_here1260) rfl)) (RE.rr (RN.re (RN.lst (RAs.cons (RN.re (RN.lst (RAs.cons RE.int RAs.nil))) (RAs.cons (RE.tup (RAs.cons RE.int (RAs.cons RE.int RAs.nil))) (RAs.cons (RE.tup (RAs.cons RE.str (RAs.cons RE.str RAs.nil))) RAs.nil)))))))) (RE.rr (RE.take (i := 0) rfl RE.int)))))))))))
theorem ok_law_odd_span (T : Tx w K mg a) : FnOk P w K mg base CX0 2 a.f_law_odd_span a.d_law_odd_span ["_law_bag_here", "_law_span"] (spM K [.bag, .dat] l_law_odd_span) := by
  refine T.F_law_odd_span.ok (k := 1) sc_law_odd_span (fun vs H Q E h => spM_len h) (fun cdv A outer s H vs Q E hr h => ?_)
  refine ⟨_, PSs.nox (pss_cons (ps_asg (pv 1) (VB.kTg (K := K) (n := 2) rfl rfl (pgs_cons (pg_name (i := 2) sc_law_odd_span.nd rfl (Or.inl rfl)) (pgs_cons (pg_name (i := 3) sc_law_odd_span.nd rfl (Or.inl rfl)) pgs_nil))))
    (pss_cons (ps_set (i := 4) sc_law_odd_span.nd rfl (Or.inl rfl) (pe_lst (pa_cons (pe_lst (pa_cons (pv 2) (pa_cons (pv 3) pa_nil))) (pa_cons (pe_tup (pa_cons (pv 2) pa_nil)) (pa_cons (pe_tup (pa_cons (pv 2) (pa_cons (pv 3) (pa_cons (pv 3) pa_nil)))) (pa_cons (pe_tup (pa_cons (pe_un un_neg pe_int) (pa_cons (pv 3) pa_nil))) (pa_cons (pe_tup (pa_cons (pv 2) (pa_cons (pe_op (VB.op_addX (K := K) rfl) (pe_op op_pow pe_int pe_int) pe_int) pa_nil))) pa_nil)))))))
    (pss_cons (ps_set (i := 4) sc_law_odd_span.nd rfl (Or.inl rfl) (pe_op (VB.op_addX (K := K) rfl) (pv 4) (pe_lst (pa_cons (pe_tup (pa_cons pe_bl (pa_cons (pv 3) pa_nil))) (pa_cons (pe_tup (pa_cons (pv 2) (pa_cons pe_bl pa_nil))) pa_nil)))))
    (pss_cons (ps_set (i := 4) sc_law_odd_span.nd rfl (Or.inl rfl) (pe_op (VB.op_addX (K := K) rfl) (pv 4) (pe_lst (pa_cons (pe_tup (pa_cons (pe_callTy VB.cr_strI (by rfl) T.n_str (by decide +kernel) (pa_cons (pv 2) pa_nil)) (pa_cons (pv 3) pa_nil))) (pa_cons (pe_tup (pa_cons (pv 2) (pa_cons pe_non pa_nil))) (pa_cons pe_non pa_nil))))))
    (pss_cons (ps_set (i := 4) sc_law_odd_span.nd rfl (Or.inl rfl) (pe_op (VB.op_addX (K := K) rfl) (pv 4) (pe_lst (pa_cons (pv 2) (pa_cons pe_dnewK (pa_cons (pe_tup (pa_cons (pe_op op_sub (pe_op op_sub pe_int (pv 2)) pe_int) (pa_cons (pv 3) pa_nil))) pa_nil))))))
    (pss_cons (ps_set (i := 4) sc_law_odd_span.nd rfl (Or.inl rfl) (pe_op (VB.op_addX (K := K) rfl) (pv 4) (pe_lst (pa_cons (pe_tup (pa_cons (pv 2) (pa_cons (pe_op op_pow pe_int pe_int) pa_nil))) (pa_cons (pv 1) (pa_cons (pe_tup (pa_cons (pe_op (VB.op_addX (K := K) rfl) (pe_op op_pow pe_int pe_int) pe_int) (pa_cons (pv 3) pa_nil))) (pa_cons (pe_tup (pa_cons (pv 2) (pa_cons (pe_un un_neg pe_int) pa_nil))) pa_nil)))))))
    (pss_one (ps_ret (pe_ix (VB.ixX (K := K) rfl) (pv 4) (pe_call (ok_law_take (K := K) T) (hr.mono (by decide)) (by rfl) T.m_law_take T.k_law_take T.b_law_take .nil pass0 (pa_cons (pv 0) (pa_cons pe_int pa_nil))) (fun _ _ => rfl)))))))))), body_M h fun ds hd => ?_⟩
  match ds, hd with
  | _, (.bag b1412 (.dat span1413 .nil)) =>
    refine ⟨[.bag b1412, .dat span1413, .no, .no, .no], rfl, ?_⟩
    show G K _ _ _ (m_law_odd_span span1413) CF
    unfold m_law_odd_span
    exact (G.unp (p := Pt.two 2 3) (RE.var (d := span1413) rfl) (PB.two fun begin1414 end1415 P w => unp_of (by exact (G.asg (RN.re (RN.lst (RAs.cons (RN.re (RN.lst (RAs.cons (RE.var (d := begin1414) rfl) (RAs.cons (RE.var (d := end1415) rfl) RAs.nil)))) (RAs.cons (RE.tup (RAs.cons (RE.var (d := begin1414) rfl) RAs.nil)) (RAs.cons (RE.tup (RAs.cons (RE.var (d := begin1414) rfl) (RAs.cons (RE.var (d := end1415) rfl) (RAs.cons (RE.var (d := end1415) rfl) RAs.nil)))) (RAs.cons (RE.tup (RAs.cons RE.negC (RAs.cons (RE.var (d := end1415) rfl) RAs.nil))) (RAs.cons (RE.tup (RAs.cons (RE.var (d := begin1414) rfl) (RAs.cons (RE.op add_d (RE.rr (RE.op pow_d (RE.rr RE.int) (RE.rr RE.int))) (RE.rr RE.int)) RAs.nil))) RAs.nil))))))) (fun some1417 => (G.asg (RE.op add_d (RE.rr (RE.var (d := some1417) rfl)) (RE.rr (RN.re (RN.lst (RAs.cons (RE.tup (RAs.cons RE.bl (RAs.cons (RE.var (d := end1415) rfl) RAs.nil))) (RAs.cons (RE.tup (RAs.cons (RE.var (d := begin1414) rfl) (RAs.cons RE.bl RAs.nil))) RAs.nil)))))) (fun some1437 => (G.asg (RE.op add_d (RE.rr (RE.var (d := some1437) rfl)) (RE.rr (RN.re (RN.lst (RAs.cons (RE.tup (RAs.cons (RE.cb strI_c (RAr.cons (RE.rr (RE.var (d := begin1414) rfl)) RAr.nil)) (RAs.cons (RE.var (d := end1415) rfl) RAs.nil))) (RAs.cons (RE.tup (RAs.cons (RE.var (d := begin1414) rfl) (RAs.cons RE.non RAs.nil))) (RAs.cons RE.non RAs.nil))))))) (fun some1446 => (G.asg (RE.op add_d (RE.rr (RE.var (d := some1446) rfl)) (RE.rr (RN.re (RN.lst (RAs.cons (RE.var (d := begin1414) rfl) (RAs.cons (RN.re RN.dnew) (RAs.cons (RE.tup (RAs.cons (RE.op sub_d (RE.rr (RE.op sub_d (RE.rr RE.int) (RE.rr (RE.var (d := begin1414) rfl)))) (RE.rr RE.int)) (RAs.cons (RE.var (d := end1415) rfl) RAs.nil))) RAs.nil))))))) (fun some1457 => (G.asg (RE.op add_d (RE.rr (RE.var (d := some1457) rfl)) (RE.rr (RN.re (RN.lst (RAs.cons (RE.tup (RAs.cons (RE.var (d := begin1414) rfl) (RAs.cons (RE.op pow_d (RE.rr RE.int) (RE.rr RE.int)) RAs.nil))) (RAs.cons (RE.var (d := span1413) rfl) (RAs.cons (RE.tup (RAs.cons (RE.op add_d (RE.rr (RE.op pow_d (RE.rr RE.int) (RE.rr RE.int))) (RE.rr RE.int)) (RAs.cons (RE.var (d := end1415) rfl) RAs.nil))) (RAs.cons (RE.tup (RAs.cons (RE.var (d := begin1414) rfl) (RAs.cons RE.negC RAs.nil))) RAs.nil)))))))) (fun some1469 => (G.one (G.retF (fun _ r => r.1) (RE.op ix_d (RE.rr (RE.var (d := some1469) rfl)) (RE.rr (RE.take (i := 0) rfl RE.int)))))))))))))))) w))
theorem ok_law_odd_row (T : Tx w K mg a) : FnOk P w K mg base CX0 2 a.f_law_odd_row a.d_law_odd_row ["_law_bag_here", "_law_row"] (spM K [.bag, .dat] l_law_odd_row) := by
  refine T.F_law_odd_row.ok (k := 1) sc_law_odd_row (fun vs H Q E h => spM_len h) (fun cdv A outer s H vs Q E hr h => ?_)
  refine ⟨_, PSs.nox (pss_cons (ps_par (i := 2) (j := 3) (by rfl) sc_law_odd_row.nd rfl rfl (by decide) rfl rfl (pa_cons (pe_ix (VB.ixA (K := K) rfl (VB.room65 hr)) (pv 1) pe_int (fun _ _ => rfl)) (pa_cons (pe_callTy (VB.kLstA (K := K) rfl rfl) (by rfl) T.n_list (by decide +kernel) (pa_cons (pe_ix (VB.ixA (K := K) rfl (VB.room65 hr)) (pv 1) pe_int (fun _ _ => rfl)) pa_nil)) pa_nil)) (by rfl))
    (pss_cons (ps_set (i := 4) sc_law_odd_row.nd rfl (Or.inl rfl) (pe_ix (VB.ixA (K := K) rfl (VB.room65 hr)) (pe_lst (pa_cons pe_str (pa_cons pe_str (pa_cons pe_str (pa_cons pe_str (pa_cons pe_non (pa_cons pe_int (pa_cons (pe_tup (pa_cons pe_str pa_nil)) (pa_cons pe_str (pa_cons pe_bl (pa_cons (pe_lst pa_nil) pa_nil))))))))))) (pe_call (ok_law_take (K := K) T) (hr.mono (by decide)) (by rfl) T.m_law_take T.k_law_take T.b_law_take .nil pass0 (pa_cons (pv 0) (pa_cons pe_int pa_nil))) (fun _ _ => rfl)))
    (pss_cons (ps_set (i := 5) sc_law_odd_row.nd rfl (Or.inl rfl) (pe_call (ok_law_take (K := K) T) (hr.mono (by decide)) (by rfl) T.m_law_take T.k_law_take T.b_law_take .nil pass0 (pa_cons (pv 0) (pa_cons (pe_op (VB.op_addX (K := K) rfl) (pe_callB (VB.kLenA (K := K) rfl) (by rfl) T.n_len (by decide +kernel) (pa_cons (pv 3) pa_nil)) pe_int) pa_nil))))
    (pss_cons (ps_set (i := 6) sc_law_odd_row.nd rfl (Or.inl rfl) (pe_lst (pa_cons (pe_lst (pa_cons (pv 2) (pa_cons (pv 3) pa_nil))) (pa_cons (pe_tup (pa_cons (pv 2) pa_nil)) (pa_cons (pe_tup (pa_cons (pv 2) (pa_cons (pv 3) (pa_cons (pv 3) pa_nil)))) (pa_cons (pe_tup (pa_cons (pv 3) (pa_cons (pv 2) pa_nil))) (pa_cons (pe_tup (pa_cons (pv 4) (pa_cons (pv 3) pa_nil))) pa_nil)))))))
    (pss_cons (ps_set (i := 6) sc_law_odd_row.nd rfl (Or.inl rfl) (pe_op (VB.op_addX (K := K) rfl) (pv 6) (pe_lst (pa_cons (pe_tup (pa_cons (pv 2) (pa_cons (pe_op (VB.op_addX (K := K) rfl) (pe_op (VB.op_addX (K := K) rfl) (pe_slice (VB.slX (K := K) rfl) (pv 3) po_none (po_some (pv 5))) (pe_lst (pa_cons (pv 4) pa_nil))) (pe_slice (VB.slX (K := K) rfl) (pv 3) (po_some (pv 5)) po_none)) pa_nil))) (pa_cons (pe_tup (pa_cons (pv 2) (pa_cons pe_str pa_nil))) pa_nil)))))
    (pss_cons (ps_set (i := 6) sc_law_odd_row.nd rfl (Or.inl rfl) (pe_op (VB.op_addX (K := K) rfl) (pv 6) (pe_lst (pa_cons (pe_tup (pa_cons (pv 2) (pa_cons pe_dnewK pa_nil))) (pa_cons (pe_tup (pa_cons (pv 2) (pa_cons pe_non pa_nil))) pa_nil)))))
    (pss_cons (ps_set (i := 6) sc_law_odd_row.nd rfl (Or.inl rfl) (pe_op (VB.op_addX (K := K) rfl) (pv 6) (pe_lst (pa_cons (pe_tup (pa_cons (pv 2) (pa_cons (pe_callTy (VB.kDictA (K := K) rfl rfl) (by rfl) T.n_dict (by decide +kernel) (pa_cons (pe_lc (own := [("_law_one", 7)]) (g := gName 7) (tt := tYes) rfl sc_law_odd_row.nd (VB.pi_dat (K := K) rfl (pv 3)) (blkOk_by (N := ["_law_bag_here", "_law_row", "_law_rule", "_law_some", "_law_odd_here", "_law_spot", "_law_menu", "_law_one"]) (sc := defScope s_law_odd_row) (by decide +kernel)) (fun _ _ _ _ _ => (pg_name (i := 7) sc_law_odd_row.nd rfl (Or.inl rfl))) (fun _ _ _ _ _ => pts_nil) (fun _ _ _ _ _ => (pe_tup (pa_cons (pv 7) (pa_cons pe_int pa_nil))))) pa_nil)) pa_nil))) (pa_cons (pv 2) (pa_cons pe_non pa_nil))))))
    (pss_one (ps_ret (pe_ix (VB.ixA (K := K) rfl (VB.room65 hr)) (pe_op (VB.op_addX (K := K) rfl) (pv 6) (pe_lst (pa_cons (pe_tup (pa_cons (pv 2) (pa_cons (pe_callTy (VB.kTup (K := K) rfl) (by rfl) T.n_tuple (by decide +kernel) (pa_cons (pv 3) pa_nil)) pa_nil))) (pa_cons (pv 1) pa_nil)))) (pe_call (ok_law_take (K := K) T) (hr.mono (by decide)) (by rfl) T.m_law_take T.k_law_take T.b_law_take .nil pass0 (pa_cons (pv 0) (pa_cons pe_int pa_nil))) (fun _ _ => rfl))))))))))), body_M h fun ds hd => ?_⟩
  match ds, hd with
  | _, (.bag b1752 (.dat row1753 .nil)) =>
    refine ⟨[.bag b1752, .dat row1753, .no, .no, .no, .no, .no, .no], rfl, ?_⟩
    show G K _ _ _ (m_law_odd_row row1753) CF
    unfold m_law_odd_row
    exact (G.par (RAs.cons (RE.op ixA_d (RE.rr (RE.var (d := row1753) rfl)) (RE.rr RE.int)) (RAs.cons (RN.re (RN.cb lstA_c (RAr.cons (RE.rr (RE.op ixA_d (RE.rr (RE.var (d := row1753) rfl)) (RE.rr RE.int))) RAr.nil))) RAs.nil)) (fun rule1759 some1760 => (G.asg (RE.op ixA_d (RE.rr (RN.re (RN.lst (RAs.cons RE.str (RAs.cons RE.str (RAs.cons RE.str (RAs.cons RE.str (RAs.cons RE.non (RAs.cons RE.int (RAs.cons (RE.tup (RAs.cons RE.str RAs.nil)) (RAs.cons RE.str (RAs.cons RE.bl (RAs.cons (RN.re (RN.lst RAs.nil)) RAs.nil))))))))))))) (RE.rr (RE.take (i := 0) rfl RE.int))) (fun odd_here1761 => (G.asg (RE.take (i := 0) rfl (RE.op add_d (RE.rr (RE.cb lenA_c (RAr.cons (RE.rr (RE.var (d := some1760) rfl)) RAr.nil))) (RE.rr RE.int))) (fun spot1775 => (G.asg (RN.re (RN.lst (RAs.cons (RN.re (RN.lst (RAs.cons (RE.var (d := rule1759) rfl) (RAs.cons (RE.var (d := some1760) rfl) RAs.nil)))) (RAs.cons (RE.tup (RAs.cons (RE.var (d := rule1759) rfl) RAs.nil)) (RAs.cons (RE.tup (RAs.cons (RE.var (d := rule1759) rfl) (RAs.cons (RE.var (d := some1760) rfl) (RAs.cons (RE.var (d := some1760) rfl) RAs.nil)))) (RAs.cons (RE.tup (RAs.cons (RE.var (d := some1760) rfl) (RAs.cons (RE.var (d := rule1759) rfl) RAs.nil))) (RAs.cons (RE.tup (RAs.cons (RE.var (d := odd_here1761) rfl) (RAs.cons (RE.var (d := some1760) rfl) RAs.nil))) RAs.nil))))))) (fun menu1779 => (G.asg (RE.op add_d (RE.rr (RE.var (d := menu1779) rfl)) (RE.rr (RN.re (RN.lst (RAs.cons (RE.tup (RAs.cons (RE.var (d := rule1759) rfl) (RAs.cons (RE.op add_d (RE.rr (RE.op add_d (RE.rr (RE.sl sl_d (RE.rr (RE.var (d := some1760) rfl)) RO.none (RO.some (RE.var (d := spot1775) rfl)))) (RE.rr (RN.re (RN.lst (RAs.cons (RE.var (d := odd_here1761) rfl) RAs.nil)))))) (RE.rr (RE.sl sl_d (RE.rr (RE.var (d := some1760) rfl)) (RO.some (RE.var (d := spot1775) rfl)) RO.none))) RAs.nil))) (RAs.cons (RE.tup (RAs.cons (RE.var (d := rule1759) rfl) (RAs.cons RE.str RAs.nil))) RAs.nil)))))) (fun menu1795 => (G.asg (RE.op add_d (RE.rr (RE.var (d := menu1795) rfl)) (RE.rr (RN.re (RN.lst (RAs.cons (RE.tup (RAs.cons (RE.var (d := rule1759) rfl) (RAs.cons (RN.re RN.dnew) RAs.nil))) (RAs.cons (RE.tup (RAs.cons (RE.var (d := rule1759) rfl) (RAs.cons RE.non RAs.nil))) RAs.nil)))))) (fun menu1819 => (G.asg (RE.op add_d (RE.rr (RE.var (d := menu1819) rfl)) (RE.rr (RN.re (RN.lst (RAs.cons (RE.tup (RAs.cons (RE.var (d := rule1759) rfl) (RAs.cons (RN.re (RN.cb dictA_c (RAr.cons (RE.rr (RN.re (RN.map (p := .nm 7) (js := [7]) (RI.dat (RE.var (d := some1760) rfl)) (fun _ m => m) (PB.nm fun one1830 P w => CTp.of (RE.tup (RAs.cons (RE.var (d := one1830) rfl) (RAs.cons RE.int RAs.nil))) w)))) RAr.nil))) RAs.nil))) (RAs.cons (RE.var (d := rule1759) rfl) (RAs.cons RE.non RAs.nil))))))) (fun menu1828 => (G.one (G.retF (fun _ r => r.1) (RE.op ixA_d (RE.rr (RE.op add_d (RE.rr (RE.var (d := menu1828) rfl)) (RE.rr (RN.re (RN.lst (RAs.cons (RE.tup (RAs.cons (RE.var (d := rule1759) rfl) (RAs.cons (RE.cb tup_c (RAr.cons (RE.rr (RE.var (d := some1760) rfl)) RAr.nil)) RAs.nil))) (RAs.cons (RE.var (d := row1753) rfl) RAs.nil))))))) (RE.rr (RE.take (i := 0) rfl RE.int)))))))))))))))))))
theorem ok_law_spoilt (T : Tx w K mg a) : FnOk P w K mg base CX0 3 a.f_law_spoilt a.d_law_spoilt ["_law_bag_here", "_law_way", "_law_rows"] (spM K [.bag, .bor, .bor] l_law_spoilt) := by
  refine T.F_law_spoilt.ok (k := 2) sc_law_spoilt (fun vs H Q E h => spM_len h) (fun cdv A outer s H vs Q E hr h => ?_)
  refine ⟨_, PSs.nox (pss_cons (ps_par (i := 3) (j := 4) (by rfl) sc_law_spoilt.nd rfl rfl (by decide) rfl rfl (pa_cons (pe_call (ok_law_take (K := K) T) (hr.mono (by decide)) (by rfl) T.m_law_take T.k_law_take T.b_law_take .nil pass0 (pa_cons (pv 0) (pa_cons pe_int pa_nil))) (pa_cons (pe_call (ok_law_take (K := K) T) (hr.mono (by decide)) (by rfl) T.m_law_take T.k_law_take T.b_law_take .nil pass0 (pa_cons (pv 0) (pa_cons (pe_op (VB.op_addX (K := K) rfl) (pe_callB (VB.kLenA (K := K) rfl) (by rfl) T.n_len (by decide +kernel) (pa_cons (pv 2) pa_nil)) pe_int) pa_nil))) pa_nil)) (by rfl))
    (pss_cons (ps_set (i := 5) sc_law_spoilt.nd rfl (Or.inl rfl) (pe_ix (VB.ixA (K := K) rfl (VB.room65 hr)) (pe_op (VB.op_addX (K := K) rfl) (pe_slice (VB.slX (K := K) rfl) (pv 2) (po_some (pv 4)) (po_some (pe_op (VB.op_addX (K := K) rfl) (pv 4) pe_int))) (pe_lst (pa_cons (pe_ix (VB.ixA (K := K) rfl (VB.room65 hr)) (pe_lst (pa_cons (pe_tup (pa_cons pe_int (pa_cons pe_int pa_nil))) (pa_cons (pe_tup (pa_cons pe_str (pa_cons (pe_lst (pa_cons pe_str pa_nil)) pa_nil))) pa_nil))) (pv 1) (fun _ _ => rfl)) pa_nil))) pe_int (fun _ _ => rfl)))
    (pss_cons (ps_if (pt_cmpR (VB.op_eqX (K := K) rfl hr.units) (pv 3) pe_int (nomark _)) (pss_one (ps_ret (pe_ix (VB.ixA (K := K) rfl (VB.room65 hr)) (pe_lst (pa_cons (pe_call (ok_law_odd (K := K) T) (hr.mono (by decide)) (by rfl) T.m_law_odd T.k_law_odd T.b_law_odd .nil pass0 (pa_cons (pv 0) pa_nil)) (pa_cons (pe_callTy (VB.kTup (K := K) rfl) (by rfl) T.n_tuple (by decide +kernel) (pa_cons (pv 2) pa_nil)) (pa_cons (VB.pe_dictEn rfl (pv 2) (by rfl) T.n_dict (by decide +kernel) (by rfl) T.n_enumerate (by decide +kernel)) pa_nil)))) (pe_call (ok_law_take (K := K) T) (hr.mono (by decide)) (by rfl) T.m_law_take T.k_law_take T.b_law_take .nil pass0 (pa_cons (pv 0) (pa_cons pe_int pa_nil))) (fun _ _ => rfl)))) pss_nil)
    (pss_cons (ps_if (pt_cmpR (VB.op_eqX (K := K) rfl hr.units) (pv 3) pe_int (nomark _)) (pss_one (ps_ret (pe_op (VB.op_addX (K := K) rfl) (pe_op (VB.op_addX (K := K) rfl) (pe_slice (VB.slX (K := K) rfl) (pv 2) po_none (po_some (pv 4))) (pe_lst (pa_cons (pv 5) pa_nil))) (pe_slice (VB.slX (K := K) rfl) (pv 2) (po_some (pv 4)) po_none)))) pss_nil)
    (pss_cons (ps_set (i := 6) sc_law_spoilt.nd rfl (Or.inl rfl) (pe_ifExp (pt_cmpR (VB.op_eqX (K := K) rfl hr.units) (pv 1) pe_int (nomark _)) (pe_call (ok_law_odd_span (K := K) T) (hr.mono (by decide)) (by rfl) T.m_law_odd_span T.k_law_odd_span T.b_law_odd_span .nil pass0 (pa_cons (pv 0) (pa_cons (pv 5) pa_nil))) (pe_call (ok_law_odd_row (K := K) T) (hr.mono (by decide)) (by rfl) T.m_law_odd_row T.k_law_odd_row T.b_law_odd_row .nil pass0 (pa_cons (pv 0) (pa_cons (pv 5) pa_nil)))))
    (pss_one (ps_ret (pe_op (VB.op_addX (K := K) rfl) (pe_op (VB.op_addX (K := K) rfl) (pe_slice (VB.slX (K := K) rfl) (pv 2) po_none (po_some (pv 4))) (pe_lst (pa_cons (pv 6) pa_nil))) (pe_slice (VB.slX (K := K) rfl) (pv 2) (po_some (pe_op (VB.op_addX (K := K) rfl) (pv 4) (pe_callTy call_int1 (by rfl) T.n_int (by decide +kernel) (pa_cons (pe_cmpR VB.op_gtX (pv 3) pe_int (nomark _)) pa_nil)))) po_none))))))))), body_M h fun ds hd => ?_⟩
  match ds, hd with
  | _, (.bag b1983 (.bor way1984 (.bor rows1985 .nil))) =>
    refine ⟨[.bag b1983, .bor way1984, .bor rows1985, .no, .no, .no, .no], rfl, ?_⟩
    show G K _ _ _ (m_law_spoilt way1984 rows1985) CF
    unfold m_law_spoilt
    exact (G.par (RAs.cons (RE.take (i := 0) rfl RE.int) (RAs.cons (RE.take (i := 0) rfl (RE.op add_d (RE.rr (RE.cb lenA_c (RAr.cons (RR.bor (d := rows1985) rfl) RAr.nil))) (RE.rr RE.int))) RAs.nil)) (fun kind1989 spot1990 => (G.asg (RE.op ixA_d (RE.rr (RE.op add_d (RE.rr (RE.sl sl_d (RR.bor (d := rows1985) rfl) (RO.some (RE.var (d := spot1990) rfl)) (RO.some (RE.op add_d (RE.rr (RE.var (d := spot1990) rfl)) (RE.rr RE.int))))) (RE.rr (RN.re (RN.lst (RAs.cons (RE.op ixA_d (RE.rr (RN.re (RN.lst (RAs.cons (RE.tup (RAs.cons RE.int (RAs.cons RE.int RAs.nil))) (RAs.cons (RE.tup (RAs.cons RE.str (RAs.cons (RN.re (RN.lst (RAs.cons RE.str RAs.nil))) RAs.nil))) RAs.nil))))) (RR.bor (d := way1984) rfl)) RAs.nil)))))) (RE.rr RE.int)) (fun row1991 => (G.ifS (RT.test (RE.rr (RE.op eq_d (RE.rr (RE.var (d := kind1989) rfl)) (RE.rr RE.int)))) (G.retF (fun _ r => r.1) (RE.op ixA_d (RE.rr (RN.re (RN.lst (RAs.cons (RE.callE (RAm.bag (i := 0) rfl RAm.nil) rfl) (RAs.cons (RE.cb tup_c (RAr.cons (RR.bor (d := rows1985) rfl) RAr.nil)) (RAs.cons (RN.re (RN.dictEn (RR.bor (d := rows1985) rfl))) RAs.nil)))))) (RE.rr (RE.take (i := 0) rfl RE.int)))) (G.next (G.ifS (RT.test (RE.rr (RE.op eq_d (RE.rr (RE.var (d := kind1989) rfl)) (RE.rr RE.int)))) (G.retF (fun _ r => r.1) (RE.op add_d (RE.rr (RE.op add_d (RE.rr (RE.sl sl_d (RR.bor (d := rows1985) rfl) RO.none (RO.some (RE.var (d := spot1990) rfl)))) (RE.rr (RN.re (RN.lst (RAs.cons (RE.var (d := row1991) rfl) RAs.nil)))))) (RE.rr (RE.sl sl_d (RR.bor (d := rows1985) rfl) (RO.some (RE.var (d := spot1990) rfl)) RO.none)))) (G.next (G.asg (RE.ifx (RT.test (RE.rr (RE.op eq_d (RR.bor (d := way1984) rfl) (RE.rr RE.int)))) (RE.callE (RAm.bag (i := 0) rfl (RAm.dat (RE.var (d := row1991) rfl) RAm.nil)) rfl) (RE.callE (RAm.bag (i := 0) rfl (RAm.dat (RE.var (d := row1991) rfl) RAm.nil)) rfl)) (fun odd_here2042 => (G.one (G.retF (fun _ r => r.1) (RE.op add_d (RE.rr (RE.op add_d (RE.rr (RE.sl sl_d (RR.bor (d := rows1985) rfl) RO.none (RO.some (RE.var (d := spot1990) rfl)))) (RE.rr (RN.re (RN.lst (RAs.cons (RE.var (d := odd_here2042) rfl) RAs.nil)))))) (RE.rr (RE.sl sl_d (RR.bor (d := rows1985) rfl) (RO.some (RE.op add_d (RE.rr (RE.var (d := spot1990) rfl)) (RE.rr (RE.cb int_c (RAr.cons (RE.rr (RE.op gt_d (RE.rr (RE.var (d := kind1989) rfl)) (RE.rr RE.int))) RAr.nil))))) RO.none)))))))))))))))
theorem ok_law_tried (T : Tx w K mg a) : FnOk P w K mg base CX0 6 a.f_law_tried a.d_law_tried ["_law_way", "_law_things"] (spM K [.bor, .bor] (l_law_tried a.c)) := by
  refine T.F_law_tried.ok (k := 5) sc_law_tried (fun vs H Q E h => spM_len h) (fun cdv A outer s H vs Q E hr h => ?_)
  refine ⟨_, PSs.nox (pss_one (VB.ps_try1 (i := 2) rfl rfl sc_law_tried.nd rfl rfl ⟨by rfl, by decide, .inl T.mc_Wrong⟩ VB.take_none rfl (fun E pn xe px => (pe_tup (pa_cons pe_str (pa_cons (pe_ifExp (pt_cmpR (VB.op_eqX (K := K) rfl hr.units) (pv 0) pe_int (nomark _)) (pe_make T.mk_Days (okx_Days_init (K := K) T) (hr.mono (by decide)) (by rfl) T.mc_Days T.b_Days_init .nil px (pa_cons (pe_ix (VB.ixX (K := K) rfl) (pv 1) pe_int (fun _ _ => rfl)) pa_nil)) (pe_make T.mk_Carry (okx_Carry_init (K := K) T) (hr.mono (by decide)) (by rfl) T.mc_Carry T.b_Carry_init .nil px (pa_cons (pe_ix (VB.ixX (K := K) rfl) (pv 1) pe_int (fun _ _ => rfl)) (pa_cons (pe_ix (VB.ixX (K := K) rfl) (pv 1) pe_int (fun _ _ => rfl)) pa_nil)))) pa_nil)))) (fun a0 oe cls d pn hz hf => (pss_cons (ps_set (i := 3) sc_law_tried.nd rfl (Or.inl rfl) (pe_and (pe_callB (VB.call_isX hz hf) (by rfl) T.n_isinstance (by decide +kernel) (pa_cons (pv 2) (pa_cons (pe_glob (v := .ref a.c.VouchError) (by rfl) T.mc_VouchError rfl) pa_nil))) (pe_one (pe_not (pe_callB (VB.call_isX hz hf) (by rfl) T.n_isinstance (by decide +kernel) (pa_cons (pv 2) (pa_cons (pe_tup (pa_cons (pe_glob (v := .ref a.c.TooMany) (by rfl) T.mc_TooMany rfl) (pa_cons (pe_glob (v := .ref a.c.Unfit) (by rfl) T.mc_Unfit rfl) pa_nil))) pa_nil))))))) (pss_one (ps_ret (pe_tup (pa_cons pe_str (pa_cons (pe_ifExp (pt_val (pv 3)) (pe_xf T.er_Wrong.xf T.er_Wrong.nf hz hf (pv 2)) pe_str) pa_nil))))))))), body_M h fun ds hd => ?_⟩
  match ds, hd with
  | _, (.bor way2148 (.bor things2149 .nil)) =>
    refine ⟨[.bor way2148, .bor things2149, .no, .no], rfl, ?_⟩
    show G K _ _ _ (m_law_tried a.c way2148 things2149) CF
    unfold m_law_tried
    exact (G.one (G.tryAs (n := 4) (fun _ r => r.1) rfl T.er_Wrong.me (fun E => (RX.tup2 RE.str (RX.ifx (RT.test (RE.rr (RE.op eq_d (RR.bor (d := way2148) rfl) (RE.rr RE.int)))) (RX.makeE (C := a.c.Days) (l := lx_Days_init a.c) (RAm.bor (RE.rr (RE.op ix_d (RR.bor (d := things2149) rfl) (RE.rr RE.int))) RAm.nil) rfl) (RX.makeE (C := a.c.Carry) (l := lx_Carry_init a.c) (RAm.dat (RE.op ix_d (RR.bor (d := things2149) rfl) (RE.rr RE.int)) (RAm.bor (RE.rr (RE.op ix_d (RR.bor (d := things2149) rfl) (RE.rr RE.int))) RAm.nil)) rfl)))) (VB.su_refused (f := "place") (n := 4) (i := 2) (j := 3) (z1 := "refused") (z2 := "odd") T.er_Wrong.ex T.ki_Wrong_VouchError T.ka_Wrong_TooMany_Unfit (by decide) (by decide) (by decide))))
theorem ok_law_as_told (T : Tx w K mg a) : FnOk P w K mg base CX0 3 a.f_law_as_told a.d_law_as_told ["_law_bag_here", "_law_way", "_law_things", "_law_found"] (spM K [.bag, .bor, .bor, .bor] (l_law_as_told a.c)) := by
  refine T.F_law_as_told.ok (k := 2) sc_law_as_told (fun vs H Q E h => spM_len h) (fun cdv A outer s H vs Q E hr h => ?_)
  refine ⟨_, PSs.nox (pss_cons (ps_if (pt_cmpR (VB.op_eqX (K := K) rfl hr.units) (pv 1) pe_int (nomark _)) (pss_cons (ps_for PassesOwn.never rfl (VB.pi_dat (K := K) rfl (pe_ix (VB.ixX (K := K) rfl) (pv 2) pe_int (fun _ _ => rfl))) (VB.kTg (K := K) (n := 2) rfl rfl (pgs_cons (pg_name (i := 4) sc_law_as_told.nd rfl (Or.inl rfl)) (pgs_cons (pg_name (i := 5) sc_law_as_told.nd rfl (Or.inl rfl)) pgs_nil)))
      (pss_one (ps_if (pt_cmpR (VB.op_neX (K := K) rfl hr.units) (pe_lc (own := [("_law_day", 9)]) (g := gName 9) rfl sc_law_as_told.nd (VB.pi_dat (K := K) rfl (pe_tup (pa_cons (pv 4) (pa_cons (pv 5) pa_nil)))) (blkOk_by (N := ["_law_bag_here", "_law_way", "_law_things", "_law_found", "_law_begin", "_law_end", "_law_wrong_here", "_law_rule", "_law_some", "_law_day"]) (sc := defScope s_law_as_told) (by decide +kernel)) (fun _ _ _ _ _ => (pg_name (i := 9) sc_law_as_told.nd rfl (Or.inl rfl))) (fun _ _ _ _ _ => pts_one (pt_cmpR (VB.op_neX (K := K) rfl hr.units) (pe_cmpR (VB.op_inO T.me_Days_contains (ok_Days_contains (K := K) T) T.b_Days_contains (hr.mono (by decide)) pass0) (pv 9) (pv 3) (by rfl)) (pe_call (ok_law_has_day (K := K) T) (hr.mono (by decide)) (by rfl) T.m_law_has_day T.k_law_has_day T.b_law_has_day .nil pass0 (pa_cons (pe_ix (VB.ixX (K := K) rfl) (pv 2) pe_int (fun _ _ => rfl)) (pa_cons (pv 9) pa_nil))) (nomark _))) (fun _ _ _ _ _ => (pv 9))) (pe_lst pa_nil) (nomark _)) (pss_one (ps_ret pe_bl)) pss_nil)))
    (pss_one (ps_ret pe_bl))) pss_nil)
    (pss_cons (ps_setLc (i := 6) rfl sc_law_as_told.nd rfl rfl (sw_true rfl rfl rfl (by decide +kernel)) (own := [("_law_rule", 7), ("_law_some", 8)]) (VB.pi_dat (K := K) rfl (pe_ix (VB.ixX (K := K) rfl) (pv 2) pe_int (fun _ _ => rfl))) (blkOk_by (N := ["_law_bag_here", "_law_way", "_law_things", "_law_found", "_law_begin", "_law_end", "_law_wrong_here", "_law_rule", "_law_some", "_law_day"]) (sc := defScope s_law_as_told) (by decide +kernel)) (fun _ _ _ _ _ => (VB.kTg (K := K) (n := 2) rfl rfl (pgs_cons (pg_name (i := 7) sc_law_as_told.nd rfl (Or.inl rfl)) (pgs_cons (pg_name (i := 8) sc_law_as_told.nd rfl (Or.inl rfl)) pgs_nil)))) (fun _ _ _ _ _ => pts_one (pt_cmpR (VB.op_neX (K := K) rfl hr.units) (pe_meth (pv 3) T.c_Carry.cl T.me_Carry_carried (ok_Carry_carried (K := K) T) (hr.mono (by decide)) T.b_Carry_carried .nil pass0 (pa_cons (pv 7) pa_nil)) (pe_callB (VB.cr_sortedX rfl rfl rfl) (by rfl) T.n_sorted (by decide +kernel) (pa_cons (pe_callTy (VB.cr_setX (K := K) rfl rfl rfl rfl) (by rfl) T.n_set (by decide +kernel) (pa_cons (pv 8) pa_nil)) pa_nil)) (nomark _))) (fun _ _ _ _ _ => (pv 7)))
    (pss_one (ps_ret (pe_and (pe_cmpR (VB.op_eqX (K := K) rfl hr.units) (pv 6) (pe_lst pa_nil) (nomark _)) (pe_one (pe_cmpR (VB.op_eqX (K := K) rfl hr.units) (pe_prop (pv 3) T.c_Carry.cl T.pp_Carry_rest (ok_Carry_rest (K := K) T) (hr.mono (by decide)) T.b_Carry_rest .nil pass0 rfl) (pe_ix (VB.ixX (K := K) rfl) (pv 2) pe_int (fun _ _ => rfl)) (nomark _)))))))), body_M h fun ds hd => ?_⟩
  match ds, hd with
  | _, (.bag b2214 (.bor way2215 (.bor things2216 (.bor found2217 .nil)))) =>
    refine ⟨[.bag b2214, .bor way2215, .bor things2216, .bor found2217, .no, .no, .no, .no, .no, .no], rfl, ?_⟩
    show G K _ _ _ (m_law_as_told a.c way2215 things2216 found2217) CF
    unfold m_law_as_told
    exact (G.ifS (RT.test (RE.rr (RE.op eq_d (RR.bor (d := way2215) rfl) (RE.rr RE.int)))) (G.assoc (G.forF (embL := fun s2225 : Unit => [.bag b2214, .bor way2215, .bor things2216, .bor found2217, .no, .no, .no, .no, .no, .no]) (s0 := ()) (p := Pt.two 4 5) (fun _ r => r.1) (RI.dat (RE.op ix_d (RR.bor (d := things2216) rfl) (RE.rr RE.int))) (.same _ (.same _ (.same _ (.same _ (.same _ (.same _ (.same _ (.same _ (.same _ (.same _ .nil)))))))))) (fun s2224 => PB.two fun begin2226 end2227 P w => LT.of (by exact (G.one (G.ifS (RT.test (RE.rr (RE.op ne_d (RE.rr (RN.re (RN.lc (p := .nm 9) (js := [9]) (RI.dat (RE.tup (RAs.cons (RE.var (d := begin2226) rfl) (RAs.cons (RE.var (d := end2227) rfl) RAs.nil)))) (fun _ m => m) (PB.nm fun day2234 P w => CT.test (RT.test (RE.rr (RE.op ne_d (RE.rr (RE.op inO_d (RE.rr (RE.var (d := day2234) rfl)) (RR.bor (d := found2217) rfl))) (RE.rr (RE.callE (RAm.bor (RE.rr (RE.op ix_d (RR.bor (d := things2216) rfl) (RE.rr RE.int))) (RAm.bor (RE.rr (RE.var (d := day2234) rfl)) RAm.nil)) rfl))))) (RE.var (d := day2234) rfl) w)))) (RE.rr (RN.re (RN.lst RAs.nil)))))) (G.retS (fun _ r => r.1) RE.bl) (G.next (G.finS (.same _ (.same _ (.same _ (.same _ (.drop _ (.drop _ (.same _ (.same _ (.same _ (.same _ .nil))))))))))))))) w) (fun s2230 => (G.retF (fun _ r => r.1) RE.bl)))) (G.next (G.asg (RN.re (RN.lc (p := Pt.two 7 8) (js := [7, 8]) (RI.dat (RE.op ix_d (RR.bor (d := things2216) rfl) (RE.rr RE.int))) (fun _ m => m) (PB.two fun rule2255 some2256 P w => CT.test (RT.test (RE.rr (RE.op ne_d (RE.rr (RN.re (RN.meth (RR.bor (d := found2217) rfl) (RAm.dat (RE.var (d := rule2255) rfl) RAm.nil)))) (RE.rr (RN.re (RN.sortedSet (RE.rr (RE.var (d := some2256) rfl)))))))) (RE.var (d := rule2255) rfl) w))) (fun wrong_here2251 => (G.one (G.retF (fun _ r => r.1) (RE.andV (RE.op eq_d (RE.rr (RE.var (d := wrong_here2251) rfl)) (RE.rr (RN.re (RN.lst RAs.nil)))) (RE.op eq_d (RE.rr (RE.prop (RR.bor (d := found2217) rfl))) (RE.rr (RE.op ix_d (RR.bor (d := things2216) rfl) (RE.rr RE.int)))))))))))
end K28
namespace K28
open PySem PySem.Spec PyProof.Rows L2 VB
variable {P : Program} {w : World} {K : PySem.W.Frag} {mg : Str → Option Value} {base : Heap} {a : Ad}
set_option maxHeartbeats 0 in
theorem ok_law (T : Tx w K mg a) (hw : wp (m_law a.c) fun d => d = .bl true) : FnG P w K mg base CX0 7 a.f_law a.d_law ["_law_script"] (spLaw K) := by
  refine VB.okG (k := 6) T.F_law sc_law (fun vs H Q E h => ?_) (fun cdv A outer s H vs Q E hg hr h => ?_)
  · obtain ⟨_, _, rfl, _⟩ := h
    rfl
  · refine ⟨_, PSs.nox (pss_cons (ps_set (i := 1) sc_law.nd rfl (Or.inr rfl) (pe_call (ok_law_bag (K := K) T) (hr.mono (by decide)) (by rfl) T.m_law_bag T.k_law_bag T.b_law_bag .nil pass0 (pa_cons (pv 0) pa_nil)))
    (pss_cons (ps_set (i := 2) sc_law.nd rfl (Or.inr rfl) (pe_call (ok_law_labels (K := K) T) (hr.mono (by decide)) (by rfl) T.m_law_labels T.k_law_labels T.b_law_labels .nil pass0 (pa_cons (pv 1) (pa_cons pe_int pa_nil))))
    (pss_cons (ps_for PassesOwn.never rfl (pi_range1 rfl T.n_range (pa_cons pe_int pa_nil)) (pg_name (i := 3) sc_law.nd rfl (Or.inl rfl))
      (pss_cons (ps_set (i := 4) sc_law.nd rfl (Or.inl rfl) (pe_call (ok_law_take (K := K) T) (hr.mono (by decide)) (by rfl) T.m_law_take T.k_law_take T.b_law_take .nil pass0 (pa_cons (pv 1) (pa_cons pe_int pa_nil))))
    (pss_cons (ps_set (i := 5) sc_law.nd rfl (Or.inl rfl) (pe_call (ok_law_drawn_spans (K := K) T) (hr.mono (by decide)) (by rfl) T.m_law_drawn_spans T.k_law_drawn_spans T.b_law_drawn_spans .nil pass0 (pa_cons (pv 1) (pa_cons pe_int pa_nil))))
    (pss_cons (ps_setLc (i := 6) rfl sc_law.nd rfl rfl (sw_true rfl rfl rfl (by decide +kernel)) (own := [("_law_rule", 14)]) (g := gName 14) (tt := tYes) (VB.pi_dat (K := K) rfl (pe_slice (VB.slX (K := K) rfl) (pv 2) po_none (po_some (pe_call (ok_law_take (K := K) T) (hr.mono (by decide)) (by rfl) T.m_law_take T.k_law_take T.b_law_take .nil pass0 (pa_cons (pv 1) (pa_cons pe_int pa_nil)))))) (blkOk_by (N := ["_law_script", "_law_bag_here", "_law_words", "_law_k", "_law_way", "_law_spans", "_law_rows", "_law_good", "_law_things", "_law_time", "_law_wrong_here", "_law_shown", "_law_word", "_law_found", "_law_rule"]) (sc := defScope s_law) (by decide +kernel)) (fun _ _ _ _ _ => (pg_name (i := 14) sc_law.nd rfl (Or.inl rfl))) (fun _ _ _ _ _ => pts_nil) (fun _ _ _ _ _ => (pe_tup (pa_cons (pv 14) (pa_cons (pe_slice (VB.slX (K := K) rfl) (pe_call (ok_law_mixed (K := K) T) (hr.mono (by decide)) (by rfl) T.m_law_mixed T.k_law_mixed T.b_law_mixed .nil pass0 (pa_cons (pv 1) (pa_cons (pv 2) pa_nil))) po_none (po_some (pe_call (ok_law_take (K := K) T) (hr.mono (by decide)) (by rfl) T.m_law_take T.k_law_take T.b_law_take .nil pass0 (pa_cons (pv 1) (pa_cons pe_int pa_nil))))) pa_nil)))))
    (pss_cons (ps_set (i := 7) sc_law.nd rfl (Or.inl rfl) (pe_ix (VB.ixX (K := K) rfl) (pe_lst (pa_cons (pe_lst (pa_cons (pv 5) pa_nil)) (pa_cons (pe_lst (pa_cons (pe_cmpR (VB.op_eqX (K := K) rfl hr.units) (pe_call (ok_law_take (K := K) T) (hr.mono (by decide)) (by rfl) T.m_law_take T.k_law_take T.b_law_take .nil pass0 (pa_cons (pv 1) (pa_cons pe_int pa_nil))) pe_int (nomark _)) (pa_cons (pv 6) pa_nil))) pa_nil))) (pv 4) (fun _ _ => rfl)))
    (pss_cons (ps_set (i := 8) sc_law.nd rfl (Or.inl rfl) (pe_callTy (VB.kLst (K := K) rfl) (by rfl) T.n_list (by decide +kernel) (pa_cons (pv 7) pa_nil)))
    (pss_cons (ps_for PassesOwn.never rfl (pi_range1 rfl T.n_range (pa_cons (pe_call (ok_law_take (K := K) T) (hr.mono (by decide)) (by rfl) T.m_law_take T.k_law_take T.b_law_take .nil pass0 (pa_cons (pv 1) (pa_cons pe_int pa_nil))) pa_nil)) (pg_name (i := 9) sc_law.nd rfl (Or.inl rfl))
      (pss_one (ps_if (PW.pt (pw_and (pt_cmpR (VB.op_eqX (K := K) rfl hr.units) (pv 4) pe_int (nomark _)) (pw_and1 (pt_cmpR (VB.op_eqX (K := K) rfl hr.units) (pe_call (ok_law_take (K := K) T) (hr.mono (by decide)) (by rfl) T.m_law_take T.k_law_take T.b_law_take .nil pass0 (pa_cons (pv 1) (pa_cons pe_int pa_nil))) pe_int (nomark _))))) (pss_one (ps_asg (pe_call (ok_law_odd (K := K) T) (hr.mono (by decide)) (by rfl) T.m_law_odd T.k_law_odd T.b_law_odd .nil pass0 (pa_cons (pv 1) pa_nil)) (pg_sub (pv 8) pe_int set_list))) (pss_one (ps_if (PW.pt (pw_and (pt_cmpR VB.op_isX (pe_call (ok_law_wrong (K := K) T) (hr.mono (by decide)) (by rfl) T.m_law_wrong T.k_law_wrong T.b_law_wrong .nil pass0 (pa_cons (pv 4) (pa_cons (pe_op (VB.op_addX (K := K) rfl) (pe_op (VB.op_mulX (K := K) rfl) (pe_lst (pa_cons pe_bl pa_nil)) (pv 4)) (pe_slice (VB.slX (K := K) rfl) (pv 8) (po_some (pe_un un_neg pe_int)) po_none)) pa_nil))) pe_non (nomark _)) (pw_and1 (pt_val (pe_callB (VB.kIsi (K := K) rfl) (by rfl) T.n_isinstance (by decide +kernel) (pa_cons (pe_ix (VB.ixX (K := K) rfl) (pv 8) (pe_un un_neg pe_int) (fun _ _ => rfl)) (pa_cons (pe_bltn (v := .ty "list") (u := .type "list") (by rfl) T.n_list (by decide +kernel) rfl) pa_nil))))))) (pss_one (ps_asg (pe_call (ok_law_spoilt (K := K) T) (hr.mono (by decide)) (by rfl) T.m_law_spoilt T.k_law_spoilt T.b_law_spoilt .nil pass0 (pa_cons (pv 1) (pa_cons (pv 4) (pa_cons (pe_ix (VB.ixX (K := K) rfl) (pv 8) (pe_un un_neg pe_int) (fun _ _ => rfl)) pa_nil)))) (pg_sub (pv 8) (pe_un un_neg pe_int) set_list))) pss_nil)))))
    (pss_cons (ps_par (i := 10) (j := 11) (by rfl) sc_law.nd rfl rfl (by decide) rfl rfl (pa_cons (pe_call (ok_law_wrong (K := K) T) (hr.mono (by decide)) (by rfl) T.m_law_wrong T.k_law_wrong T.b_law_wrong .nil pass0 (pa_cons (pv 4) (pa_cons (pv 8) pa_nil))) (pa_cons (pe_callB (VB.call_reprX (K := K) rfl T.sys hg hr.units) (by rfl) T.n_repr (by decide +kernel) (pa_cons (pv 8) pa_nil)) pa_nil)) (by rfl))
    (pss_cons (ps_asg (pe_call (ok_law_tried (K := K) T) (hr.mono (by decide)) (by rfl) T.m_law_tried T.k_law_tried T.b_law_tried .nil pass0 (pa_cons (pv 4) (pa_cons (pv 8) pa_nil))) (VB.kTg (K := K) (n := 2) rfl rfl (pgs_cons (pg_name (i := 12) sc_law.nd rfl (Or.inl rfl)) (pgs_cons (pg_name (i := 13) sc_law.nd rfl (Or.inl rfl)) pgs_nil))))
    (pss_cons (ps_if (PW.pt (pw_or (pt_cmpR (VB.op_neX (K := K) rfl hr.units) (pe_cmpR (VB.op_eqX (K := K) rfl hr.units) (pv 12) pe_str (nomark _)) (pe_cmpR VB.op_isX (pv 10) pe_non (nomark _)) (nomark _)) (pw_or1 (pt_cmpR (VB.op_neX (K := K) rfl hr.units) (pe_callB (VB.call_reprX (K := K) rfl T.sys hg hr.units) (by rfl) T.n_repr (by decide +kernel) (pa_cons (pv 8) pa_nil)) (pv 11) (nomark _))))) (pss_one (ps_ret pe_bl)) pss_nil)
    (pss_cons (ps_if (PW.pt (pw_and (pt_cmpR (VB.op_eqX (K := K) rfl hr.units) (pv 12) pe_str (nomark _)) (pw_and1 (pt_cmpR (VB.op_neX (K := K) rfl hr.units) (pe_callB (VB.call_reprX (K := K) rfl T.sys hg hr.units) (by rfl) T.n_repr (by decide +kernel) (pa_cons (pv 13) pa_nil)) (pe_callB (VB.call_reprX (K := K) rfl T.sys hg hr.units) (by rfl) T.n_repr (by decide +kernel) (pa_cons (pv 10) pa_nil)) (nomark _))))) (pss_one (ps_ret pe_bl)) pss_nil)
    (pss_cons (ps_if (PW.pt (pw_and (pt_cmpR (VB.op_eqX (K := K) rfl hr.units) (pv 12) pe_str (nomark _)) (pw_and1 (pt_not (pt_val (pe_call (ok_law_as_told (K := K) T) (hr.mono (by decide)) (by rfl) T.m_law_as_told T.k_law_as_told T.b_law_as_told .nil pass0 (pa_cons (pv 1) (pa_cons (pv 4) (pa_cons (pv 8) (pa_cons (pv 13) pa_nil)))))))))) (pss_one (ps_ret pe_bl)) pss_nil)
    (pss_cons (ps_asg (pe_call (ok_law_tried (K := K) T) (hr.mono (by decide)) (by rfl) T.m_law_tried T.k_law_tried T.b_law_tried .nil pass0 (pa_cons (pv 4) (pa_cons (pv 7) pa_nil))) (VB.kTg (K := K) (n := 2) rfl rfl (pgs_cons (pg_name (i := 12) sc_law.nd rfl (Or.inl rfl)) (pgs_cons (pg_name (i := 13) sc_law.nd rfl (Or.inl rfl)) pgs_nil))))
    (pss_one (ps_if (PW.pt (pw_or (pt_cmpR (VB.op_neX (K := K) rfl hr.units) (pv 12) pe_str (nomark _)) (pw_or1 (pt_not (pt_val (pe_call (ok_law_as_told (K := K) T) (hr.mono (by decide)) (by rfl) T.m_law_as_told T.k_law_as_told T.b_law_as_told .nil pass0 (pa_cons (pv 1) (pa_cons (pv 4) (pa_cons (pv 7) (pa_cons (pv 13) pa_nil)))))))))) (pss_one (ps_ret pe_bl)) pss_nil)))))))))))))))
    (pss_one (ps_ret pe_bl))))), law_body h (by decide) fun b => ⟨[.no, .bag b, .no, .no, .no, .no, .no, .no, .no, .no, .no, .no, .no, .no, .no], rfl, ?_⟩⟩
    refine unfold_law (show G K (fnR false) _ _ (m_law a.c) CF from ?_) hw
    unfold m_law
    exact (G.asg (RE.callE (RAm.bag (i := 1) rfl (RAm.dat RE.int RAm.nil)) rfl) (fun words2316 => (G.forF (embL := fun s2320 : Unit => [.no, .bag b, .dat words2316, .no, .no, .no, .no, .no, .no, .no, .no, .no, .no, .no, .no]) (s0 := ()) (p := .nm 3) (fun _ r => r.1) (RI.rng1 (RAr.cons (RE.rr RE.int) RAr.nil)) (.same _ (.same _ (.same _ (.same _ (.same _ (.same _ (.same _ (.same _ (.same _ (.same _ (.same _ (.same _ (.same _ (.same _ (.same _ .nil))))))))))))))) (fun s2319 => PB.nm fun k2321 P w => LT.of (by exact (G.asg (RE.take (i := 1) rfl RE.int) (fun way2324 => (G.asg (RN.re (RN.callE (RAm.bag (i := 1) rfl (RAm.bor (RE.rr RE.int) RAm.nil)) rfl)) (fun spans2325 => (G.asg (RN.re (RN.map (p := .nm 14) (js := [14]) (RI.dat (RE.sl sl_d (RE.rr (RE.var (d := words2316) rfl)) RO.none (RO.some (RE.take (i := 1) rfl RE.int)))) (fun _ m => m) (PB.nm fun rule2334 P w => CTp.of (RE.tup (RAs.cons (RE.var (d := rule2334) rfl) (RAs.cons (RE.sl sl_d (RE.rr (RN.re (RN.callE (RAm.bag (i := 1) rfl (RAm.bor (RE.rr (RE.var (d := words2316) rfl)) RAm.nil)) rfl))) RO.none (RO.some (RE.take (i := 1) rfl RE.int))) RAs.nil))) w))) (fun rows2327 => (G.asg (RE.op ix_d (RE.rr (RN.re (RN.lst (RAs.cons (RN.re (RN.lst (RAs.cons (RE.var (d := spans2325) rfl) RAs.nil))) (RAs.cons (RN.re (RN.lst (RAs.cons (RE.op eq_d (RE.rr (RE.take (i := 1) rfl RE.int)) (RE.rr RE.int)) (RAs.cons (RE.var (d := rows2327) rfl) RAs.nil)))) RAs.nil))))) (RE.rr (RE.var (d := way2324) rfl))) (fun good2345 => (G.asgO (RN.cb lst_c (RAr.cons (RE.rr (RE.var (d := good2345) rfl)) RAr.nil)) (fun things2355 => (G.forP (embL := fun s2359 : D => [.no, .bag b, .dat words2316, .dat k2321, .dat way2324, .dat spans2325, .dat rows2327, .dat good2345, .own ⟨none, s2359⟩, .no, .no, .no, .no, .no, .no]) (s0 := things2355) (p := .nm 9) (fun _ r => r.1) (RI.rng1 (RAr.cons (RE.rr (RE.take (i := 1) rfl RE.int)) RAr.nil)) (.same _ (.same _ (.same _ (.same _ (.same _ (.same _ (.same _ (.same _ (.same _ (.same _ (.same _ (.same _ (.same _ (.same _ (.same _ .nil))))))))))))))) (fun s2358 => PB.nm fun time2360 P w => LTp.of (by exact (G.one (G.ifS (RT.and (RT.test (RE.rr (RE.op eq_d (RE.rr (RE.var (d := way2324) rfl)) (RE.rr RE.int)))) (RT.test (RE.rr (RE.op eq_d (RE.rr (RE.take (i := 1) rfl RE.int)) (RE.rr RE.int))))) (by exact (G.item2 (i := 8) (d := s2358) rfl (RE.callE (RAm.bag (i := 1) rfl RAm.nil) rfl) RE.int (fun things2368 => (G.finP (.same _ (.same _ (.same _ (.same _ (.same _ (.same _ (.same _ (.same _ (.same _ (.drop _ (.same _ (.same _ (.same _ (.same _ (.same _ .nil))))))))))))))))))) (by exact (G.ifS (RT.and (RT.test (RE.rr (RE.op is_d (RE.rr (RE.callE (RAm.bor (RE.rr (RE.var (d := way2324) rfl)) (RAm.bor (RE.rr (RE.op add_d (RE.rr (RE.op mul_d (RE.rr (RN.re (RN.lst (RAs.cons RE.bl RAs.nil)))) (RE.rr (RE.var (d := way2324) rfl)))) (RE.rr (RE.sl sl_d (RR.own (d := s2358) rfl) (RO.some RE.negC) RO.none)))) RAm.nil)) rfl)) (RE.rr RE.non)))) (RT.b (RE.rr (RE.cb isi_c (RAr.cons (RE.rr (RE.op ix_d (RR.own (d := s2358) rfl) (RE.rr RE.negC))) (RAr.cons (RE.rr RE.ty) RAr.nil)))))) (by exact (G.item2 (i := 8) (d := s2358) rfl (RE.callE (RAm.bag (i := 1) rfl (RAm.bor (RE.rr (RE.var (d := way2324) rfl)) (RAm.bor (RE.rr (RE.op ix_d (RR.own (d := s2358) rfl) (RE.rr RE.negC))) RAm.nil))) rfl) RE.negC (fun things2397 => (G.finP (.same _ (.same _ (.same _ (.same _ (.same _ (.same _ (.same _ (.same _ (.same _ (.drop _ (.same _ (.same _ (.same _ (.same _ (.same _ .nil))))))))))))))))))) (by exact (G.next (G.finP (.same _ (.same _ (.same _ (.same _ (.same _ (.same _ (.same _ (.same _ (.same _ (.drop _ (.same _ (.same _ (.same _ (.same _ (.same _ .nil))))))))))))))))))))))) w) (fun s2362 => (G.par (RAs.cons (RE.call (RAm.bor (RE.rr (RE.var (d := way2324) rfl)) (RAm.bor (RR.own (d := s2362) rfl) RAm.nil))) (RAs.cons (RE.cb repr_c (RAr.cons (RR.own (d := s2362) rfl) RAr.nil)) RAs.nil)) (fun wrong_here2406 shown2407 => (G.unp (p := Pt.two 12 13) (RE.callE (RAm.bor (RE.rr (RE.var (d := way2324) rfl)) (RAm.bor (RR.own (d := s2362) rfl) RAm.nil)) rfl) (PB.two fun word2410 found2411 P w => unp_of (by exact (G.ifS (RT.or (RT.test (RE.rr (RE.op ne_d (RE.rr (RE.op eq_d (RE.rr (RE.var (d := word2410) rfl)) (RE.rr RE.str))) (RE.rr (RE.op is_d (RE.rr (RE.var (d := wrong_here2406) rfl)) (RE.rr RE.non)))))) (RT.test (RE.rr (RE.op ne_d (RE.rr (RE.cb repr_c (RAr.cons (RR.own (d := s2362) rfl) RAr.nil))) (RE.rr (RE.var (d := shown2407) rfl)))))) (G.retS (fun _ r => r.1) RE.bl) (G.next (G.ifS (RT.and (RT.test (RE.rr (RE.op eq_d (RE.rr (RE.var (d := word2410) rfl)) (RE.rr RE.str)))) (RT.test (RE.rr (RE.op ne_d (RE.rr (RE.cb repr_c (RAr.cons (RE.rr (RE.var (d := found2411) rfl)) RAr.nil))) (RE.rr (RE.cb repr_c (RAr.cons (RE.rr (RE.var (d := wrong_here2406) rfl)) RAr.nil))))))) (G.retS (fun _ r => r.1) RE.bl) (G.next (G.ifS (RT.and (RT.test (RE.rr (RE.op eq_d (RE.rr (RE.var (d := word2410) rfl)) (RE.rr RE.str)))) (RT.not (RT.b (RE.rr (RE.callE (RAm.bag (i := 1) rfl (RAm.bor (RE.rr (RE.var (d := way2324) rfl)) (RAm.bor (RR.own (d := s2362) rfl) (RAm.bor (RE.rr (RE.var (d := found2411) rfl)) RAm.nil)))) rfl))))) (G.retS (fun _ r => r.1) RE.bl) (G.next (G.unp (p := Pt.two 12 13) (RE.callE (RAm.bor (RE.rr (RE.var (d := way2324) rfl)) (RAm.bor (RE.rr (RE.var (d := good2345) rfl)) RAm.nil)) rfl) (PB.two fun word2441 found2442 P w => unp_of (by exact (G.one (G.ifS (RT.or (RT.test (RE.rr (RE.op ne_d (RE.rr (RE.var (d := word2441) rfl)) (RE.rr RE.str)))) (RT.not (RT.b (RE.rr (RE.callE (RAm.bag (i := 1) rfl (RAm.bor (RE.rr (RE.var (d := way2324) rfl)) (RAm.bor (RE.rr (RE.var (d := good2345) rfl)) (RAm.bor (RE.rr (RE.var (d := found2442) rfl)) RAm.nil)))) rfl))))) (G.retS (fun _ r => r.1) RE.bl) (G.next (G.finS (.same _ (.same _ (.same _ (.drop _ (.drop _ (.drop _ (.drop _ (.drop _ (.drop _ (.same _ (.drop _ (.drop _ (.drop _ (.drop _ (.same _ .nil)))))))))))))))))))) w))))))))) w))))))))))))))))) w) (fun s2323 => (G.one (G.retF (fun _ r => r.1) RE.bl))))))
end K28
namespace K28
open PySem PySem.Spec PyProof.Rows L2 VB
variable {P : Program} {w : World} {K : PySem.W.Frag} {mg : Str → Option Value} {base : Heap} {a : Ad}
theorem cm_ret2 {γ : Type} {k : D → M (Option D)} {g : γ → D} {f : γ → Option D} : ∀ {xs : List γ}, (∀ x ∈ xs, k (g x) = .ret (f x)) → M.cm k (xs.map g) = .ret (xs.filterMap f)
  | [], _ => rfl
  | x :: xs, h => by
    have ih := cm_ret2 (k := k) (g := g) (f := f) (xs := xs) fun y m => h y (List.mem_cons_of_mem _ m)
    show (k (g x)).bind (fun o => (M.cm k (xs.map g)).bind fun es => .ret (match o with | some e => e :: es | none => es)) = _
    rw [h x (List.mem_cons_self ..), ih]
    rw [List.filterMap_cons]
    cases f x <;> rfl
theorem rb17 {α β : Type} (a : α) (f : α → M β) : (M.ret a).bind f = f a := (M.ret_bind a f).trans (Eq.refl _)
def wordB : D → Bool
  | .str w => decide (1 ≤ w.length) && (decide (w.length ≤ 8) && lwB w)
  | _ => false
def blB : D → Bool
  | .bl _ => true
  | _ => false
structure okW (z : D) : Prop where
  t : z.tyn.isSome = true
  l : ∀ w, z = .str w → w.length ≤ 16777216
theorem wordB_wd {w : Str} : wordB (.str w) = true ↔ Wd w := by
  unfold wordB Wd
  rw [Bool.and_eq_true, Bool.and_eq_true, decide_eq_true_iff, decide_eq_true_iff, lwB_iff]
theorem isi_str_of {z : D} (h : z.tyn.isSome = true) (n : ∀ w, z ≠ .str w) : D.isi z (.ty "str") = .ret (.bl false) := by
  cases z with
  | str w => exact (n w rfl).elim
  | ty _ => cases h
  | raw _ => cases h
  | ins _ _ _ => cases h
  | dit _ _ => cases h
  | din _ _ _ _ => cases h
  | _ => rfl
theorem isi_tup_of {z : D} (h : z.tyn.isSome = true) (e : z ≠ .etup) (n : ∀ w, z ≠ .tup w) : D.isi z (.ty "tuple") = .ret (.bl false) := by
  cases z with
  | tup w => exact (n w rfl).elim
  | etup => exact (e rfl).elim
  | ty _ => cases h
  | raw _ => cases h
  | ins _ _ _ => cases h
  | dit _ _ => cases h
  | din _ _ _ _ => cases h
  | _ => rfl
theorem isi_bool_of {y : D} (h : y.tyn.isSome = true) : D.isi y (.ty "bool") = .ret (.bl (blB y)) := by
  cases y with
  | ty _ => cases h
  | raw _ => cases h
  | ins _ _ _ => cases h
  | dit _ _ => cases h
  | din _ _ _ _ => cases h
  | _ => rfl
theorem chain_le {n : Int} {l : Int} : M.chain D.le D.le (M.ret (D.int 1)) (M.ret (.int n)) (M.ret (D.int l)) = .ret (.bl (decide (1 ≤ n) && decide (n ≤ l))) := by
  unfold M.chain
  simp only [rb17, dle_int, asB_bl]
  cases decide (1 ≤ n) <;> rfl
theorem e_word_any {z : D} (h : okW z) : m_is_word z = .ret (.bl (wordB z)) := by
  by_cases s : ∃ w, z = .str w
  · obtain ⟨w, rfl⟩ := s
    have l := h.l w rfl
    unfold m_is_word
    simp only [rb17, M.two, M.one, isi_str_str, asB_bl, M.or2, M.not1, dlen_str l, chain_le, Bool.not_true, Bool.false_eq_true, if_false, items_str l]
    have e1 : decide ((1 : Int) ≤ (w.length : Nat)) = decide (1 ≤ w.length) := decide_eq_decide.mpr (by omega)
    have e2 : decide (((w.length : Nat) : Int) ≤ 8) = decide (w.length ≤ 8) := decide_eq_decide.mpr (by omega)
    have hm : M.map (fun d => D.inM d (D.str "abcdefghijklmnopqrstuvwxyz")) (D.signs w) = .ret (w.cps.toList.map fun c => D.bl (decide (c ∈ LET.cps.toList))) := map_ret2 fun c _ => rfl
    rw [e1, e2, hm]
    simp only [rb17, M.one, all_map]
    show _ = M.ret (D.bl (decide (1 ≤ w.length) && (decide (w.length ≤ 8) && lwB w)))
    cases decide (1 ≤ w.length) <;> cases decide (w.length ≤ 8) <;> rfl
  · have n : ∀ w, z ≠ .str w := fun w e => s ⟨w, e⟩
    have e : wordB z = false := by
      cases z with
      | str w => exact (n w rfl).elim
      | _ => rfl
    unfold m_is_word
    simp only [rb17, M.two, isi_str_of h.t n, asB_bl, M.or2, M.not1, Bool.not_false, if_true, e]
theorem e_lword_any {z : D} (h : okW z) : m_law_is_word z = .ret (.bl (wordB z)) := by
  by_cases s : ∃ w, z = .str w
  · obtain ⟨w, rfl⟩ := s
    have l := h.l w rfl
    have hm : M.cm (fun sign => ((D.ninM sign (D.str "abcdefghijklmnopqrstuvwxyz")).bind D.asB).bind fun k => if k = true then M.ret (some sign) else M.ret none) (D.signs w) = .ret (w.cps.toList.filterMap fun c => if decide (c ∈ LET.cps.toList) = true then none else some (D.str ⟨#[c]⟩)) := by
      show M.cm _ (w.cps.toList.map fun c => D.str ⟨#[c]⟩) = _
      refine cm_ret2 (g := fun c => D.str ⟨#[c]⟩) (f := fun c => if decide (c ∈ LET.cps.toList) = true then none else some (D.str ⟨#[c]⟩)) fun c _ => ?_
      have ni : D.ninM (.str ⟨#[c]⟩) (D.str "abcdefghijklmnopqrstuvwxyz") = .ret (.bl (!decide (c ∈ LET.cps.toList))) := rfl
      simp only [ni, rb17, asB_bl]
      cases decide (c ∈ LET.cps.toList) <;> rfl
    unfold m_law_is_word
    simp only [rb17, M.two, M.one, isi_str_str, asB_bl, M.or2, M.not1, dlen_str l, Bool.not_true, Bool.false_eq_true, if_false, items_str l, dlt_int, lstM0]
    have e1 : decide (((w.length : Nat) : Int) < 1) = !decide (1 ≤ w.length) := by
      rw [← decide_not]
      exact decide_eq_decide.mpr (by omega)
    have e2 : D.gt (.int (w.length : Nat)) (.int 8) = .ret (.bl (!decide (w.length ≤ 8))) := by
      show M.ret (D.bl (decide (((w.length : Nat) : Int) > 8))) = _
      congr 2
      rw [← decide_not]
      exact decide_eq_decide.mpr (by omega)
    rw [e1, e2, hm]
    have e3 : ∀ xs : List D, D.eq (.lst xs) (.lst []) = .ret (.bl xs.isEmpty) := fun _ => rfl
    have e4 : ((w.cps.toList.filterMap fun c => if decide (c ∈ LET.cps.toList) = true then none else some (D.str ⟨#[c]⟩)) : List D).isEmpty = lwB w := by
      unfold lwB
      induction w.cps.toList with
      | nil => rfl
      | cons c cs ih =>
        rw [List.all_cons]
        cases hc : decide (c ∈ LET.cps.toList) with
        | true => rw [List.filterMap_cons_none (by rw [hc]; rfl), ih, Bool.true_and]
        | false => rw [List.filterMap_cons_some (b := D.str ⟨#[c]⟩) (by rw [hc]; rfl)]; rfl
    simp only [rb17, e3, e4, asB_bl]
    show _ = M.ret (D.bl (decide (1 ≤ w.length) && (decide (w.length ≤ 8) && lwB w)))
    cases decide (1 ≤ w.length) <;> cases decide (w.length ≤ 8) <;> rfl
  · have n : ∀ w, z ≠ .str w := fun w e => s ⟨w, e⟩
    have e : wordB z = false := by
      cases z with
      | str w => exact (n w rfl).elim
      | _ => rfl
    unfold m_law_is_word
    simp only [rb17, M.two, isi_str_of h.t n, asB_bl, M.or2, M.not1, Bool.not_false, if_true, e]
theorem map_ok {k : D → M D} {f : D → Bool} : ∀ {zs : List D}, (∀ z ∈ zs, k z = .ret (.bl (f z))) → M.map k zs = .ret (zs.map fun z => .bl (f z)) := fun {zs} h => by
  have := map_ret2 (k := k) (g := fun z => z) (f := fun z => D.bl (f z)) (xs := zs) h
  rw [List.map_id'] at this
  exact this
theorem cm_bad {k : D → M (Option D)} {f : D → Bool} : ∀ {zs : List D}, (∀ z ∈ zs, k z = .ret (if f z = true then none else some z)) → M.cm k zs = .ret (zs.filter fun z => !f z) := fun {zs} h => by
  have := cm_ret2 (k := k) (g := fun z => z) (f := fun z => if f z = true then none else some z) (xs := zs) h
  rw [List.map_id'] at this
  rw [this]
  congr 1
  clear this h
  induction zs with
  | nil => rfl
  | cons z zs ih =>
    cases e : f z with
    | true => rw [List.filterMap_cons_none (by rw [e]; rfl), List.filter_cons_of_neg (by rw [e]; exact Bool.false_ne_true), ih]
    | false => rw [List.filterMap_cons_some (b := z) (by rw [e]; rfl), List.filter_cons_of_pos (by rw [e]; rfl), ih]
theorem bad_empty {f : D → Bool} (zs : List D) : (zs.filter fun z => !f z).isEmpty = zs.all f := by
  induction zs with
  | nil => rfl
  | cons z zs ih =>
    rw [List.all_cons]
    cases e : f z with
    | true => rw [List.filter_cons_of_neg (by rw [e]; exact Bool.false_ne_true), ih, Bool.true_and]
    | false => rw [List.filter_cons_of_pos (by rw [e]; rfl)]; rfl
theorem two_of {ds : List D} (h : ds.length = 2) : ∃ x y, ds = [x, y] := by
  match ds, h with
  | [x, y], _ => exact ⟨x, y, rfl⟩
theorem chain_le2 {m n : Int} {l : Int} : M.chain D.le D.le (M.ret (D.int m)) (M.ret (.int n)) (M.ret (D.int l)) = .ret (.bl (decide (m ≤ n) && decide (n ≤ l))) := by
  unfold M.chain
  simp only [rb17, dle_int, asB_bl]
  cases decide (m ≤ n) <;> rfl
def dayB : D → Bool
  | .int i => decide (0 ≤ i) && decide (i ≤ 1000000000)
  | _ => false
def spanB : D → Bool
  | .tup [x, y] => dayB x && dayB y
  | _ => false
def wordsB : D → Bool
  | .lst zs => zs.all wordB
  | .tup zs => zs.all wordB
  | _ => false
def crB : D → Bool
  | .tup [x, y] => wordB x && wordsB y
  | _ => false
def seqB : D → Bool
  | .lst _ => true
  | .tup _ => true
  | _ => false
structure okS (d : D) : Prop where
  t : d.tyn.isSome = true
  e : d ≠ .etup
  n : ∀ x y, d = .tup [x, y] → x.tyn.isSome = true ∧ y.tyn.isSome = true
structure okQ (y : D) : Prop where
  t : y.tyn.isSome = true
  e : y ≠ .etup
  z : ∀ b zs, y = seqA b zs → ∀ z ∈ zs, okW z
structure okC (d : D) : Prop where
  t : d.tyn.isSome = true
  e : d ≠ .etup
  n : ∀ x y, d = .tup [x, y] → okW x ∧ okQ y
theorem isiT_of {al : List Addr} {y : D} (h : y.tyn.isSome = true) (e : y ≠ .etup) : D.isiT al [.ty "list", .ty "tuple"] y = .ret (.bl (seqB y)) := by
  cases y with
  | etup => exact (e rfl).elim
  | ty _ => cases h
  | raw _ => cases h
  | ins _ _ _ => cases h
  | dit _ _ => cases h
  | din _ _ _ _ => cases h
  | _ =>
    show (if _ then _ else _) = _
    rw [if_pos ⟨rfl, rfl, by decide⟩]
    rfl
theorem seq_of {y : D} (h : seqB y = true) : ∃ b ds, y = seqA b ds := by
  cases y with
  | lst ds => exact ⟨true, ds, rfl⟩
  | tup ds => exact ⟨false, ds, rfl⟩
  | _ => cases h
theorem e_day_any {z : D} (h : z.tyn.isSome = true) : m_is_day z = .ret (.bl (dayB z)) := by
  cases z with
  | int i =>
    have e : m_is_integer (.int i) = .ret (.bl true) := rfl
    unfold m_is_day
    simp only [rb17, e, M.andB, asB_bl, if_true, chain_le2]
    rfl
  | ty _ => cases h
  | raw _ => cases h
  | ins _ _ _ => cases h
  | dit _ _ => cases h
  | din _ _ _ _ => cases h
  | _ => rfl
theorem e_lday_any {z : D} (h : z.tyn.isSome = true) : m_law_is_day z = .ret (.bl (dayB z)) := by
  cases z with
  | int i =>
    have e1 : D.isi (.int i) (.ty "int") = .ret (.bl true) := rfl
    have e2 : D.isi (.int i) (.ty "bool") = .ret (.bl false) := rfl
    have e3 : D.pow (.int 10) (.int 9) = .ret (.int 1000000000) := rfl
    unfold m_law_is_day
    simp only [rb17, M.two, e1, e2, e3, M.andB, asB_bl, if_true, chain_le2, Bool.not_false]
    rfl
  | ty _ => cases h
  | raw _ => cases h
  | ins _ _ _ => cases h
  | dit _ _ => cases h
  | din _ _ _ _ => cases h
  | _ => rfl
theorem spanB_no {d : D} (n : ∀ x y, d ≠ .tup [x, y]) : spanB d = false := by
  match d, n with
  | .tup [x, y], n => exact (n x y rfl).elim
  | .tup [], _ => rfl
  | .tup [_], _ => rfl
  | .tup (_ :: _ :: _ :: _), _ => rfl
  | .non, _ => rfl
  | .bl _, _ => rfl
  | .int _, _ => rfl
  | .str _, _ => rfl
  | .ty _, _ => rfl
  | .lst _, _ => rfl
  | .raw _, _ => rfl
  | .dic _ _, _ => rfl
  | .dit _ _, _ => rfl
  | .din _ _ _ _, _ => rfl
  | .ins _ _ _, _ => rfl
  | .etup, _ => rfl
theorem crB_no {d : D} (n : ∀ x y, d ≠ .tup [x, y]) : crB d = false := by
  match d, n with
  | .tup [x, y], n => exact (n x y rfl).elim
  | .tup [], _ => rfl
  | .tup [_], _ => rfl
  | .tup (_ :: _ :: _ :: _), _ => rfl
  | .non, _ => rfl
  | .bl _, _ => rfl
  | .int _, _ => rfl
  | .str _, _ => rfl
  | .ty _, _ => rfl
  | .lst _, _ => rfl
  | .raw _, _ => rfl
  | .dic _ _, _ => rfl
  | .dit _ _, _ => rfl
  | .din _ _ _ _, _ => rfl
  | .ins _ _ _, _ => rfl
  | .etup, _ => rfl
theorem e_span_any {d : D} (h : okS d) : m_is_span d = .ret (.bl (spanB d)) ∧ m_law_is_span d = .ret (.bl (spanB d)) := by
  by_cases s : ∃ ds, d = .tup ds
  · obtain ⟨ds, rfl⟩ := s
    by_cases h2 : ds.length = 2
    · obtain ⟨x, y, rfl⟩ := two_of h2
      obtain ⟨hx, hy⟩ := h.n x y rfl
      have i0 : D.ix (.tup [x, y]) (.int 0) = .ret x := rfl
      have i1 : D.ix (.tup [x, y]) (.int 1) = .ret y := rfl
      have l2 : D.len (.tup [x, y]) = .ret (.int 2) := rfl
      have e22 : D.eq (.int 2) (.int 2) = .ret (.bl true) := rfl
      refine ⟨?_, ?_⟩
      · unfold m_is_span
        simp only [rb17, M.two, M.one, isi_tup_tup, M.andB, asB_bl, if_true, l2, e22, i0, i1, e_day_any hx, e_day_any hy]
        show _ = M.ret (D.bl (dayB x && dayB y))
        cases dayB x <;> rfl
      · unfold m_law_is_span
        simp only [rb17, M.two, M.one, isi_tup_tup, M.andB, asB_bl, if_true, l2, e22, i0, i1, e_lday_any hx, e_lday_any hy]
        show _ = M.ret (D.bl (dayB x && dayB y))
        cases dayB x <;> rfl
    · have e : spanB (.tup ds) = false := spanB_no fun x y z => by
        injection z with z
        rw [z] at h2
        exact h2 rfl
      have l2 : D.len (.tup ds) = .ret (.int ds.length) := rfl
      have ne : decide ((ds.length : Int) = 2) = false := decide_eq_false (by omega)
      refine ⟨?_, ?_⟩
      · unfold m_is_span
        simp only [rb17, M.two, M.one, isi_tup_tup, M.andB, asB_bl, if_true, l2, deq_int, ne, Bool.false_eq_true, if_false, e]
      · unfold m_law_is_span
        simp only [rb17, M.two, M.one, isi_tup_tup, M.andB, asB_bl, if_true, l2, deq_int, ne, Bool.false_eq_true, if_false, e]
  · have n : ∀ w, d ≠ .tup w := fun w e => s ⟨w, e⟩
    refine ⟨?_, ?_⟩
    · unfold m_is_span
      simp only [rb17, M.two, isi_tup_of h.t h.e n, M.andB, asB_bl, Bool.false_eq_true, if_false, spanB_no fun x y => n [x, y]]
    · unfold m_law_is_span
      simp only [rb17, M.two, isi_tup_of h.t h.e n, M.andB, asB_bl, Bool.false_eq_true, if_false, spanB_no fun x y => n [x, y]]
theorem e_crow_any {c : Cl} {d : D} (h : okC d) : m_is_carry_row c d = .ret (.bl (crB d)) ∧ m_law_is_row c d = .ret (.bl (crB d)) := by
  by_cases s : ∃ ds, d = .tup ds
  · obtain ⟨ds, rfl⟩ := s
    by_cases h2 : ds.length = 2
    · obtain ⟨x, y, rfl⟩ := two_of h2
      obtain ⟨hx, hy⟩ := h.n x y rfl
      have i0 : D.ix (.tup [x, y]) (.int 0) = .ret x := rfl
      have i1 : D.ix (.tup [x, y]) (.int 1) = .ret y := rfl
      have l2 : D.len (.tup [x, y]) = .ret (.int 2) := rfl
      have e22 : D.ne (.int 2) (.int 2) = .ret (.bl false) := rfl
      have en : ∀ xs : List D, D.eq (.lst xs) (.lst []) = .ret (.bl xs.isEmpty) := fun _ => rfl
      by_cases sy : seqB y = true
      · obtain ⟨b, zs, rfl⟩ := seq_of sy
        have okz := hy.z b zs rfl
        have m1 : M.map (fun d => m_is_word d) zs = .ret (zs.map fun z => .bl (wordB z)) := map_ok fun z m => e_word_any (okz z m)
        have ws : wordsB (seqA b zs) = zs.all wordB := by cases b <;> rfl
        refine ⟨?_, ?_⟩
        · unfold m_is_carry_row
          simp only [rb17, M.two, M.one, isi_tup_tup, M.or2, M.not1, asB_bl, Bool.not_true, Bool.false_eq_true, if_false, l2, e22, i0, i1, e_word_any hx, M.andB, isiT_of hy.t hy.e, sy, if_true, items_seqA, m1, all_map]
          show _ = M.ret (D.bl (wordB x && wordsB (seqA b zs)))
          rw [ws]
          cases wordB x <;> rfl
        · unfold m_law_is_row
          simp only [rb17, M.two, M.one, isi_tup_tup, M.or2, M.not1, asB_bl, Bool.not_true, Bool.false_eq_true, if_false, l2, e22, i0, i1, e_lword_any hx, M.andB, isiT_of hy.t hy.e, sy, if_true, items_seqA]
          rw [cm_bad (f := wordB) (zs := zs) ?hk]
          case hk =>
            intro z m
            simp only [e_lword_any (okz z m), rb17, asB_bl]
            cases wordB z <;> rfl
          simp only [rb17, lstM0, en, bad_empty]
          show _ = M.ret (D.bl (wordB x && wordsB (seqA b zs)))
          rw [ws]
          cases wordB x <;> rfl
      · have sy : seqB y = false := by simpa using sy
        have ws : wordsB y = false := by
          cases y with
          | lst _ => cases sy
          | tup _ => cases sy
          | _ => rfl
        refine ⟨?_, ?_⟩
        · unfold m_is_carry_row
          simp only [rb17, M.two, M.one, isi_tup_tup, M.or2, M.not1, asB_bl, Bool.not_true, Bool.false_eq_true, if_false, l2, e22, i0, i1, e_word_any hx, M.andB, isiT_of hy.t hy.e, sy]
          show _ = M.ret (D.bl (wordB x && wordsB y))
          rw [ws]
          cases wordB x <;> rfl
        · unfold m_law_is_row
          simp only [rb17, M.two, M.one, isi_tup_tup, M.or2, M.not1, asB_bl, Bool.not_true, Bool.false_eq_true, if_false, l2, e22, i0, i1, e_lword_any hx, M.andB, isiT_of hy.t hy.e, sy]
          show _ = M.ret (D.bl (wordB x && wordsB y))
          rw [ws]
          cases wordB x <;> rfl
    · have e : crB (.tup ds) = false := crB_no fun x y z => by
        injection z with z
        rw [z] at h2
        exact h2 rfl
      have l2 : D.len (.tup ds) = .ret (.int ds.length) := rfl
      have ne : decide ((ds.length : Int) = 2) = false := decide_eq_false (by omega)
      refine ⟨?_, ?_⟩
      · unfold m_is_carry_row
        simp only [rb17, M.two, M.one, isi_tup_tup, M.or2, M.not1, asB_bl, Bool.not_true, Bool.false_eq_true, if_false, l2, dne_int, ne, Bool.not_false, if_true, e]
      · unfold m_law_is_row
        simp only [rb17, M.two, M.one, isi_tup_tup, M.or2, M.not1, asB_bl, Bool.not_true, Bool.false_eq_true, if_false, l2, dne_int, ne, Bool.not_false, if_true, e]
  · have n : ∀ w, d ≠ .tup w := fun w e => s ⟨w, e⟩
    refine ⟨?_, ?_⟩
    · unfold m_is_carry_row
      simp only [rb17, M.two, isi_tup_of h.t h.e n, M.or2, M.not1, asB_bl, Bool.not_false, if_true, crB_no fun x y => n [x, y]]
    · unfold m_law_is_row
      simp only [rb17, M.two, isi_tup_of h.t h.e n, M.or2, M.not1, asB_bl, Bool.not_false, if_true, crB_no fun x y => n [x, y]]
end K28
namespace K28
open PySem PySem.Spec PyProof.Rows L2 VB
variable {P : Program} {w : World} {K : PySem.W.Frag} {mg : Str → Option Value} {base : Heap} {a : Ad}
namespace Dy
theorem e_is_integer {i : Int} : m_is_integer (.int i) = .ret (.bl true) := by rfl
theorem e_is_day {i : Int} (h0 : 0 ≤ i) (h1 : i ≤ 1000000000) : m_is_day (.int i) = .ret (.bl true) := by
  unfold m_is_day
  simp only [M.ret_bind, e_is_integer, M.andB, M.chain, asB_bl, if_true, dle_int, decide_eq_true h0, decide_eq_true h1]
/-- days of a span -/
def DP (p : Int × Int) : Prop := (0 ≤ p.1 ∧ p.1 ≤ 1000000000) ∧ (0 ≤ p.2 ∧ p.2 ≤ 1000000000)
theorem e_is_span {p : Int × Int} (h : DP p) : m_is_span (pD p) = .ret (.bl true) := by
  unfold m_is_span
  simp only [M.ret_bind, M.two, M.one, isi_tup_tup, M.andB, asB_bl, if_true, dlen_tup]
  rw [show D.eq (.int (([D.int p.1, D.int p.2] : List D).length : Nat)) (.int 2) = .ret (.bl true) from rfl]
  simp only [M.ret_bind, asB_bl, if_true]
  rw [show D.ix (.tup [.int p.1, .int p.2]) (.int 0) = .ret (.int p.1) from rfl, show D.ix (.tup [.int p.1, .int p.2]) (.int 1) = .ret (.int p.2) from rfl]
  simp only [M.ret_bind, e_is_day h.1.1 h.1.2, e_is_day h.2.1 h.2.2, asB_bl, if_true]
/-- one span more, in order -/
def stepF (acc : List (Int × Int)) (p : Int × Int) : List (Int × Int) :=
  if p.1 > p.2 then acc else match acc.getLast? with
    | some q => if p.1 ≤ q.2 + 1 then acc.dropLast ++ [(q.1, if p.2 > q.2 then p.2 else q.2)] else acc ++ [p]
    | none => acc ++ [p]
def fewest (l : List (Int × Int)) : List (Int × Int) := (sortP l).foldl stepF []
theorem stepF_len (acc : List (Int × Int)) (p : Int × Int) : (stepF acc p).length ≤ acc.length + 1 := by
  unfold stepF
  split
  · omega
  · split
    · split
      · rw [List.length_append, List.length_dropLast, List.length_singleton]
        omega
      · rw [List.length_append, List.length_singleton]
        omega
    · rw [List.length_append, List.length_singleton]
      omega
theorem ne_nil {xs : List D} : D.ne (.lst xs) (.lst []) = .ret (.bl (!xs.isEmpty)) := rfl
theorem dgt_int {i j : Int} : D.gt (.int i) (.int j) = .ret (.bl (decide (j < i))) := rfl
theorem max2_int {i j : Int} : D.max2 (.int i) (.int j) = .ret (.int (if j > i then j else i)) := rfl
theorem ix_last {xs : List D} {x : D} : D.ix (.lst (xs ++ [x])) (.int (-1)) = .ret x := ix_lst (atI_last xs x)
theorem ix_pD {p : Int × Int} : D.ix (pD p) (.int 0) = .ret (.int p.1) ∧ D.ix (pD p) (.int 1) = .ret (.int p.2) := ⟨rfl, rfl⟩
theorem itemK_last {α : Type} {xs : List D} {x v : D} {k : D → M α} : D.itemK (.lst (xs ++ [x])) v (.int (-1)) k = k (.lst (xs ++ [v])) := by
  have e : L2.ixN (xs ++ [x]).length (-1) = some xs.length := by
    unfold L2.ixN
    rw [if_neg (by decide), if_pos (by rw [List.length_append, List.length_singleton]; omega), List.length_append, List.length_singleton]
    congr 1
    omega
  show ((D.int (-1)).asI.bind fun n => match L2.ixN (xs ++ [x]).length n with | some j => k (.lst ((xs ++ [x]).set j v)) | none => .fail) = _
  rw [asI_int, M.ret_bind, e]
  show k _ = _
  congr 2
  rw [List.set_append_right _ _ (Nat.le_refl _), Nat.sub_self]
  rfl
theorem appK_ev {α : Type} {xs : List D} {v : D} {k : D → M α} (h : xs.length < 16777216) : D.appK (.lst xs) v k = k (.lst (xs ++ [v])) := if_pos h
/-- a fold over data that stands for a fold -/
theorem fold_enc {α S L : Type} {f : D → L → M L} {enc : S → L} {e : α → D} {g : S → α → S} {m : S → Nat} {N : Nat} (hs : ∀ acc p, m acc ≤ N → f (e p) (enc acc) = .ret (enc (g acc p))) (hg : ∀ acc p, m (g acc p) ≤ m acc + 1) :
    ∀ (ps : List α) (acc : S), m acc + ps.length ≤ N → M.fold f (ps.map e) (enc acc) = .ret (enc (ps.foldl g acc))
  | [], acc, _ => rfl
  | p :: ps, acc, h => by
    rw [List.map_cons, List.foldl_cons]
    unfold M.fold
    rw [List.length_cons] at h
    rw [hs acc p (by omega), M.ret_bind]
    have := hg acc p
    exact fold_enc hs hg ps (g acc p) (by omega)
theorem sortD_pD (l : List (Int × Int)) : sortD (l.map pD) = (sortP l).map pD := by
  have e := List.map_mergeSort (r := PySem.W.dataLe false fun p : Int × Int => .tuple [.int p.1, .int p.2]) (s := PySem.W.dataLe false D.py) (f := pD) (l := l) fun _ _ _ _ => rfl
  unfold sortD
  rw [← e]
  congr 1
  rw [PySem.W.dataLe_ii]
  refine upP_unique ?_ (sortP_up l) ((List.mergeSort_perm _ _).trans (sortP_perm l).symm)
  refine (List.pairwise_mergeSort (le := fun p q : Int × Int => decide (p.1 < q.1 ∨ (p.1 = q.1 ∧ p.2 ≤ q.2))) (fun a b c h1 h2 => ?_) (fun a b => ?_) l).imp fun {a b} h => ?_
  · simp only [decide_eq_true_eq] at h1 h2 ⊢
    omega
  · simp only [Bool.or_eq_true, decide_eq_true_eq]
    omega
  · simp only [decide_eq_true_eq] at h
    exact SrtO.lexB_no.mpr (by omega)
theorem okSort_pD (l : List (Int × Int)) : okSort (l.map pD) = true ∧ okKind (l.map pD) = true := by
  refine ⟨List.all_eq_true.mpr fun d m => ?_, Bool.or_eq_true_iff.mpr (.inl (List.all_eq_true.mpr fun d m => ?_))⟩
  · obtain ⟨p, _, rfl⟩ := List.mem_map.mp m
    simp only [Bool.and_eq_true, decide_eq_true_eq]
    refine ⟨⟨rfl, by
      show (PyData.tuple [.int p.1, .int p.2]).depth ≤ 30
      simp [PyData.depth, PyData.depthAll]⟩, List.all_eq_true.mpr fun d' m' => ?_⟩
    obtain ⟨q, _, rfl⟩ := List.mem_map.mp m'
    simp [pD, D.py, D.pyA, PySem.W.alike, PySem.W.alikeAll]
  · obtain ⟨p, _, rfl⟩ := List.mem_map.mp m
    rfl
theorem sortA_lst {l : List (Int × Int)} : D.sortedA (.lst (l.map pD)) = .ret (.lst ((sortP l).map pD)) := by
  rw [← sortD_pD]
  exact if_pos (okSort_pD l)
theorem sortA_tup {l : List (Int × Int)} : D.sortedA (.tup (l.map pD)) = .ret (.lst ((sortP l).map pD)) := by
  rw [← sortD_pD]
  exact if_pos (okSort_pD l)
theorem e_fewest {x : D} {l : List (Int × Int)} (hs : D.sortedA x = .ret (.lst ((sortP l).map pD))) (hl : l.length ≤ 2000000) : m_fewest_spans x = .ret (.lst ((fewest l).map pD)) := by
  unfold m_fewest_spans
  simp only [M.ret_bind, lstM0, M.one, hs, D.items]
  rw [show (D.lst []) = (fun acc : List (Int × Int) => D.lst (acc.map pD)) [] from rfl,
    fold_enc (enc := fun acc : List (Int × Int) => D.lst (acc.map pD)) (e := pD) (g := stepF) (m := List.length) (N := 2000000) (fun acc p hn => ?_) stepF_len (sortP l) [] (by rw [(sortP_perm l).length_eq, List.length_nil]; omega)]
  · rfl
  · simp only [List.map_nil, D.un2, dgt_int, M.ret_bind, asB_bl, ne_nil]
    by_cases h : p.2 < p.1
    · rw [decide_eq_true h, if_pos rfl]
      unfold stepF
      rw [if_pos h]
    · rw [decide_eq_false h, if_neg Bool.false_ne_true]
      unfold stepF
      rw [if_neg h]
      rcases List.eq_nil_or_concat acc with rfl | ⟨xs, q, rfl⟩
      · simp only [List.map_nil, List.isEmpty_nil, Bool.not_true, M.ret_bind, M.and2, asB_bl, Bool.false_eq_true, if_false, tupM2]
        rw [appK_ev (by decide)]
        rfl
      · rw [List.concat_eq_append, List.map_append, List.map_singleton]
        simp only [List.getLast?_append, List.getLast?_singleton, Option.some_or, List.dropLast_concat]
        have ne : (xs.map pD ++ [pD q]).isEmpty = false := by
          cases xs <;> rfl
        simp only [ne, Bool.not_false, M.ret_bind, M.and2, asB_bl, if_true, ix_last, ix_pD.1, ix_pD.2, dadd_int, dle_int]
        by_cases h2 : p.1 ≤ q.2 + 1
        · rw [decide_eq_true h2, if_pos rfl, if_pos h2]
          simp only [M.two, max2_int, M.ret_bind, tupM2]
          rw [itemK_last, List.map_append]
          rfl
        · rw [decide_eq_false h2, if_neg Bool.false_ne_true, if_neg h2, tupM2, M.ret_bind]
          rw [appK_ev (by
            rw [List.concat_eq_append, List.length_append, List.length_singleton] at hn
            rw [List.length_append, List.length_map, List.length_singleton]
            omega), List.map_append, List.map_append]
          rfl
def dv (c : Cl) (l : List (Int × Int)) : D := .ins c.Days ["kept_spans"] [.lst (l.map pD)]
theorem all_true {α : Type} (xs : List α) : D.all (.lst (xs.map fun _ => D.bl true)) = .ret (.bl true) := by
  rw [all_map (fun _ => true) xs]
  congr 2
  simp
theorem any_map {α : Type} (f : α → Bool) (xs : List α) : D.any (.lst (xs.map fun x => D.bl (f x))) = .ret (.bl (xs.any f)) := by
  have z : D.bls (xs.map fun x => D.bl (f x)) = some (xs.map f) := by
    have y := bls_map (xs.map f)
    rw [List.map_map] at y
    exact y
  unfold D.any
  dsimp only
  rw [z]
  simp
theorem g_kept {c : Cl} {l : List (Int × Int)} : D.getF c.Days "kept_spans" (dv c l) = .ret (.lst (l.map pD)) := by
  unfold dv
  rw [getF_ev]
  rfl
def hasD (l : List (Int × Int)) (d : Int) : Bool := l.any fun p => decide (p.1 ≤ d) && decide (d ≤ p.2)
theorem dsub_int {i j : Int} : D.sub (.int i) (.int j) = .ret (.int (i - j)) := rfl
theorem e_contains {c : Cl} {l : List (Int × Int)} {d : Int} : m_Days_contains c (dv c l) (.int d) = .ret (.bl (hasD l d)) := by
  have hm : M.map (fun y => D.un2 y fun b e => M.chain D.le D.le (M.ret b) (M.ret (.int d)) (M.ret e)) (l.map pD) = .ret (l.map fun p => D.bl (decide (p.1 ≤ d) && decide (d ≤ p.2))) := map_ret2 fun p m => by
    show M.chain D.le D.le (M.ret (.int p.1)) (M.ret (.int d)) (M.ret (.int p.2)) = _
    simp only [M.chain, M.ret_bind, dle_int, asB_bl]
    cases decide (p.1 ≤ d) <;> rfl
  unfold m_Days_contains
  simp only [M.ret_bind, g_kept, D.items]
  rw [hm]
  simp only [M.ret_bind, M.one, any_map]
  rfl
end Dy
end K28
namespace K28
open PySem PySem.Spec PyProof.Rows L2 VB
variable {P : Program} {w : World} {K : PySem.W.Frag} {mg : Str → Option Value} {base : Heap} {a : Ad}
namespace Dy
theorem hasD_app (a b : List (Int × Int)) (d : Int) : hasD (a ++ b) d = (hasD a d || hasD b d) := by
  unfold hasD
  rw [List.any_append]
theorem hasD_one (p : Int × Int) (d : Int) : hasD [p] d = (decide (p.1 ≤ d) && decide (d ≤ p.2)) := by
  simp [hasD]
/-- what is kept on the way: the last one begins no later than what comes -/
theorem stepF_has {acc : List (Int × Int)} {p : Int × Int} (h : ∀ q, acc.getLast? = some q → q.1 ≤ p.1 ∧ q.1 ≤ q.2) (d : Int) : hasD (stepF acc p) d = (hasD acc d || hasD [p] d) := by
  unfold stepF
  split
  · rename_i gt
    rw [hasD_one]
    have : (decide (p.1 ≤ d) && decide (d ≤ p.2)) = false := by
      rw [Bool.and_eq_false_iff, decide_eq_false_iff_not, decide_eq_false_iff_not]
      omega
    rw [this, Bool.or_false]
  · rename_i ngt
    rcases List.eq_nil_or_concat acc with rfl | ⟨xs, q, rfl⟩
    · rfl
    · rw [List.concat_eq_append] at h ⊢
      have hq := h q (by simp)
      simp only [List.getLast?_append, List.getLast?_singleton, Option.some_or, List.dropLast_concat]
      split
      · rename_i le
        rw [hasD_app, hasD_app, hasD_one, hasD_one, hasD_one, Bool.or_assoc]
        congr 1
        rw [Bool.eq_iff_iff]
        simp only [Bool.and_eq_true, Bool.or_eq_true, decide_eq_true_eq]
        split <;> omega
      · rw [hasD_app]
/-- spans in order, apart -/
structure NF (l : List (Int × Int)) : Prop where
  ap : l.Pairwise fun a b => a.2 + 1 < b.1
  ok : ∀ a ∈ l, a.1 ≤ a.2
theorem stepF_NF {acc : List (Int × Int)} {p : Int × Int} (n : NF acc) (h : ∀ a ∈ acc, a.1 ≤ p.1) : NF (stepF acc p) ∧ (∀ a ∈ stepF acc p, a.1 ≤ p.1) ∧ ∀ a ∈ stepF acc p, DP p → (∀ b ∈ acc, DP b) → DP a := by
  unfold stepF
  split
  · exact ⟨n, h, fun a m _ k => k a m⟩
  · rename_i ngt
    rcases List.eq_nil_or_concat acc with rfl | ⟨xs, q, rfl⟩
    · refine ⟨⟨List.pairwise_singleton _ _, fun a m => ?_⟩, fun a m => ?_, fun a m k _ => ?_⟩
      · rw [List.mem_singleton.mp m]
        omega
      · rw [List.mem_singleton.mp m]
        exact Int.le_refl _
      · rw [List.mem_singleton.mp m]
        exact k
    · rw [List.concat_eq_append] at n h ⊢
      obtain ⟨ap, ok⟩ := n
      obtain ⟨a1, _, a3⟩ := List.pairwise_append.mp ap
      have hq : q.1 ≤ q.2 := ok q (by simp)
      have hqp : q.1 ≤ p.1 := h q (by simp)
      simp only [List.getLast?_append, List.getLast?_singleton, Option.some_or, List.dropLast_concat]
      split
      · rename_i le
        refine ⟨⟨List.pairwise_append.mpr ⟨a1, List.pairwise_singleton _ _, fun a m b mb => ?_⟩, fun a m => ?_⟩, fun a m => ?_, fun a m kp k => ?_⟩
        · rw [List.mem_singleton.mp mb]
          exact a3 a m q (by simp)
        · rcases List.mem_append.mp m with m | m
          · exact ok a (by simp [m])
          · rw [List.mem_singleton.mp m]
            dsimp only
            split <;> omega
        · rcases List.mem_append.mp m with m | m
          · exact h a (by simp [m])
          · rw [List.mem_singleton.mp m]
            exact hqp
        · rcases List.mem_append.mp m with m | m
          · exact k a (by simp [m])
          · rw [List.mem_singleton.mp m]
            have kq := k q (by simp)
            refine ⟨kq.1, ?_⟩
            dsimp only
            split
            · exact kp.2
            · exact kq.2
      · rename_i nle
        refine ⟨⟨List.pairwise_append.mpr ⟨ap, List.pairwise_singleton _ _, fun a m b mb => ?_⟩, fun a m => ?_⟩, fun a m => ?_, fun a m kp k => ?_⟩
        · rw [List.mem_singleton.mp mb]
          rcases List.mem_append.mp m with m | m
          · have := a3 a m q (by simp)
            omega
          · rw [List.mem_singleton.mp m]
            omega
        · rcases List.mem_append.mp m with m | m
          · exact ok a m
          · rw [List.mem_singleton.mp m]
            omega
        · rcases List.mem_append.mp m with m | m
          · exact h a m
          · rw [List.mem_singleton.mp m]
            exact Int.le_refl _
        · rcases List.mem_append.mp m with m | m
          · exact k a m
          · rw [List.mem_singleton.mp m]
            exact kp
theorem foldF : ∀ (ps acc : List (Int × Int)), UpP ps → NF acc → (∀ a ∈ acc, ∀ p ∈ ps, a.1 ≤ p.1) → NF (ps.foldl stepF acc) ∧ (∀ d, hasD (ps.foldl stepF acc) d = (hasD acc d || hasD ps d)) ∧ ((∀ p ∈ ps, DP p) → (∀ a ∈ acc, DP a) → ∀ a ∈ ps.foldl stepF acc, DP a)
  | [], acc, _, n, _ => ⟨n, fun d => by simp [hasD], fun _ k => k⟩
  | p :: ps, acc, up, n, h => by
    obtain ⟨u1, u2⟩ := List.pairwise_cons.mp up
    have hp : ∀ a ∈ acc, a.1 ≤ p.1 := fun a m => h a m p (List.mem_cons_self ..)
    obtain ⟨n1, n2, n3⟩ := stepF_NF n hp
    obtain ⟨r1, r2, r3⟩ := foldF ps (stepF acc p) u2 n1 fun a m b mb => by
      have x := n2 a m
      have y := SrtO.lexB_no.mp (u1 b mb)
      omega
    rw [List.foldl_cons]
    refine ⟨r1, fun d => ?_, fun k1 k2 => r3 (fun b mb => k1 b (List.mem_cons_of_mem _ mb)) fun a m => n3 a m (k1 p (List.mem_cons_self ..)) k2⟩
    rw [r2, stepF_has (fun q e => by
      have mq : q ∈ acc := List.mem_of_getLast? e
      exact ⟨hp q mq, n.ok q mq⟩), Bool.or_assoc, show hasD (p :: ps) d = (hasD [p] d || hasD ps d) from by rw [← hasD_app]; rfl]
theorem hasD_perm {a b : List (Int × Int)} (h : a.Perm b) (d : Int) : hasD a d = hasD b d := by
  unfold hasD
  rw [Bool.eq_iff_iff, List.any_eq_true, List.any_eq_true]
  exact ⟨fun ⟨x, m, k⟩ => ⟨x, h.mem_iff.mp m, k⟩, fun ⟨x, m, k⟩ => ⟨x, h.mem_iff.mpr m, k⟩⟩
theorem fewest_ok (l : List (Int × Int)) : NF (fewest l) ∧ (∀ d, hasD (fewest l) d = hasD l d) ∧ ((∀ p ∈ l, DP p) → ∀ a ∈ fewest l, DP a) := by
  obtain ⟨a, b, c⟩ := foldF (sortP l) [] (sortP_up l) ⟨List.Pairwise.nil, fun _ m => nomatch m⟩ fun _ m => nomatch m
  refine ⟨a, fun d => ?_, fun h => c (fun p m => h p ((sortP_perm l).mem_iff.mp m)) fun _ m => nomatch m⟩
  rw [show hasD (fewest l) d = _ from b d, hasD_perm (sortP_perm l)]
  rfl
theorem hasD_cons (p : Int × Int) (l : List (Int × Int)) (d : Int) : hasD (p :: l) d = ((decide (p.1 ≤ d) && decide (d ≤ p.2)) || hasD l d) := rfl
end Dy
end K28
namespace K28
open PySem PySem.Spec PyProof.Rows L2 VB
variable {P : Program} {w : World} {K : PySem.W.Frag} {mg : Str → Option Value} {base : Heap} {a : Ad}
namespace Dy
theorem cm_map {k : D → M (Option D)} {α : Type} {e : α → D} {f : α → Option D} : ∀ {xs : List α}, (∀ x ∈ xs, k (e x) = .ret (f x)) → M.cm k (xs.map e) = .ret (xs.filterMap f)
  | [], _ => rfl
  | x :: xs, h => by
    rw [List.map_cons]
    unfold M.cm
    rw [h x (List.mem_cons_self ..), M.ret_bind, cm_map fun y m => h y (List.mem_cons_of_mem _ m), M.ret_bind, List.filterMap_cons]
    cases f x <;> rfl
theorem ones_some (l : List (Int × Int)) (d : Int) : (!(l.filterMap fun p => if (decide (p.1 ≤ d) && decide (d ≤ p.2)) = true then some (D.int 1) else none).isEmpty) = hasD l d := by
  induction l with
  | nil => rfl
  | cons p l ih =>
    rw [List.filterMap_cons, hasD_cons]
    cases h : (decide (p.1 ≤ d) && decide (d ≤ p.2)) with
    | true => simp
    | false =>
      simp only [Bool.false_eq_true, if_false, Bool.false_or]
      exact ih
theorem e_has_day {l : List (Int × Int)} {d : Int} : m_law_has_day (.lst (l.map pD)) (.int d) = .ret (.bl (hasD l d)) := by
  unfold m_law_has_day
  simp only [M.ret_bind, D.items, lstM0]
  rw [cm_map (e := pD) (f := fun p => if (decide (p.1 ≤ d) && decide (d ≤ p.2)) = true then some (D.int 1) else none) fun p m => by
    show ((M.chain D.le D.le (M.ret (.int p.1)) (M.ret (.int d)) (M.ret (.int p.2))).bind D.asB).bind _ = _
    simp only [M.chain, M.ret_bind, dle_int, asB_bl]
    cases decide (p.1 ≤ d) with
    | true =>
      simp only [if_true, M.ret_bind, asB_bl, Bool.true_and]
      split <;> rfl
    | false => rfl]
  simp only [M.ret_bind, ne_nil, ones_some]
theorem pow_109 : D.pow (.int 10) (.int 9) = .ret (.int 1000000000) := by rfl
theorem wp_ix5 {xs : List Int} {r : Int} {k : D → M D} {P : D → Prop} (r0 : 0 ≤ r) (r1 : r < (xs.length : Int)) (h : ∀ i ∈ xs, wp (k (.int i)) P) : wp ((D.ix (.lst (xs.map D.int)) (.int r)).bind k) P := by
  obtain ⟨x, mx, ex⟩ := atI_of (xs := xs) r0 r1
  rw [ix_lst (atI_map ex)]
  exact h x mx
theorem w_spans {n : Int} {P : D → Prop} (n0 : 0 ≤ n) (n1 : n ≤ 1000) (hP : ∀ l : List (Int × Int), (l.length : Int) ≤ n → (∀ p ∈ l, DP p) → P (.lst (l.map pD))) : wp (m_law_drawn_spans (.int n)) P := by
  unfold m_law_drawn_spans
  simp only [M.ret_bind, lstM0, dadd_int, M.assoc]
  refine wp_take (by omega) (by omega) fun r r0 r1 => ?_
  rw [rng1_ev r0 (by omega)]
  simp only [M.ret_bind]
  refine wp_bind.mpr (wp_fold (I := fun i s => ∃ l : List (Int × Int), s = .lst (l.map pD) ∧ l.length = i ∧ ∀ p ∈ l, DP p) 0 ⟨[], rfl, rfl, fun _ m => nomatch m⟩ (fun j d s hj ⟨l, hs, hn, hd⟩ => ?_) fun s ⟨l, hs, hn, hd⟩ => ?_)
  · subst hs
    have hj2 := (List.getElem?_eq_some_iff.mp hj).1
    rw [ints_len] at hj2
    simp only [M.ret_bind, pow_109, dadd_int, M.assoc, M.two, M.one]
    refine wp_take (by decide) (by decide) fun g g0 g1 => ?_
    refine wp_take (by decide) (by decide) fun a a0 a1 => ?_
    refine wp_take (by decide) (by decide) fun b b0 b1 => ?_
    refine wp_take (by decide) (by decide) fun e e0 e1 => ?_
    rw [dsub_int]
    simp only [M.ret_bind, lstM5]
    refine wp_take (by decide) (by decide) fun q q0 q1 => ?_
    refine wp_ix5 (xs := [a, b, g, 1000000000 - e, 0]) q0 q1 fun x mx => ?_
    have hx : 0 ≤ x ∧ x ≤ 1000000000 := by
      simp only [List.mem_cons, List.not_mem_nil, or_false] at mx
      omega
    refine wp_take (by decide) (by decide) fun u u0 u1 => ?_
    simp only [dadd_int, M.ret_bind]
    refine wp_take (by decide) (by decide) fun v v0 v1 => ?_
    simp only [dsub_int, M.ret_bind, lstM5]
    refine wp_take (by decide) (by decide) fun t t0 t1 => ?_
    refine wp_ix5 (xs := [x + u, x, x - v, 1000000000, g]) t0 t1 fun y my => ?_
    rw [show D.min2 (.int 1000000000) (.int y) = .ret (.int (if y < 1000000000 then y else 1000000000)) from rfl]
    simp only [M.ret_bind, max2_int, tupM2]
    rw [show (D.tup [D.int x, D.int (if (if y < 1000000000 then y else 1000000000) > 0 then (if y < 1000000000 then y else 1000000000) else 0)]) = pD (x, if (if y < 1000000000 then y else 1000000000) > 0 then (if y < 1000000000 then y else 1000000000) else 0) from rfl, appK_ev (by
      rw [List.length_map]
      omega)]
    refine ⟨l ++ [(x, if (if y < 1000000000 then y else 1000000000) > 0 then (if y < 1000000000 then y else 1000000000) else 0)], ?_, ?_, fun p m => ?_⟩
    · rw [List.map_append]
      rfl
    · rw [List.length_append]
      simp only [List.length_cons, List.length_nil]
      omega
    · rcases List.mem_append.mp m with m | m
      · exact hd p m
      · rw [List.mem_singleton.mp m]
        refine ⟨hx, ?_⟩
        simp only
        split <;> split at * <;> omega
  · subst hs
    refine hP l ?_ hd
    rw [hn, ints_len]
    omega
end Dy
end K28
namespace K28
open PySem PySem.Spec PyProof.Rows L2 VB
variable {P : Program} {w : World} {K : PySem.W.Frag} {mg : Str → Option Value} {base : Heap} {a : Ad}
namespace Cy
def stD (l : List Str) : D := .tup (l.map D.str)
abbrev Rws : Type := List (Str × List Str)
def dcC (R : Rws) : D := .dic (R.map fun r => Sum.inr r.1) (R.map fun r => stD r.2)
def cyD (c : Cl) (rest : Bool) (R : Rws) : D := .ins c.Carry ["kept_rest", "kept_rules"] [.bl rest, dcC R]
def unl (rest : Bool) (w : Str) : List Str := if rest = true then [w] else []
def keptR (rest : Bool) (R : Rws) : Rws := (R.map fun r => (r.1, sortU r.2)).filter fun r => !decide (r.2 = unl rest r.1)
structure WdR (R : Rws) : Prop where
  wd : ∀ r ∈ R, Wd r.1
  ws : ∀ r ∈ R, ∀ x ∈ r.2, Wd x
  sz : ∀ r ∈ R, r.2.length < 64
  nd : (R.map Prod.fst).Nodup
  ln : R.length < 60
theorem disS_of : ∀ {zs : List Str}, zs.Nodup → disS zs = zs
  | [], _ => rfl
  | z :: r, h => by
    obtain ⟨h1, h2⟩ := List.nodup_cons.mp h
    unfold disS
    rw [disS_of h2]
    first | rw [if_neg h1] | simp [h1]
theorem dc_go {k : D → M (Option (D × D))} {α : Type} {g : α → D} {f : α → Option (Str × List Str)} : ∀ (xs : List α) (S : Rws), (∀ x ∈ xs, k (g x) = .ret ((f x).map fun r => (.str r.1, stD r.2))) → ((S ++ xs.filterMap f).map Prod.fst).Nodup → S.length + xs.length < 1000 →
    M.dc k (xs.map g) (dcC S) = .ret (dcC (S ++ xs.filterMap f))
  | [], S, _, _, _ => by
    rw [List.filterMap_nil, List.append_nil]
    rfl
  | x :: xs, S, h, nd, hl => by
    rw [List.length_cons] at hl
    show ((k (g x)).bind _) = _
    rw [h x (List.mem_cons_self ..)]
    cases e : f x with
    | none =>
      rw [List.filterMap_cons_none e] at nd ⊢
      exact dc_go xs S (fun y m => h y (List.mem_cons_of_mem _ m)) nd (by omega)
    | some r =>
      rw [List.filterMap_cons_some e] at nd ⊢
      have nS : (Sum.inr r.1 : Key) ∉ S.map fun r => (Sum.inr r.1 : Key) := fun m => by
        obtain ⟨q, mq, eq⟩ := List.mem_map.mp m
        have eq : q.1 = r.1 := Sum.inr.inj eq
        rw [List.map_append, List.map_cons] at nd
        exact (List.nodup_append.mp nd).2.2 q.1 (List.mem_map_of_mem mq) r.1 (List.mem_cons_self ..) eq
      show D.row (dcC S) (.str r.1) (stD r.2) _ = _
      unfold D.row
      rw [if_pos (show (dcC S).isDc = true from rfl)]
      show (if (S.map fun r => (Sum.inr r.1 : Key)).length < 16777216 then M.dc k (xs.map g) (.dic (putKs (S.map fun r => (Sum.inr r.1 : Key)) (Sum.inr r.1)) (putDs (S.map fun r => (Sum.inr r.1 : Key)) (S.map fun r => stD r.2) (Sum.inr r.1) (stD r.2))) else .fail) = _
      rw [if_pos (by
        rw [List.length_map]
        omega)]
      unfold putKs putDs
      rw [if_neg nS, if_neg nS]
      have z := dc_go xs (S ++ [r]) (fun y m => h y (List.mem_cons_of_mem _ m)) (by
        rw [List.append_assoc]
        exact nd) (by
        rw [List.length_append, List.length_singleton]
        omega)
      rw [List.append_assoc] at z
      rw [← show r :: xs.filterMap f = [r] ++ xs.filterMap f from rfl] at z
      rw [← z]
      unfold dcC
      rw [List.map_append, List.map_append]
      rfl
theorem rowsM_dcC (R : Rws) : (dcC R).rowsM = .ret (R.map fun r => VB.pairD (.str r.1, stD r.2)) := by
  show M.ret (((((R.map fun r => (Sum.inr r.1 : Key)).map kDD).zip (R.map fun r => stD r.2))).map VB.pairD) = _
  rw [List.map_map]
  congr 1
  induction R with
  | nil => rfl
  | cons r R ih =>
    rw [List.map_cons, List.map_cons, List.zip_cons_cons, List.map_cons, List.map_cons, ih]
    rfl
theorem stD_eqb {a b : List Str} (ha : ∀ x ∈ a, Wd x) (hb : ∀ x ∈ b, Wd x) : (stD a).eqb (stD b) = some (decide (a = b)) := by
  obtain ⟨h1, h2, h3, h4⟩ := strs_shaped ha hb
  rw [← strs_eqv a b]
  exact if_pos (by
    show ((stD a).pu && (stD b).pu && (SeqAt.shaped (stD a).py && SeqAt.shaped (stD b).py)) = true
    unfold stD
    rw [h1, h2, h3, h4]
    rfl)
theorem stD_ne {a b : List Str} (ha : ∀ x ∈ a, Wd x) (hb : ∀ x ∈ b, Wd x) : D.ne (stD a) (stD b) = .ret (.bl (!decide (a = b))) := by
  unfold D.ne
  rw [stD_eqb ha hb]
  rfl
theorem e_unl {rest : Bool} {w : Str} : m_unlisted (.bl rest) (.str w) = .ret (stD (unl rest w)) := by
  unfold m_unlisted unl stD
  cases rest with
  | true => rfl
  | false => rfl
theorem unl_wd {rest : Bool} {w : Str} (h : Wd w) : ∀ x ∈ unl rest w, Wd x := by
  intro x m
  unfold unl at m
  split at m
  · rw [List.mem_singleton.mp m]
    exact h
  · cases m
theorem sortedSet_ev {zs : List Str} (h : zs.length < 64) : D.sortedSet (.lst (zs.map D.str)) = .ret (.lst ((sortU zs).map D.str)) := by
  show (match strsA (zs.map D.str) with | some zs => if zs.length < 64 then M.ret (D.lst ((sortU zs).map D.str)) else .fail | none => .fail) = _
  rw [strsA_map]
  exact if_pos h
def lookR (R : Rws) (w : Str) : Option (List Str) := (R.find? fun r => decide (r.1 = w)).map Prod.snd
def carr (rest : Bool) (R : Rws) (w : Str) : List Str := match lookR R w with
  | some l => sortU l
  | none => unl rest w
theorem lookD_dcC : ∀ (R : Rws) (w : Str), lookD (R.map fun r => (Sum.inr r.1 : Key)) (R.map fun r => stD r.2) (Sum.inr w) = (lookR R w).map stD
  | [], _ => rfl
  | r :: R, w => by
    show (if (Sum.inr r.1 : Key) = Sum.inr w then some (stD r.2) else lookD (R.map fun r => (Sum.inr r.1 : Key)) (R.map fun r => stD r.2) (Sum.inr w)) = _
    unfold lookR
    rw [List.find?_cons]
    by_cases e : r.1 = w
    · rw [if_pos (congrArg Sum.inr e), decide_eq_true e]
      rfl
    · rw [if_neg (fun z => e (Sum.inr.inj z)), decide_eq_false e]
      exact lookD_dcC R w
theorem get2_dcC (R : Rws) (w : Str) (l : List Str) : D.get2 (dcC R) (.str w) (stD l) = .ret (stD ((lookR R w).getD l)) := by
  unfold D.get2
  have e : (dcC R).dlook (.str w) = some ((lookR R w).map stD) := by
    show some (lookD (R.map fun r => (Sum.inr r.1 : Key)) (R.map fun r => stD r.2) (Sum.inr w)) = _
    rw [lookD_dcC]
  rw [e]
  show M.ret (((lookR R w).map stD).getD (stD l)) = _
  cases lookR R w <;> rfl
theorem lookR_none {R : Rws} {w : Str} : lookR R w = none ↔ w ∉ R.map Prod.fst := by
  unfold lookR
  rw [Option.map_eq_none_iff, List.find?_eq_none]
  constructor
  · intro h m
    obtain ⟨r, mr, e⟩ := List.mem_map.mp m
    exact h r mr (decide_eq_true e)
  · intro h r mr e
    exact h (List.mem_map.mpr ⟨r, mr, of_decide_eq_true e⟩)
theorem lookR_mem {R : Rws} {w : Str} {l : List Str} (h : lookR R w = some l) : (w, l) ∈ R := by
  obtain ⟨r, hr, rfl⟩ := Option.map_eq_some_iff.mp h
  have m := List.mem_of_find?_eq_some hr
  have e := List.find?_some (p := fun r : Str × List Str => decide (r.1 = w)) hr
  rw [← of_decide_eq_true e]
  exact m
theorem lookR_of {R : Rws} {w : Str} {l : List Str} (nd : (R.map Prod.fst).Nodup) (m : (w, l) ∈ R) : lookR R w = some l := by
  induction R with
  | nil => cases m
  | cons r R ih =>
    obtain ⟨n1, n2⟩ := List.nodup_cons.mp nd
    unfold lookR at ih ⊢
    rw [List.find?_cons]
    rcases List.mem_cons.mp m with rfl | m
    · rw [decide_eq_true rfl]
      rfl
    · rw [decide_eq_false (fun e => n1 (by
        rw [e]
        exact List.mem_map.mpr ⟨_, m, rfl⟩))]
      exact ih n2 m
theorem kept_mem {rest : Bool} {R : Rws} (nd : (R.map Prod.fst).Nodup) {w : Str} {l : List Str} : (w, l) ∈ keptR rest R ↔ (∃ k, lookR R w = some k ∧ l = sortU k) ∧ l ≠ unl rest w := by
  unfold keptR
  rw [List.mem_filter, List.mem_map]
  constructor
  · rintro ⟨⟨r, mr, e⟩, h⟩
    cases e
    refine ⟨⟨r.2, lookR_of nd mr, rfl⟩, fun z => ?_⟩
    rw [decide_eq_true z] at h
    cases h
  · rintro ⟨⟨k, hk, rfl⟩, h⟩
    refine ⟨⟨(w, k), lookR_mem hk, rfl⟩, ?_⟩
    rw [decide_eq_false h]
    rfl
/-- what is kept tells the same -/
theorem kept_carr {rest : Bool} {R : Rws} (nd : (R.map Prod.fst).Nodup) (w : Str) : (lookR (keptR rest R) w).getD (unl rest w) = carr rest R w := by
  unfold carr
  cases e : lookR (keptR rest R) w with
  | some l =>
    obtain ⟨⟨k, hk, rfl⟩, _⟩ := (kept_mem nd).mp (lookR_mem e)
    rw [hk]
    rfl
  | none =>
    cases e2 : lookR R w with
    | none => rfl
    | some k =>
      show unl rest w = sortU k
      by_cases z : sortU k = unl rest w
      · exact z.symm
      · have := lookR_none.mp e
        exact (this (List.mem_map.mpr ⟨(w, sortU k), (kept_mem nd).mpr ⟨⟨k, e2, rfl⟩, z⟩, rfl⟩)).elim
theorem getF_rest {c : Cl} {rest : Bool} {R : Rws} : D.getF c.Carry "kept_rest" (cyD c rest R) = .ret (.bl rest) := by
  unfold cyD
  rw [getF_ev]
  rfl
theorem getF_rules {c : Cl} {rest : Bool} {R : Rws} : D.getF c.Carry "kept_rules" (cyD c rest R) = .ret (dcC R) := by
  unfold cyD
  rw [getF_ev]
  rfl
theorem e_carried {c : Cl} {rest : Bool} {R : Rws} (nd : (R.map Prod.fst).Nodup) {w : Str} : m_Carry_carried c (cyD c rest (keptR rest R)) (.str w) = .ret (.lst ((carr rest R w).map D.str)) := by
  unfold m_Carry_carried
  simp only [M.ret_bind, getF_rest, getF_rules, e_unl, get2_dcC, kept_carr nd]
  rfl
theorem e_rest {c : Cl} {rest : Bool} {R : Rws} : m_Carry_rest c (cyD c rest R) = .ret (.bl rest) := by
  unfold m_Carry_rest
  simp only [M.ret_bind, getF_rest]
theorem mth_car {c : Cl} {rest : Bool} {R : Rws} {m : M D} : D.mth c.Carry "carried" (cyD c rest R) m = m := mth_ev (by decide)
theorem prp_rest {c : Cl} {rest : Bool} {R : Rws} : D.prp c.Carry (l_Carry_rest c) (cyD c rest R) = .ret (.bl rest) := by
  show D.prp c.Carry (l_Carry_rest c) (.ins c.Carry ["kept_rest", "kept_rules"] [.bl rest, dcC R]) = _
  rw [prp_ev]
  exact e_rest (c := c) (rest := rest) (R := R)
end Cy
end K28
namespace K28
open PySem PySem.Spec PyProof.Rows L2 VB
variable {P : Program} {w : World} {K : PySem.W.Frag} {mg : Str → Option Value} {base : Heap} {a : Ad}
theorem w_mixed {ds : List D} {b : Bool} {P : D → Prop} (hl : ds.length ≤ 1000) (hP : ∀ es, es.length = ds.length → (∀ e, e ∈ es ↔ e ∈ ds) → P (.lst es)) : wp (m_law_mixed (if b = true then .lst ds else .tup ds)) P := by
  unfold m_law_mixed
  rw [lstM_ev (by simp), show D.items (if b = true then .lst ds else .tup ds) = .ret ds from by cases b <;> rfl]
  simp only [M.ret_bind]
  refine wp_bind.mpr (wp_fold (I := fun i s => ∃ es, s = .lst es ∧ es.length = i ∧ ∀ e, e ∈ es ↔ e ∈ ds.take i) 0 ⟨[], rfl, rfl, fun _ => Iff.rfl⟩ (fun j d s hj ⟨es, hs, hn, hm⟩ => ?_) fun s ⟨es, hs, hn, hm⟩ => ?_)
  · subst hs
    have hj2 : j < ds.length := (List.getElem?_eq_some_iff.mp hj).1
    show wp (D.lsk (.lst es) _) _
    simp only [D.lsk]
    rw [if_pos (by omega)]
    simp only [M.one, dlen_lst, M.ret_bind, dadd_int]
    refine wp_take (by omega) (by omega) fun r r0 r1 => ?_
    show wp (if 0 ≤ r ∧ r < 9223372036854775808 then _ else _) _
    rw [if_pos ⟨r0, by omega⟩]
    refine ⟨_, rfl, ?_, fun e => ?_⟩
    · simp only [List.length_append, List.length_take, List.length_drop, List.length_cons, List.length_nil]
      omega
    · rw [show ds.take (0 + j + 1) = ds.take j ++ [d] from by
        rw [Nat.zero_add, List.take_add_one, hj]
        rfl]
      rw [Nat.zero_add] at hm
      rw [List.mem_append, List.mem_append, List.mem_append, List.mem_singleton, ← hm e]
      constructor
      · rintro ((m | m) | m)
        · exact .inl (List.mem_of_mem_take m)
        · exact .inr m
        · exact .inl (List.mem_of_mem_drop m)
      · rintro (m | m)
        · rw [← List.take_append_drop r.toNat es, List.mem_append] at m
          exact m.elim (fun z => .inl (.inl z)) .inr
        · exact .inl (.inr m)
  · subst hs
    rw [Nat.zero_add, List.take_length] at hm
    exact hP es (by omega) hm
abbrev PK1 : Str := "lists paper anchor notice trust arrive renew back all none any named open shut soft strict ok root"
abbrev PK2 : Str := " a b ab zz ask days"
theorem pk_add : D.add (.str PK1) (.str PK2) = .ret (.str (PK1 ++ PK2)) := addS_ev (by decide +kernel)
theorem pk_split : D.split (.str (PK1 ++ PK2)) (.str " ") = .ret (.lst ((Txt.split (PK1 ++ PK2) " ").map D.str)) := split_ev (by decide +kernel)
theorem let_ix {r : Int} (h0 : 0 ≤ r) (h1 : r < 26) : ∃ c, D.ix (.str LET) (.int r) = .ret (.str ⟨#[c]⟩) ∧ Lw ⟨#[c]⟩ := by
  obtain ⟨c, e, hc⟩ := let_at h0 h1
  exact ⟨c, ix_str (by decide +kernel) e, hc⟩
theorem wp_map_ix {k : D → M D} {Q : Nat → D → Prop} : ∀ {ds : List D} {P : List D → Prop} (i0 : Nat), (∀ (j : Nat) (d : D), ds[j]? = some d → wp (k d) (Q (i0 + j))) → (∀ es : List D, es.length = ds.length → (∀ (j : Nat) (e : D), es[j]? = some e → Q (i0 + j) e) → P es) → wp (M.map k ds) P
  | [], P, i0, _, h => h [] rfl fun j e z => by simp at z
  | d :: ds, P, i0, hk, h => by
    show wp ((k d).bind fun y => (M.map k ds).bind fun r => .ret (y :: r)) P
    refine wp_bind.mpr (wp_mono (hk 0 d rfl) fun y hy => wp_bind.mpr (wp_map_ix (Q := Q) (i0 + 1) (fun j e z => ?_) fun es hl he => ?_))
    · rw [show i0 + 1 + j = i0 + (j + 1) by omega]
      exact hk (j + 1) e (by simpa using z)
    · refine h (y :: es) (by rw [List.length_cons, List.length_cons, hl]) fun j e z => ?_
      cases j with
      | zero =>
        have z : y = e := Option.some.inj z
        rw [← z]
        exact hy
      | succ j =>
        rw [show i0 + (j + 1) = i0 + 1 + j by omega]
        exact he j e (by simpa using z)
theorem LET_nd : LET.cps.toList.Nodup := by decide
theorem let_inj {i j : Int} {c : Nat} (i0 : 0 ≤ i) (i1 : i < 26) (j0 : 0 ≤ j) (j1 : j < 26) (hi : atI LET.cps.toList i = some c) (hj : atI LET.cps.toList j = some c) : i = j := by
  have go : ∀ k : Int, 0 ≤ k → k < 26 → atI LET.cps.toList k = some c → LET.cps.toList[k.toNat]? = some c := fun k k0 k1 e => by
    have hk : k.toNat < LET.cps.toList.length := by
      rw [LET_len]
      omega
    have z := atI_nat (List.getElem?_eq_getElem hk)
    rw [show ((k.toNat : Nat) : Int) = k by omega, e] at z
    rw [List.getElem?_eq_getElem hk, ← Option.some.inj z]
  have hi2 : i.toNat < LET.cps.toList.length := by
    rw [LET_len]
    omega
  have := (List.getElem?_inj hi2 LET_nd).mp ((go i i0 i1 hi).trans (go j j0 j1 hj).symm)
  omega
theorem app_inj {a y z b : Str} (e : a ++ y ++ b = a ++ z ++ b) : y = z := by
  have e := congrArg (fun s : Str => s.cps.toList) e
  simp only [Str.cps_append, Array.toList_append] at e
  have e := List.append_cancel_left (List.append_cancel_right e)
  obtain ⟨⟨y⟩⟩ := y
  obtain ⟨⟨z⟩⟩ := z
  have e : y = z := e
  rw [e]
theorem w_labelsN {n : Int} {P : D → Prop} (n1 : 1 ≤ n) (n8 : n ≤ 8) (hP : ∀ ws : List Str, (ws.length : Int) = n → (∀ x ∈ ws, Wd x) → ws.Nodup → P (.lst (ws.map D.str))) : wp (m_law_labels (.int n)) P := by
  have n2 : n ≤ 24 := by omega
  unfold m_law_labels
  simp only [M.ret_bind, pk_add, pk_split, M.assoc]
  have hW := words_ok
  rw [show ("lists paper anchor notice trust arrive renew back all none any named open shut soft strict ok root" ++ " a b ab zz ask days" : Str) = PK1 ++ PK2 from rfl] at hW
  have hN : (Txt.split (PK1 ++ PK2) " ").Nodup := by decide +kernel
  generalize Txt.split (PK1 ++ PK2) " " = words at hW hN ⊢
  refine wp_take (by decide) (by decide) fun way w0 w1 => ?_
  refine wp_take (by decide) (by decide) fun turn t0 t1 => ?_
  rw [tupM2]
  simp only [M.ret_bind, D.un2, M.assoc]
  refine wp_take (by decide) (by decide) fun r7 q0 q1 => ?_
  simp only [dadd_int, M.ret_bind]
  rw [rng1_ev (by omega) (by omega)]
  try simp only [M.ret_bind]
  refine wp_bind.mpr (wp_map_all (Q := fun e => ∃ z : Str, e = .str z ∧ z.length = 1 ∧ Lw z) (fun d m => ?_) fun es hl he => ?_)
  · refine wp_take (by decide) (by decide) fun r26 p0 p1 => ?_
    obtain ⟨c, e, hc⟩ := let_ix p0 p1
    rw [e]
    exact ⟨_, rfl, rfl, hc⟩
  obtain ⟨ys, rfl, hy, hw⟩ := strs_allP he
  rw [ints_len] at hl
  have s1 := sum_ones ys fun x m => (hw x m).1
  have bl : (Txt.join "" ys).length = ys.length := by rw [join_len, s1]
  have bw : Lw (Txt.join "" ys) := join_lw ys fun x m => (hw x m).2
  try simp only [M.ret_bind]
  rw [join_ev (by rw [s1, show (("" : Str)).length = 0 from rfl]; omega)]
  generalize Txt.join "" ys = base at bl bw ⊢
  have b1 : 1 ≤ base.length := by omega
  have b7 : base.length ≤ 7 := by omega
  clear bl s1 hw hy hl he ys q0 q1 r7
  simp only [M.ret_bind, M.one]
  rw [dlen_str (by omega)]
  simp only [M.ret_bind, dadd_int]
  refine wp_take (by omega) (by omega) fun at_ a0 a1 => ?_
  rw [fdiv_ev (by decide)]
  try simp only [M.ret_bind]
  rw [tupM2]
  simp only [M.ret_bind, deq_int, asB_bl]
  by_cases ew : way = 0
  · rw [decide_eq_true ew, if_pos rfl]
    simp only [M.ret_bind, asI_int, D.sl]
    rw [addL_ev (by
      have h1 := cutG_len (words.map D.str) (some turn) none
      have h2 := cutG_len (words.map D.str) none (some turn)
      rw [List.length_map, hW.1] at h1 h2
      omega)]
    try simp only [M.ret_bind]
    rw [cutG_map, cutG_map, ← List.map_append, cutG_map]
    have et : turn = ((turn.toNat : Nat) : Int) := by omega
    have en : n = ((n.toNat : Nat) : Int) := by omega
    refine hP _ ?_ (fun x m => hW.2 x (rot_mem m)) ?_
    · rw [et, en, rot_len words turn.toNat n.toNat (by omega) (by omega)]
      try omega
    · rw [et, en, cutG_lo, cutG_lo, cutG_hi]
      exact (List.take_sublist _ _).nodup ((List.perm_append_comm.nodup_iff).mpr (by
        rw [List.take_append_drop]
        exact hN))
  rw [decide_eq_false ew, if_neg Bool.false_ne_true]
  have way1 : 1 ≤ way := by omega
  have f0 : 0 ≤ way / 3 := by omega
  have f1 : way / 3 ≤ 1 := by omega
  have f2 : way = 2 → way / 3 = 0 := by omega
  generalize way / 3 = far at f0 f1 f2 ⊢
  rw [rng1_ev (by omega) (by omega)]
  try simp only [M.ret_bind]
  refine wp_bind.mpr (wp_map_ix (Q := fun j e => ∃ z : Str, e = .str z ∧ (Wd z ∧ (far = 0 → z.length = 1)) ∧ ∃ (c : Nat) (q : Int), 0 ≤ q ∧ q < 100 ∧ (far = 0 → q = 3 * (j : Int)) ∧ atI LET.cps.toList ((turn + q) % 26) = some c ∧ z = Txt.mul ⟨#[c]⟩ (1 + (j : Int) % 8 * far)) 0 (fun i d m => ?_) fun es hl hx => ?_)
  · obtain ⟨i2, rfl, hi2⟩ := ints_mem (List.mem_of_getElem? m)
    have ei : i2 = i := by
      unfold D.ints at m
      rw [List.getElem?_map] at m
      have lt : i < (List.range n.toNat).length := by
        cases h : (List.range n.toNat)[i]? with
        | none =>
          rw [h] at m
          cases m
        | some y => exact (List.getElem?_eq_some_iff.mp h).1
      rw [List.length_range] at lt
      rw [List.getElem?_range lt] at m
      have m := Option.some.inj m
      injection m with m
      omega
    subst ei
    have hi := hi2
    rw [Nat.zero_add]
    generalize i2 = i at hi ⊢
    clear m hi2
    have hi : (i : Int) < 24 := by omega
    rw [mulI_ev (by
      have := log2_small (i := (i : Int)) (by
        have : (i : Int).natAbs < 24 := by omega
        exact Nat.lt_trans this (by decide))
      have : (3 : Int).natAbs.log2 = 1 := by decide
      omega), fdiv_ev (by decide)]
    try simp only [M.ret_bind]
    rw [lstM2]
    obtain ⟨q, em, m0, m1, m2⟩ : ∃ q : Int, atI [D.int (3 * (i : Int)), D.int ((i : Int) / 8)] far = some (D.int q) ∧ 0 ≤ q ∧ q < 100 ∧ (far = 0 → q = 3 * (i : Int)) := by
      rcases (show far = 0 ∨ far = 1 by omega) with f | f
      · exact ⟨3 * i, by rw [f]; rfl, by omega, by omega, fun _ => rfl⟩
      · exact ⟨(i : Int) / 8, by rw [f]; rfl, by omega, by omega, fun z => by omega⟩
    try simp only [M.ret_bind]
    rw [ix_lst em]
    simp only [M.ret_bind, dadd_int, D.toInt]
    rw [mod_ev (by decide)]
    obtain ⟨c, ec, hc⟩ := let_at (i := (turn + q) % 26) (Int.emod_nonneg _ (by decide)) (Int.emod_lt_of_pos _ (by decide))
    have e : D.ix (.str LET) (.int ((turn + q) % 26)) = .ret (.str ⟨#[c]⟩) := ix_str (by decide +kernel) ec
    try simp only [M.ret_bind]
    rw [e, mod_ev (by decide)]
    try simp only [M.ret_bind]
    have k0 : 0 ≤ (i : Int) % 8 := Int.emod_nonneg _ (by decide)
    have k8 : (i : Int) % 8 < 8 := Int.emod_lt_of_pos _ (by decide)
    rw [mulI_ev (by
      have h1 := log2_small (i := (i : Int) % 8) (by
        have : ((i : Int) % 8).natAbs < 8 := by omega
        exact Nat.lt_trans this (by decide))
      have h2 := log2_small (i := far) (by
        have : far.natAbs < 8 := by omega
        exact Nat.lt_trans this (by decide))
      omega)]
    simp only [M.ret_bind, dadd_int]
    have kk : 1 ≤ 1 + (i : Int) % 8 * far ∧ 1 + (i : Int) % 8 * far ≤ 8 ∧ (far = 0 → 1 + (i : Int) % 8 * far = 1) := by
      rcases (show far = 0 ∨ far = 1 by omega) with f | f
      · rw [f]
        omega
      · rw [f]
        omega
    rw [mulS_ev ⟨by omega, by omega, by show 1 ≤ 1000; decide⟩]
    refine ⟨_, rfl, ⟨mul_one_lw hc kk.1 kk.2.1, fun f => ?_⟩, c, q, m0, m1, m2, ec, rfl⟩
    rw [kk.2.2 f, mul_one']
    rfl
  have he : ∀ e ∈ es, ∃ z : Str, e = .str z ∧ (Wd z ∧ (far = 0 → z.length = 1)) := fun e m => by
    obtain ⟨j, hj⟩ := List.mem_iff_getElem?.mp m
    obtain ⟨z, e1, e2, _⟩ := hx j e hj
    exact ⟨z, e1, e2⟩
  obtain ⟨ys, rfl, hy, hw⟩ := strs_allP he
  rw [ints_len] at hl
  have yd : ∀ i j : Nat, i < j → j < 8 → ∀ a b : Str, ys[i]? = some a → ys[j]? = some b → a ≠ b := fun i j hij hj8 a b ha hb e => by
    obtain ⟨z, e1, _, c, q, q0, q1, qf, ec, ez⟩ := hx i (.str a) (by rw [List.getElem?_map, ha]; rfl)
    obtain ⟨z', e1', _, c', q', q0', q1', qf', ec', ez'⟩ := hx j (.str b) (by rw [List.getElem?_map, hb]; rfl)
    rw [Nat.zero_add] at qf qf' ez ez'
    injection e1 with e1
    injection e1' with e1'
    subst e1 e1' e
    rcases (show far = 0 ∨ far = 1 by omega) with f | f
    · rw [f, Int.mul_zero, Int.add_zero, mul_one'] at ez ez'
      rw [ez] at ez'
      injection ez' with ez'
      have ez' : [c] = [c'] := congrArg Array.toList ez'
      injection ez' with ez' _
      subst ez'
      have r := let_inj (Int.emod_nonneg _ (by decide)) (Int.emod_lt_of_pos _ (by decide)) (Int.emod_nonneg _ (by decide)) (Int.emod_lt_of_pos _ (by decide)) ec ec'
      have := qf f
      have := qf' f
      omega
    · have l1 := congrArg Str.length ez
      have l2 := congrArg Str.length ez'
      rw [f, mul_len _ _ (by omega), show (⟨#[c]⟩ : Str).length = 1 from rfl] at l1
      rw [f, mul_len _ _ (by omega), show (⟨#[c']⟩ : Str).length = 1 from rfl] at l2
      omega
  simp only [M.ret_bind, deq_int, D.toInt]
  rw [mulS_ev ⟨by split <;> decide, by split <;> decide, by omega⟩]
  have hb : Lw (Txt.mul base (if decide (way = 2) = true then 1 else 0)) ∧ ((Txt.mul base (if decide (way = 2) = true then 1 else 0)).length = 0 ∨ (far = 0 ∧ Txt.mul base (if decide (way = 2) = true then 1 else 0) = base)) := by
    refine ⟨bw.mul _, ?_⟩
    by_cases e2 : way = 2
    · rw [decide_eq_true e2, if_pos rfl, mul_one']
      exact Or.inr ⟨f2 e2, rfl⟩
    · rw [decide_eq_false e2, if_neg Bool.false_ne_true, mul_zero']
      exact Or.inl rfl
  generalize Txt.mul base (if decide (way = 2) = true then 1 else 0) = base2 at hb ⊢
  obtain ⟨bw2, hb⟩ := hb
  have b27 : base2.length ≤ 7 := by
    rcases hb with z | ⟨_, z⟩
    · omega
    · rw [z]
      exact b7
  try simp only [M.ret_bind]
  refine wp_bind.mpr (wp_map_ix (Q := fun j e => ∃ z : Str, e = .str z ∧ Wd z ∧ ∃ y, ys[j]? = some y ∧ z = cutS base2 none (some at_) ++ y ++ cutS base2 (some at_) none) 0 (fun i d m => ?_) fun es hl2 hx2 => ?_)
  · obtain ⟨i2, rfl, hi2⟩ := ints_mem (List.mem_of_getElem? m)
    have ei : i2 = i := by
      unfold D.ints at m
      rw [List.getElem?_map] at m
      have lt : i < (List.range n.toNat).length := by
        cases h : (List.range n.toNat)[i]? with
        | none =>
          rw [h] at m
          cases m
        | some y => exact (List.getElem?_eq_some_iff.mp h).1
      rw [List.length_range] at lt
      rw [List.getElem?_range lt] at m
      have m := Option.some.inj m
      injection m with m
      omega
    subst ei
    have hi := hi2
    rw [Nat.zero_add]
    clear m hi2
    generalize i2 = i at hi ⊢
    have hi2 : i < ys.length := by omega
    simp only [asI_int, M.ret_bind]
    rw [slS_ev (by omega)]
    have em : atI (ys.map D.str) (i : Int) = some (.str ys[i]) := atI_nat (by rw [List.getElem?_map, List.getElem?_eq_getElem hi2]; rfl)
    rw [ix_lst em]
    have yw := hw _ (List.getElem_mem hi2)
    have yy : ys[i]? = some ys[i] := List.getElem?_eq_getElem hi2
    generalize ys[i] = y at yw yy ⊢
    have c1 := cutS_len base2 none (some at_)
    have c2 := cutS_len base2 (some at_) none
    obtain ⟨⟨y1, y8, yl⟩, yf⟩ := yw
    try simp only [M.ret_bind]
    rw [addS_ev (by omega), slS_ev (by omega)]
    try simp only [M.ret_bind]
    rw [addS_ev (by rw [Str.length_append]; omega)]
    refine ⟨_, rfl, ?_, y, yy, rfl⟩
    have lw : Lw (cutS base2 none (some at_) ++ y ++ cutS base2 (some at_) none) := ((bw2.cut _ _).app yl).app (bw2.cut _ _)
    have ll : (cutS base2 none (some at_) ++ y ++ cutS base2 (some at_) none).length = (cutS base2 none (some at_)).length + y.length + (cutS base2 (some at_) none).length := by
      rw [Str.length_append, Str.length_append]
    refine ⟨by omega, ?_, lw⟩
    rcases hb with z | ⟨f, z⟩
    · omega
    · have y1' := yf f
      have ea : at_ = ((at_.toNat : Nat) : Int) := by omega
      rw [z] at ll ⊢
      rw [ea] at ll ⊢
      rw [cut_lo_len base at_.toNat (by omega), cut_hi_len base at_.toNat (by omega)] at ll
      omega
  have he2 : ∀ e ∈ es, ∃ z : Str, e = .str z ∧ Wd z := fun e m => by
    obtain ⟨j, hj⟩ := List.mem_iff_getElem?.mp m
    obtain ⟨z, e1, e2, _⟩ := hx2 j e hj
    exact ⟨z, e1, e2⟩
  obtain ⟨zs, rfl, hz, hzw⟩ := strs_allP he2
  rw [ints_len] at hl2
  refine hP zs (by omega) hzw (List.pairwise_iff_getElem.mpr fun i j hi hj hij e => ?_)
  obtain ⟨z, e1, _, y, y1, ez⟩ := hx2 i (.str zs[i]) (by rw [List.getElem?_map, List.getElem?_eq_getElem hi]; rfl)
  obtain ⟨z', e1', _, y', y1', ez'⟩ := hx2 j (.str zs[j]) (by rw [List.getElem?_map, List.getElem?_eq_getElem hj]; rfl)
  rw [Nat.zero_add] at y1 y1'
  injection e1 with e1
  injection e1' with e1'
  rw [← e1] at ez
  rw [← e1', ← e, ez] at ez'
  exact yd i j hij (by omega) y y' y1 y1' (app_inj ez')
theorem wp_map_two {α β : Type} {f : α → D} {g : β → D} {R : α → β → Prop} {k : D → M D} : ∀ {ls : List α} {P : List D → Prop}, (∀ x ∈ ls, wp (k (f x)) fun e => ∃ y, e = g y ∧ R x y) → (∀ ks : List β, ks.length = ls.length → (∀ q ∈ ls.zip ks, R q.1 q.2) → P (ks.map g)) → wp (M.map k (ls.map f)) P
  | [], P, _, hP => hP [] rfl fun _ m => nomatch m
  | x :: ls, P, h, hP => by
    rw [List.map_cons]
    unfold M.map
    refine wp_bind.mpr (wp_mono (h x (List.mem_cons_self ..)) fun e ⟨y, ey, r⟩ => ?_)
    subst ey
    refine wp_bind.mpr (wp_map_two (R := R) (fun z m => h z (List.mem_cons_of_mem _ m)) fun ks hk hr => ?_)
    refine hP (y :: ks) (by rw [List.length_cons, List.length_cons, hk]) fun q m => ?_
    rw [List.zip_cons_cons] at m
    rcases List.mem_cons.mp m with e | m
    · rw [e]
      exact r
    · exact hr q m
theorem zip_snd {α β : Type} : ∀ {xs : List α} {ys : List β}, ys.length = xs.length → ∀ y ∈ ys, ∃ x ∈ xs, (x, y) ∈ xs.zip ys
  | _, [], _, y, m => nomatch m
  | [], _ :: _, h, _, _ => nomatch h
  | x :: xs, z :: ys, h, y, m => by
    rw [List.zip_cons_cons]
    rcases List.mem_cons.mp m with e | m
    · exact ⟨x, List.mem_cons_self .., by rw [e]; exact List.mem_cons_self ..⟩
    · obtain ⟨a, b, d⟩ := zip_snd (Nat.succ.inj h) y m
      exact ⟨a, List.mem_cons_of_mem _ b, List.mem_cons_of_mem _ d⟩
end K28
namespace K28
open PySem PySem.Spec PyProof.Rows L2 VB
variable {P : Program} {w : World} {K : PySem.W.Frag} {mg : Str → Option Value} {base : Heap} {a : Ad}
abbrev Ok (z : Str) : Prop := PyData.strOk z = true
theorem wd_okk {z : Str} (h : Wd z) : Ok z := wd_ok h.2.2
theorem nin_oks {x : Str} {ws : List Str} (hx : Ok x) (hw : ∀ y ∈ ws, Ok y) : D.ninM (.str x) (.lst (ws.map D.str)) = .ret (.bl (!decide (x ∈ ws))) := by
  have c : ((D.str x).pu && D.puA (ws.map D.str) && (SeqAt.shaped (D.str x).py && SeqAt.shaped (D.lst (ws.map D.str)).py)) = true := (Eqq.mono (Eqq.str hx) (Nat.zero_le 1)).cond (Eqq.lst (k := 0) (ds := ws.map D.str) fun d m => by
    obtain ⟨y, my, rfl⟩ := List.mem_map.mp m
    exact Eqq.str (hw y my)) (by decide)
  have e : (D.str x).inb (.lst (ws.map D.str)) = some (decide (x ∈ ws)) := by
    show (if ((D.str x).pu && D.puA (ws.map D.str) && (SeqAt.shaped (D.str x).py && SeqAt.shaped (D.lst (ws.map D.str)).py)) = true then some ((D.pyA (ws.map D.str)).any fun z => PyData.eqv z (D.str x).py) else none) = _
    rw [if_pos c, pyA_strs, List.any_map]
    congr 1
    rw [Bool.eq_iff_iff, List.any_eq_true, decide_eq_true_iff]
    constructor
    · rintro ⟨y, my, e⟩
      have e : PyData.eqv (D.str y).py (D.str x).py = true := e
      rw [eqv_str, decide_eq_true_iff] at e
      rw [← e]
      exact my
    · intro m
      refine ⟨x, m, ?_⟩
      show PyData.eqv (D.str x).py (D.str x).py = true
      rw [eqv_str, decide_eq_true_iff]
  unfold D.ninM
  rw [e]
  rfl
theorem ix_at {α : Type} {f : α → D} {xs : List α} {i : Nat} {x : α} (e : xs[i]? = some x) : D.ix (.lst (xs.map f)) (.int i) = .ret (f x) := ix_lst (atD_nat (by rw [List.getElem?_map, e]; rfl))
theorem sl_to {α : Type} {f : α → D} {xs : List α} {i : Nat} : D.sl (.lst (xs.map f)) none (some (i : Int)) = .ret (.lst ((xs.take i).map f)) := by
  show M.ret (D.lst (cutG (xs.map f) none (some (i : Int)))) = _
  rw [cutG_lo, List.map_take]
def rwG (q : (Str × List Str) × Bool) : D := .tup [.str q.1.1, seqA q.2 (q.1.2.map D.str)]
theorem dayB_at {z : D} (h : dayB z = true) : ∃ i : Int, z = .int i ∧ 0 ≤ i ∧ i ≤ 1000000000 := by
  cases z with
  | int i =>
    obtain ⟨h1, h2⟩ := Bool.and_eq_true_iff.mp (show (decide (0 ≤ i) && decide (i ≤ 1000000000)) = true from h)
    exact ⟨i, rfl, of_decide_eq_true h1, of_decide_eq_true h2⟩
  | _ => cases h
theorem spanB_at {d : D} (h : spanB d = true) : ∃ p : Int × Int, d = pD p ∧ Dy.DP p := by
  by_cases s : ∃ x y, d = .tup [x, y]
  · obtain ⟨x, y, rfl⟩ := s
    obtain ⟨h1, h2⟩ := Bool.and_eq_true_iff.mp (show (dayB x && dayB y) = true from h)
    obtain ⟨i, rfl, i0, i1⟩ := dayB_at h1
    obtain ⟨j, rfl, j0, j1⟩ := dayB_at h2
    exact ⟨(i, j), rfl, ⟨i0, i1⟩, j0, j1⟩
  · rw [spanB_no fun x y e => s ⟨x, y, e⟩] at h
    cases h
theorem all_pD : ∀ {ds : List D}, ds.all spanB = true → ∃ l : List (Int × Int), ds = l.map pD ∧ ∀ p ∈ l, Dy.DP p
  | [], _ => ⟨[], rfl, fun _ m => nomatch m⟩
  | d :: ds, h => by
    rw [List.all_cons, Bool.and_eq_true_iff] at h
    obtain ⟨p, rfl, hp⟩ := spanB_at h.1
    obtain ⟨l, rfl, hl⟩ := all_pD h.2
    refine ⟨p :: l, rfl, fun q m => ?_⟩
    rcases List.mem_cons.mp m with rfl | m
    · exact hp
    · exact hl q m
theorem wordB_str {z : D} (h : wordB z = true) : ∃ w, z = .str w ∧ Wd w := by
  cases z with
  | str w => exact ⟨w, rfl, wordB_wd.mp h⟩
  | _ => cases h
theorem words_at : ∀ {zs : List D}, zs.all wordB = true → ∃ ws : List Str, zs = ws.map D.str ∧ ∀ w ∈ ws, Wd w
  | [], _ => ⟨[], rfl, fun _ m => nomatch m⟩
  | z :: zs, h => by
    rw [List.all_cons, Bool.and_eq_true_iff] at h
    obtain ⟨w, rfl, hw⟩ := wordB_str h.1
    obtain ⟨ws, rfl, hs⟩ := words_at h.2
    refine ⟨w :: ws, rfl, fun y m => ?_⟩
    rcases List.mem_cons.mp m with rfl | m
    · exact hw
    · exact hs y m
theorem crB_at {d : D} (h : crB d = true) : ∃ q : (Str × List Str) × Bool, d = rwG q ∧ Wd q.1.1 ∧ ∀ x ∈ q.1.2, Wd x := by
  by_cases s : ∃ x y, d = .tup [x, y]
  · obtain ⟨x, y, rfl⟩ := s
    obtain ⟨h1, h2⟩ := Bool.and_eq_true_iff.mp (show (wordB x && wordsB y) = true from h)
    obtain ⟨w, rfl, hw⟩ := wordB_str h1
    have : ∃ b zs, y = seqA b zs ∧ zs.all wordB = true := by
      cases y with
      | lst zs => exact ⟨true, zs, rfl, h2⟩
      | tup zs => exact ⟨false, zs, rfl, h2⟩
      | _ => cases h2
    obtain ⟨b, zs, rfl, hz⟩ := this
    obtain ⟨ws, rfl, hs⟩ := words_at hz
    exact ⟨((w, ws), b), rfl, hw, hs⟩
  · rw [crB_no fun x y e => s ⟨x, y, e⟩] at h
    cases h
theorem all_rwG : ∀ {ds : List D}, ds.all crB = true → ∃ R : List ((Str × List Str) × Bool), ds = R.map rwG ∧ ∀ q ∈ R, Wd q.1.1 ∧ ∀ x ∈ q.1.2, Wd x
  | [], _ => ⟨[], rfl, fun _ m => nomatch m⟩
  | d :: ds, h => by
    rw [List.all_cons, Bool.and_eq_true_iff] at h
    obtain ⟨p, rfl, hp⟩ := crB_at h.1
    obtain ⟨l, rfl, hl⟩ := all_rwG h.2
    refine ⟨p :: l, rfl, fun q m => ?_⟩
    rcases List.mem_cons.mp m with rfl | m
    · exact hp
    · exact hl q m
theorem isiT_seq {al : List Addr} {b : Bool} {ds : List D} : D.isiT al [.ty "list", .ty "tuple"] (seqA b ds) = .ret (.bl true) := by
  cases b <;> exact isiT_of rfl (fun z => nomatch z)
structure FinS (c : Cl) (s : D) (v : Bool) : Prop where
  wr : m_law_wrong c (.int 0) (.lst [s]) = .ret (if v = true then .non else .int 0)
  ex : v = false → mx_Days_init c s = .ret (.ex c.Wrong "place" (.int 0))
  ok : v = true → ∃ b, ∃ l : List (Int × Int), s = seqA b (l.map pD) ∧ (∀ p ∈ l, Dy.DP p) ∧ l.length ≤ 2000000
theorem ix_one {s : D} : D.ix (.lst [s]) (.int 0) = .ret s := ix_lst (show L2.atI [s] ((0 : Nat) : Int) = some s from atI_nat rfl)
theorem fin_spans {c : Cl} {b : Bool} {ds : List D} (h : ∀ d ∈ ds, okS d) (hl : ds.length ≤ 2000000) : FinS c (seqA b ds) (ds.all spanB) := by
  have m1 : M.map (fun d => m_is_span d) ds = .ret (ds.map fun d => .bl (spanB d)) := map_ok fun d m => (e_span_any (h d m)).1
  have en : ∀ xs : List D, D.eq (.lst xs) (.lst []) = .ret (.bl xs.isEmpty) := fun _ => rfl
  have d0 : D.eq (.int 0) (.int 0) = .ret (.bl true) := rfl
  have tr : ∀ b : Bool, (D.bl b).truth = .ret b := fun _ => rfl
  refine ⟨?_, fun hv => ?_, fun hv => ?_⟩
  · unfold m_law_wrong
    simp only [rb17, d0, asB_bl, if_true, ix_one, isiT_seq, M.andB, items_seqA]
    rw [cm_bad (f := spanB) (zs := ds) ?hk]
    case hk =>
      intro d m
      simp only [(e_span_any (h d m)).2, rb17, asB_bl, M.not1]
      cases spanB d <;> rfl
    simp only [rb17, lstM0, en, bad_empty, tr]
    cases ds.all spanB <;> rfl
  · unfold mx_Days_init
    simp only [rb17, isiT_seq, asB_bl, M.or2, M.not1, Bool.not_true, Bool.false_eq_true, if_false, items_seqA, m1, M.one, all_map, hv, Bool.not_false, if_true]
  · obtain ⟨l, rfl, hp⟩ := all_pD hv
    exact ⟨b, l, rfl, hp, by rw [List.length_map] at hl; exact hl⟩
theorem fin_sother {c : Cl} {s : D} (t : s.tyn.isSome = true) (e : s ≠ .etup) (n : seqB s = false) : FinS c s false := by
  have d0 : D.eq (.int 0) (.int 0) = .ret (.bl true) := rfl
  refine ⟨?_, fun _ => ?_, fun z => nomatch z⟩
  · unfold m_law_wrong
    simp only [rb17, d0, asB_bl, if_true, ix_one, isiT_of t e, n, M.andB, Bool.false_eq_true, if_false]
    rfl
  · unfold mx_Days_init
    simp only [rb17, isiT_of t e, n, asB_bl, M.or2, M.not1, Bool.not_false, if_true]
theorem days_made {c : Cl} {b : Bool} {l : List (Int × Int)} (h : ∀ p ∈ l, Dy.DP p) (hl : l.length ≤ 2000000) : mx_Days_init c (seqA b (l.map pD)) = .ret (.ok (Dy.dv c (Dy.fewest l))) := by
  have hm : M.map (fun d => m_is_span d) (l.map pD) = .ret (l.map fun _ => D.bl true) := map_ret2 fun p m => Dy.e_is_span (h p m)
  have ef : m_fewest_spans (seqA b (l.map pD)) = .ret (.lst ((Dy.fewest l).map pD)) := by
    cases b
    · exact Dy.e_fewest Dy.sortA_tup hl
    · exact Dy.e_fewest Dy.sortA_lst hl
  have sf : ∀ k : D → M D, D.setF c.Days "kept_spans" (D.ins c.Days [] []) (.lst ((Dy.fewest l).map pD)) k = k (Dy.dv c (Dy.fewest l)) := fun k => setF_ev (by decide)
  unfold mx_Days_init
  simp only [rb17, isiT_seq, asB_bl, M.or2, M.not1, Bool.not_true, Bool.false_eq_true, if_false, items_seqA, hm, M.one, Dy.all_true, ef, sf]
  unfold M.ok
  rw [rb17]
structure FinR (c : Cl) (s : D) (v : Bool) : Prop where
  wr : ∀ r : Bool, m_law_wrong c (.int 1) (.lst [.bl r, s]) = .ret (if v = true then .non else .int 1)
  are : m_are_carry_rows c s = .ret (.bl v)
  ok : v = true → ∃ b, ∃ R : List ((Str × List Str) × Bool), s = seqA b (R.map rwG) ∧ Cy.WdR (R.map Prod.fst)
theorem ix_two0 {r s : D} : D.ix (.lst [r, s]) (.int 0) = .ret r := ix_lst (show L2.atI [r, s] ((0 : Nat) : Int) = some r from atI_nat rfl)
theorem ix_two1 {r s : D} : D.ix (.lst [r, s]) (.int 1) = .ret s := ix_lst (show L2.atI [r, s] ((1 : Nat) : Int) = some s from atI_nat rfl)
theorem isi_blb {r : Bool} : D.isi (.bl r) (.ty "bool") = .ret (.bl true) := rfl
theorem fin_rother {c : Cl} {s : D} (t : s.tyn.isSome = true) (e : s ≠ .etup) (n : seqB s = false) : FinR c s false := by
  have d0 : D.eq (.int 1) (.int 0) = .ret (.bl false) := rfl
  refine ⟨fun r => ?_, ?_, fun z => nomatch z⟩
  · unfold m_law_wrong
    simp only [rb17, d0, asB_bl, Bool.false_eq_true, if_false, ix_two0, ix_two1, M.two, isi_blb, isiT_of t e, n, M.or2, M.not1, Bool.not_true, Bool.not_false, if_true]
  · unfold m_are_carry_rows
    simp only [rb17, isiT_of t e, n, asB_bl, M.or2, M.not1, Bool.not_false, if_true]
theorem disS_len : ∀ {zs : List Str}, (disS zs).length ≤ zs.length
  | [] => Nat.le_refl _
  | z :: zs => by
    have := disS_len (zs := zs)
    unfold disS
    split
    · rw [List.length_cons]
      omega
    · rw [List.length_cons, List.length_cons]
      omega
theorem disS_nodup : ∀ {zs : List Str}, (disS zs).length = zs.length → zs.Nodup
  | [], _ => List.nodup_nil
  | z :: zs, h => by
    have le := disS_len (zs := zs)
    unfold disS at h
    by_cases m : z ∈ zs
    · rw [if_pos m, List.length_cons] at h
      omega
    · rw [if_neg m, List.length_cons, List.length_cons] at h
      exact List.nodup_cons.mpr ⟨m, disS_nodup (by omega)⟩
theorem lenSet_any {zs : List Str} (h : zs.length < 4000) : D.lenSet (.lst (zs.map D.str)) = .ret (.int (disS zs).length) := by
  show (match strsA (zs.map D.str) with | some zs => if zs.length < 4000 then M.ret (D.int (disS zs).length) else .fail | none => .fail) = _
  rw [strsA_map]
  show (if zs.length < 4000 then M.ret (D.int (disS zs).length) else .fail) = _
  rw [if_pos h]
theorem in_strs {x : Str} {ws : List Str} (hx : Wd x) (hw : ∀ y ∈ ws, Wd y) : D.inM (.str x) (.lst (ws.map D.str)) = .ret (.bl (decide (x ∈ ws))) := by
  have z := nin_oks (wd_okk hx) fun y m => wd_okk (hw y m)
  unfold D.ninM at z
  unfold D.inM
  cases e : (D.str x).inb (.lst (ws.map D.str)) with
  | none =>
    rw [e] at z
    cases z
  | some b =>
    rw [e] at z
    injection z with z
    injection z with z
    show M.ret (D.bl b) = _
    congr 2
    cases b <;> cases hd : decide (x ∈ ws) <;> rw [hd] at z <;> first | rfl | cases z
theorem fin_rows {c : Cl} {b : Bool} {ds : List D} (h : ∀ d ∈ ds, okC d) (hl : ds.all crB = true → ds.length < 60) (hz : ∀ q : (Str × List Str) × Bool, rwG q ∈ ds → crB (rwG q) = true → q.1.2.length < 64) : ∃ v, FinR c (seqA b ds) v ∧ (ds.all crB = false → v = false) := by
  have m1 : M.map (fun d => m_is_carry_row c d) ds = .ret (ds.map fun d => .bl (crB d)) := map_ok fun d m => (e_crow_any (h d m)).1
  have nn : ∀ xs : List D, D.ne (.lst xs) (.lst []) = .ret (.bl (!xs.isEmpty)) := fun xs => by
    cases xs <;> rfl
  have d0 : D.eq (.int 1) (.int 0) = .ret (.bl false) := rfl
  have bad : M.cm (fun one => (M.not1 ((m_law_is_row c one).bind D.asB)).bind fun k => if k = true then M.ret (some one) else M.ret none) ds = .ret (ds.filter fun z => !crB z) := cm_bad fun d m => by
    simp only [(e_crow_any (h d m)).2, rb17, asB_bl, M.not1]
    cases crB d <;> rfl
  by_cases a : ds.all crB = true
  · have hl := hl a
    obtain ⟨R, rfl, hR⟩ := all_rwG a
    rw [List.length_map] at hl
    have hw : ∀ w ∈ R.map (fun q => q.1.1), Wd w := fun w m => by
      obtain ⟨q, mq, rfl⟩ := List.mem_map.mp m
      exact (hR q mq).1
    have m2 : M.map (fun y => D.un2 y fun rule rules => M.ret rule) (R.map rwG) = .ret ((R.map fun q => q.1.1).map D.str) := by
      rw [List.map_map]
      exact map_ret2 fun r m => rfl
    have m3 : M.map (fun one => D.ix one (.int 0)) (R.map rwG) = .ret ((R.map fun q => q.1.1).map D.str) := by
      rw [List.map_map]
      exact map_ret2 fun r m => rfl
    have ll := lenSet_any (zs := R.map fun q => q.1.1) (by rw [List.length_map]; omega)
    have la : D.lenA (seqA b (R.map rwG)) = .ret (.int R.length) := by
      cases b
      · show M.ret (D.int ((R.map rwG).length : Nat)) = _
        rw [List.length_map]
      · show M.ret (D.int ((R.map rwG).length : Nat)) = _
        rw [List.length_map]
    have ndk : (R.map fun q => q.1.1).Nodup ↔ (disS (R.map fun q => q.1.1)).length = R.length := by
      constructor
      · intro nd
        rw [Cy.disS_of nd, List.length_map]
      · intro e
        exact disS_nodup (by rw [e, List.length_map])
    refine ⟨decide (((disS (R.map fun q => q.1.1)).length : Int) = R.length), ⟨fun r => ?_, ?_, fun hv => ?_⟩, fun z => by rw [a] at z; cases z⟩
    · unfold m_law_wrong
      simp only [rb17, d0, asB_bl, Bool.false_eq_true, if_false, ix_two0, ix_two1, M.two, isi_blb, isiT_seq, M.or2, M.not1, Bool.not_true, items_seqA]
      simp only [M.not1] at bad
      rw [bad]
      simp only [rb17, lstM0, nn, bad_empty, a, Bool.not_true, asB_bl, Bool.false_eq_true, if_false, m3, M.one, dlen_lst, List.length_map]
      rw [rng1_ev (by omega) (by omega)]
      simp only [rb17]
      rw [show D.ints 0 ((R.length : Int)).toNat = (List.range R.length).map fun k : Nat => D.int k from by
        unfold D.ints
        rw [Int.toNat_natCast]
        exact List.map_congr_left fun k _ => by rw [Int.zero_add]]
      rw [cm_ret2 (g := fun k : Nat => D.int k) (f := fun k => if (R.map fun q => q.1.1).getD k Str.empty ∈ (R.map fun q => q.1.1).take k then some (D.int k) else none) ?hc]
      case hc =>
        intro k mk
        have hk : k < (R.map fun q => q.1.1).length := by
          rw [List.length_map]
          exact List.mem_range.mp mk
        have ge : (R.map fun q => q.1.1)[k]? = some ((R.map fun q => q.1.1).getD k Str.empty) := by
          rw [List.getD_eq_getElem?_getD, List.getElem?_eq_getElem hk]
          rfl
        have i0 : D.ix (.lst ((R.map fun q => q.1.1).map D.str)) (.int k) = .ret (.str ((R.map fun q => q.1.1).getD k Str.empty)) := ix_at (f := D.str) ge
        have wk : Wd ((R.map fun q => q.1.1).getD k Str.empty) := hw _ (List.mem_of_getElem? ge)
        have sl : D.sl (.lst ((R.map fun q => q.1.1).map D.str)) none (some (k : Int)) = .ret (.lst (((R.map fun q => q.1.1).take k).map D.str)) := by
          rw [sl_to, List.map_take]
        simp only [rb17, i0, asI_int, sl, in_strs wk fun y m => hw y (List.mem_of_mem_take m), asB_bl]
        by_cases z : (R.map fun q => q.1.1).getD k Str.empty ∈ (R.map fun q => q.1.1).take k
        · rw [decide_eq_true z, if_pos rfl, if_pos z]
        · rw [decide_eq_false z, if_neg Bool.false_ne_true, if_neg z]
      simp only [rb17, lstM0, nn, asB_bl]
      have e1 : (R.map fun q => q.1.1).Nodup ↔ ((List.range R.length).filterMap fun k => if (R.map fun q => q.1.1).getD k Str.empty ∈ (R.map fun q => q.1.1).take k then some (D.int k) else none) = [] := by
        rw [List.filterMap_eq_nil_iff]
        unfold List.Nodup
        rw [List.pairwise_iff_getElem]
        constructor
        · intro hh k mk
          have hk : k < (R.map fun q => q.1.1).length := by
            rw [List.length_map]
            exact List.mem_range.mp mk
          rw [if_neg]
          intro m
          rw [List.getD_eq_getElem?_getD, List.getElem?_eq_getElem hk] at m
          obtain ⟨i, hi, e⟩ := List.mem_iff_getElem.mp m
          rw [List.length_take] at hi
          rw [List.getElem_take] at e
          exact hh i k (by omega) hk (by omega) e
        · intro hh i k hi hk hik e
          have z := hh k (List.mem_range.mpr (by rw [List.length_map] at hk; exact hk))
          rw [if_pos] at z
          · cases z
          · rw [List.getD_eq_getElem?_getD, List.getElem?_eq_getElem hk]
            refine List.mem_iff_getElem.mpr ⟨i, by rw [List.length_take]; omega, ?_⟩
            rw [List.getElem_take]
            exact e
      by_cases nd : (R.map fun q => q.1.1).Nodup
      · rw [e1.mp nd, decide_eq_true (show ((disS (R.map fun q => q.1.1)).length : Int) = R.length by rw [ndk.mp nd])]
        rfl
      · have ne : ¬ ((disS (R.map fun q => q.1.1)).length : Int) = R.length := fun z => nd (ndk.mpr (by omega))
        rw [decide_eq_false ne]
        cases e2 : ((List.range R.length).filterMap fun k => if (R.map fun q => q.1.1).getD k Str.empty ∈ (R.map fun q => q.1.1).take k then some (D.int k) else none) with
        | nil => exact (nd (e1.mpr e2)).elim
        | cons _ _ => rfl
    · unfold m_are_carry_rows
      simp only [rb17, isiT_seq, asB_bl, M.or2, M.not1, Bool.not_true, Bool.false_eq_true, if_false, items_seqA, m1, M.one, all_map, a, m2, ll, la, deq_int]
    · have nd := ndk.mpr (by have := of_decide_eq_true hv; omega)
      refine ⟨b, R, rfl, ⟨fun r m => ?_, fun r m => ?_, fun r m => ?_, ?_, by rw [List.length_map]; exact hl⟩⟩
      · obtain ⟨q, mq, rfl⟩ := List.mem_map.mp m
        exact (hR q mq).1
      · obtain ⟨q, mq, rfl⟩ := List.mem_map.mp m
        exact (hR q mq).2
      · obtain ⟨q, mq, rfl⟩ := List.mem_map.mp m
        exact hz q (List.mem_map_of_mem mq) (List.all_eq_true.mp a _ (List.mem_map_of_mem mq))
      · rw [List.map_map]
        exact nd
  · have a : ds.all crB = false := by simpa using a
    refine ⟨false, ⟨fun r => ?_, ?_, fun z => nomatch z⟩, fun _ => rfl⟩
    · unfold m_law_wrong
      simp only [rb17, d0, asB_bl, Bool.false_eq_true, if_false, ix_two0, ix_two1, M.two, isi_blb, isiT_seq, M.or2, M.not1, Bool.not_true, items_seqA]
      simp only [M.not1] at bad
      rw [bad]
      simp only [rb17, lstM0, nn, bad_empty, a, Bool.not_false, asB_bl, if_true]
    · unfold m_are_carry_rows
      simp only [rb17, isiT_seq, asB_bl, M.or2, M.not1, Bool.not_true, Bool.false_eq_true, if_false, items_seqA, m1, M.one, all_map, a, Bool.not_false, if_true]
end K28
namespace K28
open PySem PySem.Spec PyProof.Rows L2 VB
variable {P : Program} {w : World} {K : PySem.W.Frag} {mg : Str → Option Value} {base : Heap} {a : Ad}
theorem rp60 {d : D} (h : Fit 200000 60 d) : D.reprM d = .ret (.str d.py.shown) := by
  obtain ⟨_, b, c, e⟩ := D.ft_ok h.ft
  have := PyData.shown_le 60 (by decide) _ e
  have := h.wt
  unfold D.reprM
  rw [if_pos]
  rw [b, c, decide_eq_true h.dp, decide_eq_true (show d.py.shown.length ≤ 16777216 by omega)]
  rfl
theorem sm_int (i : Int) : Sm (Str.ofString (toString i)) := fun c m => by
  rw [Str.ofString_eq_toList] at m
  have m : c ∈ ((toString i).toList.map Char.toNat) := by simpa using m
  obtain ⟨ch, mc, rfl⟩ := List.mem_map.mp m
  rcases int_sign i ch mc with h | rfl
  · have : ch.toNat ≤ 57 := by
      simp only [Char.isDigit, Bool.and_eq_true, decide_eq_true_eq] at h
      exact h.2
    omega
  · decide
theorem fit_itext {i : Int} (h : i.natAbs < 10 ^ 45) : Fit 60 0 (.str (Str.ofString (toString i))) := Fit.str (int_short h) (by decide) (sm_int i)
theorem fit_ddic : Fit 1 1 (.dic [] []) := ⟨rfl, Nat.zero_le _, by decide⟩
structure okE (d : D) : Prop where
  t : d.tyn.isSome = true
  e : d ≠ .etup
  n : ∀ x y, d ≠ .tup [x, y]
structure OdT (z : D) : Prop where
  t : z.tyn.isSome = true
  e : z ≠ .etup
  ft : Fit 90000 50 z
  k : seqB z = false ∨ ∃ b ds, z = seqA b ds ∧ ds ≠ [] ∧ ds.length ≤ 20000 ∧ ∀ d ∈ ds, okE d
theorem okE.s {d : D} (h : okE d) : okS d := ⟨h.t, h.e, fun x y z => (h.n x y z).elim⟩
theorem okE.c {d : D} (h : okE d) : okC d := ⟨h.t, h.e, fun x y z => (h.n x y z).elim⟩
theorem OdT.other {z : D} (t : z.tyn.isSome = true) (e : z ≠ .etup) (ft : Fit 90000 50 z) (k : seqB z = false) : OdT z := ⟨t, e, ft, .inl k⟩
theorem OdT.seq {b : Bool} {ds : List D} (h : ∀ d ∈ ds, okE d ∧ Fit 3 40 d) (n : ds ≠ []) (hl : ds.length ≤ 20000) : OdT (seqA b ds) := by
  refine ⟨by cases b <;> rfl, by cases b <;> exact (fun z => nomatch z), ?_, .inr ⟨b, ds, rfl, n, hl, fun d m => (h d m).1⟩⟩
  cases b with
  | true => exact (Fit.lst (fun d m => (h d m).2) hl).mono (by decide) (by decide)
  | false => exact (Fit.tup (fun d m => (h d m).2) hl (by decide)).mono (by decide) (by decide)
theorem OdT.isl {z : D} (h : OdT z) : ∃ l, D.isi z (.ty "list") = .ret (.bl l) := by
  have t := h.t
  cases z with
  | ty _ => cases t
  | raw _ => cases t
  | ins _ _ _ => cases t
  | dit _ _ => cases t
  | din _ _ _ _ => cases t
  | etup => exact (h.e rfl).elim
  | lst _ => exact ⟨true, rfl⟩
  | _ => exact ⟨false, rfl⟩
theorem OdT.fs {c : Cl} {z : D} (h : OdT z) : FinS c z false := by
  rcases h.k with k | ⟨b, ds, rfl, n, hl, hd⟩
  · exact fin_sother h.t h.e k
  · have a : ds.all spanB = false := by
      cases ds with
      | nil => exact (n rfl).elim
      | cons d ds =>
        rw [List.all_cons, spanB_no (hd d (List.mem_cons_self ..)).n]
        rfl
    have z := fin_spans (c := c) (b := b) (fun d m => (hd d m).s) (by omega)
    rw [a] at z
    exact z
theorem OdT.fr {c : Cl} {z : D} (h : OdT z) : FinR c z false := by
  rcases h.k with k | ⟨b, ds, rfl, n, hl, hd⟩
  · exact fin_rother h.t h.e k
  · have a : ds.all crB = false := by
      cases ds with
      | nil => exact (n rfl).elim
      | cons d ds =>
        rw [List.all_cons, crB_no (hd d (List.mem_cons_self ..)).n]
        rfl
    obtain ⟨v, f, hv⟩ := fin_rows (c := c) (b := b) (fun d m => (hd d m).c) (fun z => by rw [a] at z; cases z) (fun q m => by
      intro hq
      have z := hd _ m
      exact (z.n _ _ rfl).elim)
    rw [hv a] at f
    exact f
def nest : Nat → D
  | 0 => .lst [.non]
  | n + 1 => .lst [nest n]
theorem nest_ft : ∀ n, (nest n).ft = true
  | 0 => rfl
  | n + 1 => by
    show (D.ft (nest n) && true) = true
    rw [nest_ft n]
    rfl
theorem nest_dp : ∀ n, (nest n).py.depth ≤ n + 1
  | 0 => by decide
  | n + 1 => by
    show max (PyData.depth (nest n).py) 0 + 1 ≤ n + 2
    have := nest_dp n
    omega
theorem nest_wt : ∀ n, (nest n).py.weight ≤ n + 1
  | 0 => by decide
  | n + 1 => by
    show PyData.weight (nest n).py + 1 + 0 ≤ n + 2
    have := nest_wt n
    omega
theorem nest_fold : ∀ {ds : List D} {n : Nat}, M.fold (fun ys s => (D.lstM [s]).bind fun deep => M.ret deep) ds (nest n) = .ret (nest (n + ds.length))
  | [], n => rfl
  | d :: ds, n => by
    unfold M.fold
    rw [lstM1]
    simp only [rb17]
    have z := nest_fold (ds := ds) (n := n + 1)
    rw [show D.lst [nest n] = nest (n + 1) from rfl]
    refine z.trans ?_
    rw [List.length_cons, show n + 1 + ds.length = n + (ds.length + 1) by omega]
theorem nest_od : OdT (nest 29) := by
  refine ⟨rfl, (fun z => nomatch z), ⟨nest_ft 29, Nat.le_trans (nest_wt 29) (by decide), Nat.le_trans (nest_dp 29) (by decide)⟩, .inr ⟨true, [nest 28], rfl, (fun z => nomatch z), by show 1 ≤ 20000; decide, fun d m => ?_⟩⟩
  rw [List.mem_singleton.mp m]
  exact ⟨rfl, (fun z => nomatch z), fun _ _ z => nomatch z⟩
theorem mulN {n : Int} (h0 : 0 ≤ n) (h1 : n ≤ 100000) : D.mul (.lst [.non]) (.int n) = .ret (.lst (List.replicate n.toNat .non)) := by
  show (if 0 ≤ n ∧ n ≤ 100000 ∧ [D.non].length ≤ 100 then M.ret (D.lst (List.replicate n.toNat [D.non]).flatten) else .fail) = _
  rw [if_pos ⟨h0, h1, by show 1 ≤ 100; decide⟩]
  congr 2
  induction n.toNat with
  | zero => rfl
  | succ k ih =>
    rw [List.replicate_succ, List.replicate_succ, List.flatten_cons, ih]
    rfl
theorem many_od : OdT (.lst (List.replicate 9900 .non)) := by
  refine OdT.seq (b := true) (fun d m => ?_) (fun z => ?_) (by rw [List.length_replicate]; decide)
  · rw [(List.mem_replicate.mp m).2]
    exact ⟨⟨rfl, (fun z => nomatch z), fun _ _ z => nomatch z⟩, Fit.non.mono (by decide) (by decide)⟩
  · have := congrArg List.length z
    rw [List.length_replicate] at this
    cases this
theorem one_od {b : Bool} {x : D} (h : okE x) (ft : Fit 3 40 x) : OdT (seqA b [x]) := OdT.seq (fun d m => by
  rw [List.mem_singleton.mp m]
  exact ⟨h, ft⟩) (fun z => nomatch z) (by show 1 ≤ 20000; decide)
theorem two_od {b : Bool} {x y : D} (h : okE x) (ft : Fit 3 40 x) (h2 : okE y) (ft2 : Fit 3 40 y) : OdT (seqA b [x, y]) := OdT.seq (fun d m => by
  rcases List.mem_cons.mp m with rfl | m
  · exact ⟨h, ft⟩
  · rw [List.mem_singleton.mp m]
    exact ⟨h2, ft2⟩) (fun z => nomatch z) (by show 2 ≤ 20000; decide)
section
variable {a b c d e f g h i j k l m n o p q r s t : D}
theorem lst10 : D.lstM [a, b, c, d, e, f, g, h, i, j] = .ret (.lst [a, b, c, d, e, f, g, h, i, j]) := if_pos (by show 10 ≤ 16777216; decide)
theorem lst13 : D.lstM [a, b, c, d, e, f, g, h, i, j, k, l, m] = .ret (.lst [a, b, c, d, e, f, g, h, i, j, k, l, m]) := if_pos (by show 13 ≤ 16777216; decide)
theorem add13_3 : D.add (.lst [a, b, c, d, e, f, g, h, i, j, k, l, m]) (.lst [n, o, p]) = .ret (.lst [a, b, c, d, e, f, g, h, i, j, k, l, m, n, o, p]) := addL_ev (by show 13 + 3 ≤ 16777216; decide)
theorem add5_2 : D.add (.lst [a, b, c, d, e]) (.lst [n, o]) = .ret (.lst [a, b, c, d, e, n, o]) := addL_ev (by show 5 + 2 ≤ 16777216; decide)
theorem add7_2 : D.add (.lst [a, b, c, d, e, f, g]) (.lst [n, o]) = .ret (.lst [a, b, c, d, e, f, g, n, o]) := addL_ev (by show 7 + 2 ≤ 16777216; decide)
theorem add7_3 : D.add (.lst [a, b, c, d, e, f, g]) (.lst [n, o, p]) = .ret (.lst [a, b, c, d, e, f, g, n, o, p]) := addL_ev (by show 7 + 3 ≤ 16777216; decide)
theorem add9_3 : D.add (.lst [a, b, c, d, e, f, g, h, i]) (.lst [n, o, p]) = .ret (.lst [a, b, c, d, e, f, g, h, i, n, o, p]) := addL_ev (by show 9 + 3 ≤ 16777216; decide)
theorem add10_3 : D.add (.lst [a, b, c, d, e, f, g, h, i, j]) (.lst [n, o, p]) = .ret (.lst [a, b, c, d, e, f, g, h, i, j, n, o, p]) := addL_ev (by show 10 + 3 ≤ 16777216; decide)
theorem add12_2 : D.add (.lst [a, b, c, d, e, f, g, h, i, j, k, l]) (.lst [n, o]) = .ret (.lst [a, b, c, d, e, f, g, h, i, j, k, l, n, o]) := addL_ev (by show 12 + 2 ≤ 16777216; decide)
theorem add13_4 : D.add (.lst [a, b, c, d, e, f, g, h, i, j, k, l, m]) (.lst [n, o, p, q]) = .ret (.lst [a, b, c, d, e, f, g, h, i, j, k, l, m, n, o, p, q]) := addL_ev (by show 13 + 4 ≤ 16777216; decide)
end
theorem w_at {α : Type} {l : List D} {n : Int} {k : D → M α} {P : α → Prop} (hn : n = (l.length : Nat)) (h1 : 1 ≤ l.length) (h2 : l.length ≤ 1000) (h : ∀ d ∈ l, wp (k d) P) : wp ((D.takeM (.int n)).bind fun b => (D.ixA (.lst l) b).bind k) P := by
  subst hn
  refine wp_take (by omega) (by omega) fun t t0 t1 => ?_
  obtain ⟨x, mx, ex⟩ := atI_of (xs := l) t0 t1
  rw [show D.ixA (.lst l) (.int t) = D.ix (.lst l) (.int t) from rfl, ix_lst ex]
  exact h x mx
theorem w_at3 {l : List D} {n : Int} {P : D → Prop} (hn : n = (l.length : Nat)) (h1 : 1 ≤ l.length) (h2 : l.length ≤ 1000) (h : ∀ d ∈ l, P d) : wp ((D.takeM (.int n)).bind fun b => D.ixA (.lst l) b) P := by
  subst hn
  refine wp_take (by omega) (by omega) fun t t0 t1 => ?_
  obtain ⟨x, mx, ex⟩ := atI_of (xs := l) t0 t1
  rw [show D.ixA (.lst l) (.int t) = D.ix (.lst l) (.int t) from rfl, ix_lst ex]
  exact h x mx
theorem w_at4 {l : List D} {n : Int} {P : D → Prop} (hn : n = (l.length : Nat)) (h1 : 1 ≤ l.length) (h2 : l.length ≤ 1000) (h : ∀ d ∈ l, P d) : wp ((D.takeM (.int n)).bind fun b => D.ix (.lst l) b) P := by
  subst hn
  refine wp_take (by omega) (by omega) fun t t0 t1 => ?_
  obtain ⟨x, mx, ex⟩ := atI_of (xs := l) t0 t1
  rw [ix_lst ex]
  exact h x mx
theorem w_odd {P : D → Prop} (h : ∀ z, OdT z → P z) : wp m_law_odd P := by
  have dk : D.dispK [(D.str "a", D.tup [D.str "b"])] = .ret (.dic [.inr "a"] [.tup [.str "b"]]) := rfl
  unfold m_law_odd
  simp only [rb17, lstM1]
  rw [rng1_ev (by decide) (by decide)]
  have nf := nest_fold (ds := D.ints 0 (29 : Int).toNat) (n := 0)
  rw [ints_len] at nf
  simp only [lstM1, rb17] at nf
  simp only [rb17]
  rw [show D.lst [D.non] = nest 0 from rfl, nf]
  simp only [rb17, lstM0, lstM1, tupM0, tupM1, tupM2, lst13, lstM3, dk, (show D.mul (nest 0) (.int 9900) = _ from mulN (by decide) (by decide)), add13_3]
  refine w_at3 rfl (by show 1 ≤ 16; decide) (by show 16 ≤ 1000; decide) fun z m => h z ?_
  simp only [List.mem_cons, List.not_mem_nil, or_false] at m
  have fi : ∀ {i : Int}, i.natAbs < 4 → Fit 3 40 (.int i) := fun {i} hi => ⟨(Fit.int (i := i) (by omega)).ft, (show (if (i == 0) = true then 0 else i.natAbs.log2 + 1) ≤ 3 from by
    have : i.natAbs = 0 ∨ i.natAbs = 1 ∨ i.natAbs = 2 ∨ i.natAbs = 3 := by omega
    rcases this with z | z | z | z <;> rw [z] <;> split <;> decide), Nat.zero_le _⟩
  have fI : ∀ {i : Int}, i.natAbs < 10 ^ 45 → Fit 90000 50 (.int i) := fun {i} hi => (Fit.int hi).mono (by decide) (by decide)
  have oi : ∀ {i : Int}, okE (.int i) := fun {i} => ⟨rfl, (fun z => nomatch z), fun _ _ z => nomatch z⟩
  have os : ∀ {w : Str}, okE (.str w) := fun {i} => ⟨rfl, (fun z => nomatch z), fun _ _ z => nomatch z⟩
  have f5 : Fit 3 40 (.int 5) := ⟨rfl, by decide, Nat.zero_le _⟩
  have f4 : Fit 3 40 (.int 4) := ⟨rfl, by decide, Nat.zero_le _⟩
  have fs : ∀ {w : Str}, smB w = true → w.length ≤ 3 → Fit 3 40 (.str w) := fun {w} s l => (Fit.str (n := 3) l (by decide) (smB_iff.mp s).2).mono (by decide) (by decide)
  rcases m with rfl | rfl | rfl | rfl | rfl | rfl | rfl | rfl | rfl | rfl | rfl | rfl | rfl | rfl | rfl | rfl
  · exact .other rfl (fun z => nomatch z) (Fit.non.mono (by decide) (by decide)) rfl
  · exact .other rfl (fun z => nomatch z) (fI (by decide)) rfl
  · exact .other rfl (fun z => nomatch z) ((fs (w := "") (by decide) (by decide)).mono (by decide) (by decide)) rfl
  · exact .other rfl (fun z => nomatch z) ((fs (w := "ab") (by decide) (by decide)).mono (by decide) (by decide)) rfl
  · exact .other rfl (fun z => nomatch z) (fit_ddic.mono (by decide) (by decide)) rfl
  · exact .other rfl (fun z => nomatch z) (Fit.bl.mono (by decide) (by decide)) rfl
  · exact .other rfl (fun z => nomatch z) (fI (by decide)) rfl
  · exact one_od (b := true) ⟨rfl, (fun z => nomatch z), fun _ _ z => nomatch z⟩ ⟨rfl, Nat.zero_le _, by decide⟩
  · exact one_od (b := true) ⟨rfl, (fun z => nomatch z), fun _ _ z => nomatch z⟩ ⟨rfl, Nat.zero_le _, by decide⟩
  · exact one_od (b := false) ⟨rfl, (fun z => nomatch z), fun _ _ z => nomatch z⟩ ⟨rfl, Nat.zero_le _, by decide⟩
  · exact .other rfl (fun z => nomatch z) ⟨by decide, by decide, by decide⟩ rfl
  · exact nest_od
  · exact many_od
  · exact one_od (b := true) oi f5
  · exact two_od (b := false) oi (fi (by decide)) oi f4
  · exact two_od (b := false) os (fs (by decide) (by decide)) os (fs (by decide) (by decide))
end K28
namespace K28
open PySem PySem.Spec PyProof.Rows L2 VB
variable {P : Program} {w : World} {K : PySem.W.Frag} {mg : Str → Option Value} {base : Heap} {a : Ad}
structure Sp28 (d : D) : Prop where
  ok : okS d
  ft : Fit 2000 3 d
theorem okS_no {d : D} (t : d.tyn.isSome = true) (e : d ≠ .etup) (n : ∀ x y, d ≠ .tup [x, y]) : okS d := ⟨t, e, fun x y z => (n x y z).elim⟩
theorem okS_two {x y : D} (hx : x.tyn.isSome = true) (hy : y.tyn.isSome = true) : okS (.tup [x, y]) := ⟨rfl, (fun z => nomatch z), fun a b e => by
  injection e with e
  injection e with e1 e2
  injection e2 with e2
  subst e1 e2
  exact ⟨hx, hy⟩⟩
theorem fit2 {x y : D} (hx : Fit 300 1 x) (hy : Fit 300 1 y) : Fit 2000 3 (.tup [x, y]) := (Fit.tup (ds := [x, y]) (w := 300) (k := 1) (l := 2) (fun e m => by
  rcases List.mem_cons.mp m with rfl | m
  · exact hx
  · rw [List.mem_singleton.mp m]
    exact hy) (Nat.le_refl 2) (by decide)).mono (by decide) (by decide)
theorem sp_two {x y : D} (hx : x.tyn.isSome = true) (hy : y.tyn.isSome = true) (fx : Fit 300 1 x) (fy : Fit 300 1 y) : Sp28 (.tup [x, y]) := ⟨okS_two hx hy, fit2 fx fy⟩
theorem fit_i {i : Int} (h : i.natAbs < 10 ^ 45) : Fit 300 1 (.int i) := (Fit.int h).mono (by decide) (by decide)
theorem dp_lt {i : Int} (h0 : 0 ≤ i) (h1 : i ≤ 1000000000) : i.natAbs < 10 ^ 45 := by omega
theorem sp_pD {p : Int × Int} (h : Dy.DP p) : Sp28 (pD p) := sp_two rfl rfl (fit_i (dp_lt h.1.1 h.1.2)) (fit_i (dp_lt h.2.1 h.2.2))
theorem w_odd_span {p : Int × Int} {P : D → Prop} (hp : Dy.DP p) (h : ∀ d, Sp28 d → P d) : wp (m_law_odd_span (pD p)) P := by
  obtain ⟨i, j⟩ := p
  have i0 : 0 ≤ i := hp.1.1
  have i1 : i ≤ 1000000000 := hp.1.2
  have j0 : 0 ≤ j := hp.2.1
  have j1 : j ≤ 1000000000 := hp.2.2
  have un : ∀ k : D → D → M D, D.un2 (pD (i, j)) k = k (.int i) (.int j) := fun _ => rfl
  have p9 : D.pow (.int 10) (.int 9) = .ret (.int 1000000000) := rfl
  have p30 : D.pow (.int 10) (.int 30) = .ret (.int 1000000000000000000000000000000) := rfl
  have sb : ∀ a b : Int, D.sub (.int a) (.int b) = .ret (.int (a - b)) := fun _ _ => rfl
  have st : D.strI (.int i) = .ret (.str (Str.ofString (toString i))) := if_pos (Nat.lt_trans (nat_log (dp_lt i0 i1)) (by decide))
  unfold m_law_odd_span
  simp only [rb17, un, M.one, p9, p30, sb, st, dadd_int, tupM1, tupM2, tupM3, lstM2, lstM3, lstM4, lstM5, add5_2, add7_3, add10_3, add13_4]
  refine w_at4 rfl (by show 1 ≤ 17; decide) (by show 17 ≤ 1000; decide) fun d m => h d ?_
  simp only [List.mem_cons, List.not_mem_nil, or_false] at m
  have fI := fit_i (dp_lt i0 i1)
  have fJ := fit_i (dp_lt j0 j1)
  have fk : ∀ {z : Int}, z.natAbs < 10 ^ 40 → Fit 300 1 (.int z) := fun {z} hz => fit_i (Nat.lt_trans hz (by decide))
  have fb : ∀ {b : Bool}, Fit 300 1 (.bl b) := Fit.bl.mono (by decide) (by decide)
  have fn : Fit 300 1 .non := Fit.non.mono (by decide) (by decide)
  rcases m with rfl | rfl | rfl | rfl | rfl | rfl | rfl | rfl | rfl | rfl | rfl | rfl | rfl | rfl | rfl | rfl | rfl
  · refine ⟨okS_no rfl (fun z => nomatch z) (fun _ _ z => nomatch z), (Fit.lst (ds := [D.int i, D.int j]) (w := 300) (k := 1) (l := 2) (fun e m => ?_) (Nat.le_refl 2)).mono (by decide) (by decide)⟩
    rcases List.mem_cons.mp m with rfl | m
    · exact fI
    · rw [List.mem_singleton.mp m]
      exact fJ
  · refine ⟨okS_no rfl (fun z => nomatch z) (fun _ _ z => nomatch z), (Fit.tup (ds := [D.int i]) (w := 300) (k := 1) (l := 1) (fun e m => ?_) (Nat.le_refl 1) (by decide)).mono (by decide) (by decide)⟩
    rw [List.mem_singleton.mp m]
    exact fI
  · refine ⟨okS_no rfl (fun z => nomatch z) (fun _ _ z => nomatch z), (Fit.tup (ds := [D.int i, D.int j, D.int j]) (w := 300) (k := 1) (l := 3) (fun e m => ?_) (Nat.le_refl 3) (by decide)).mono (by decide) (by decide)⟩
    rcases List.mem_cons.mp m with rfl | m
    · exact fI
    · rcases List.mem_cons.mp m with rfl | m
      · exact fJ
      · rw [List.mem_singleton.mp m]
        exact fJ
  · exact sp_two rfl rfl (fk (by decide)) fJ
  · exact sp_two rfl rfl fI (fk (by decide))
  · exact sp_two rfl rfl fb fJ
  · exact sp_two rfl rfl fI fb
  · exact sp_two rfl rfl ((fit_itext (dp_lt i0 i1)).mono (by decide) (by decide)) fJ
  · exact sp_two rfl rfl fI fn
  · exact ⟨okS_no rfl (fun z => nomatch z) (fun _ _ z => nomatch z), Fit.non.mono (by decide) (by decide)⟩
  · exact ⟨okS_no rfl (fun z => nomatch z) (fun _ _ z => nomatch z), fI.mono (by decide) (by decide)⟩
  · exact ⟨okS_no rfl (fun z => nomatch z) (fun _ _ z => nomatch z), fit_ddic.mono (by decide) (by decide)⟩
  · exact sp_two rfl rfl (fk (by omega)) fJ
  · exact sp_two rfl rfl fI (fk (by decide))
  · exact sp_pD hp
  · exact sp_two rfl rfl (fk (by decide)) fJ
  · exact sp_two rfl rfl fI (fk (by decide))
structure Rr28 (d : D) : Prop where
  ok : okC d
  ft : Fit 6000 4 d
  g : crB d = true → ∀ q, d = rwG q → q.1.2.length ≤ 3
theorem rr_bad {d : D} (ok : okC d) (ft : Fit 6000 4 d) (h : crB d = false) : Rr28 d := ⟨ok, ft, fun z => by rw [h] at z; cases z⟩
theorem okC_no {d : D} (t : d.tyn.isSome = true) (e : d ≠ .etup) (n : ∀ x y, d ≠ .tup [x, y]) : okC d := ⟨t, e, fun x y z => (n x y z).elim⟩
theorem okC_two {x y : D} (hx : okW x) (hy : okQ y) : okC (.tup [x, y]) := ⟨rfl, (fun z => nomatch z), fun a b e => by
  injection e with e
  injection e with e1 e2
  injection e2 with e2
  subst e1 e2
  exact ⟨hx, hy⟩⟩
theorem okW_wd {w : Str} (h : Wd w) : okW (.str w) := ⟨rfl, fun v e => by
  injection e with e
  subst e
  have := h.2.1
  omega⟩
theorem okW_no {d : D} (t : d.tyn.isSome = true) (n : ∀ w, d ≠ .str w) : okW d := ⟨t, fun w e => (n w e).elim⟩
theorem okQ_no {y : D} (t : y.tyn.isSome = true) (e : y ≠ .etup) (n : seqB y = false) : okQ y := ⟨t, e, fun b zs z => by
  subst z
  cases b <;> cases n⟩
theorem seqA_inj {b c : Bool} {xs ys : List D} (h : seqA b xs = seqA c ys) : xs = ys := by
  cases b <;> cases c
  · injection h
  · exact (nomatch h)
  · exact (nomatch h)
  · injection h
theorem okQ_seq {b : Bool} {zs : List D} (h : ∀ z ∈ zs, okW z) : okQ (seqA b zs) := ⟨by cases b <;> rfl, by cases b <;> exact (fun z => nomatch z), fun c ys e => by
  rw [← seqA_inj e]
  exact h⟩
theorem fit_ws {b : Bool} {zs : List D} (h : ∀ z ∈ zs, Fit 200 2 z) (hl : zs.length ≤ 5) : Fit 1500 3 (seqA b zs) := by
  cases b with
  | true => exact (Fit.lst h hl).mono (by decide) (by decide)
  | false => exact (Fit.tup h hl (by decide)).mono (by decide) (by decide)
theorem fitT2 {x y : D} (hx : Fit 1500 3 x) (hy : Fit 1500 3 y) : Fit 6000 4 (.tup [x, y]) := (Fit.tup (ds := [x, y]) (w := 1500) (k := 3) (l := 2) (fun e m => by
  rcases List.mem_cons.mp m with rfl | m
  · exact hx
  · rw [List.mem_singleton.mp m]
    exact hy) (Nat.le_refl 2) (by decide)).mono (by decide) (by decide)
theorem rwG_inj {q r : (Str × List Str) × Bool} (h : rwG q = rwG r) : q.1 = r.1 := by
  unfold rwG at h
  injection h with h
  injection h with h1 h2
  injection h1 with h1
  injection h2 with h2 _
  have h3 := seqA_inj h2
  exact Prod.ext h1 ((List.map_inj_right fun x y e => by injection e).mp h3)
theorem rr_good {q : (Str × List Str) × Bool} (hw : Wd q.1.1) (hs : ∀ x ∈ q.1.2, Wd x) (hl : q.1.2.length ≤ 3) : Rr28 (rwG q) := by
  refine ⟨okC_two (okW_wd hw) (okQ_seq fun z m => ?_), fitT2 ((Fit.wd hw).mono (by decide) (by decide)) (fit_ws (fun z m => ?_) (by rw [List.length_map]; omega)), fun _ r e => ?_⟩
  · obtain ⟨w, mw, rfl⟩ := List.mem_map.mp m
    exact okW_wd (hs w mw)
  · obtain ⟨w, mw, rfl⟩ := List.mem_map.mp m
    exact (Fit.wd (hs w mw)).mono (by decide) (by decide)
  · rw [← rwG_inj e]
    exact hl
/-- a part that is no word -/
structure Odd28 (z : D) : Prop where
  ok : okW z
  no : wordB z = false
  ft : Fit 200 2 z
theorem odds : ∀ z ∈ [D.str "", D.str "A", D.str "a1", D.str "abcdefghi", D.non, D.int 5, D.tup [D.str "a"], D.str "a b", D.bl true, D.lst []], Odd28 z := by
  have st : ∀ w : Str, smB w = true → wordB (.str w) = false → w.length ≤ 100 → Odd28 (.str w) := fun w h n l => ⟨⟨rfl, fun v e => by injection e with e; subst e; omega⟩, n, (Fit.str (n := 100) l (by decide) (smB_iff.mp h).2).mono (by decide) (by decide)⟩
  intro z m
  simp only [List.mem_cons, List.not_mem_nil, or_false] at m
  rcases m with rfl | rfl | rfl | rfl | rfl | rfl | rfl | rfl | rfl | rfl
  · exact st _ (by decide) (by decide) (by decide)
  · exact st _ (by decide) (by decide) (by decide)
  · exact st _ (by decide) (by decide) (by decide)
  · exact st _ (by decide) (by decide) (by decide)
  · exact ⟨⟨rfl, fun v e => nomatch e⟩, rfl, Fit.non.mono (by decide) (by decide)⟩
  · exact ⟨⟨rfl, fun v e => nomatch e⟩, rfl, (Fit.int (i := 5) (by decide)).mono (by decide) (by decide)⟩
  · refine ⟨⟨rfl, fun v e => nomatch e⟩, rfl, (Fit.tup (w := 150) (k := 0) (l := 1) (fun e m => ?_) (by decide) (by decide)).mono (by decide) (by decide)⟩
    rw [List.mem_singleton.mp m]
    exact (Fit.str (n := 100) (z := "a") (by decide) (by decide) (smB_iff.mp (by decide)).2).mono (by decide) (by decide)
  · exact st _ (by decide) (by decide) (by decide)
  · exact ⟨⟨rfl, fun v e => nomatch e⟩, rfl, Fit.bl.mono (by decide) (by decide)⟩
  · exact ⟨⟨rfl, fun v e => nomatch e⟩, rfl, ⟨rfl, Nat.zero_le _, by decide⟩⟩
theorem kv_fit {w k : Nat} : ∀ {kvs : List (PyData × PyData)}, (∀ p ∈ kvs, ∃ x y : D, p = (x.py, y.py) ∧ Fit w k x ∧ Fit w k y) → PyData.weightKv kvs ≤ kvs.length * (2 * w + 2) ∧ PyData.depthKv kvs ≤ k
  | [], _ => ⟨Nat.zero_le _, Nat.zero_le _⟩
  | p :: kvs, h => by
    obtain ⟨x, y, rfl, fx, fy⟩ := h p (List.mem_cons_self ..)
    obtain ⟨i3, i4⟩ := kv_fit (kvs := kvs) fun q m => h q (List.mem_cons_of_mem _ m)
    refine ⟨?_, ?_⟩
    · show PyData.weight x.py + PyData.weight y.py + 2 + PyData.weightKv kvs ≤ (kvs.length + 1) * (2 * w + 2)
      have := fx.wt
      have := fy.wt
      rw [Nat.succ_mul]
      omega
    · show max (max (PyData.depth x.py) (PyData.depth y.py)) (PyData.depthKv kvs) ≤ k
      have := fx.dp
      have := fy.dp
      omega
theorem pyA_mem : ∀ {ds : List D} {e : PyData}, e ∈ D.pyA ds → ∃ d ∈ ds, e = d.py
  | d :: ds, e, m => by
    rcases List.mem_cons.mp (show e ∈ D.py d :: D.pyA ds from m) with rfl | m
    · exact ⟨d, List.mem_cons_self .., rfl⟩
    · obtain ⟨x, mx, ex⟩ := pyA_mem m
      exact ⟨x, List.mem_cons_of_mem _ mx, ex⟩
theorem putDs_mem {ks : List Key} {k : Key} {x : D} {d : D} : ∀ {ds : List D}, d ∈ putDs ks ds k x → d ∈ ds ∨ d = x := fun {ds} m => by
  unfold putDs at m
  split at m
  · rename_i hh
    clear hh
    induction ks generalizing ds with
    | nil => exact (nomatch m)
    | cons j ks ih =>
      cases ds with
      | nil => exact (nomatch m)
      | cons y ds =>
        rw [List.zipWith_cons_cons] at m
        rcases List.mem_cons.mp m with rfl | m
        · split
          · exact .inr rfl
          · exact .inl (List.mem_cons_self ..)
        · rcases ih m with z | z
          · exact .inl (List.mem_cons_of_mem _ z)
          · exact .inr z
  · rcases List.mem_append.mp m with m | m
    · exact .inl m
    · exact .inr (List.mem_singleton.mp m)
theorem merge_any : ∀ {rs : List (Key × D)} {ks : List Key} {ds : List D}, ∃ ks' ds', mergeDK ks ds rs = .dic ks' ds' ∧ (∀ k ∈ ks', k ∈ ks ∨ ∃ r ∈ rs, k = r.1) ∧ (∀ d ∈ ds', d ∈ ds ∨ ∃ r ∈ rs, d = r.2) ∧ ks'.length ≤ ks.length + rs.length
  | [], ks, ds => ⟨ks, ds, rfl, fun _ m => .inl m, fun _ m => .inl m, Nat.le_refl _⟩
  | r :: rs, ks, ds => by
    obtain ⟨ks', ds', e, h1, h2, h3⟩ := merge_any (rs := rs) (ks := putKs ks r.1) (ds := putDs ks ds r.1 r.2)
    refine ⟨ks', ds', e, fun k m => ?_, fun d m => ?_, ?_⟩
    · rcases h1 k m with m | ⟨q, mq, e⟩
      · unfold putKs at m
        split at m
        · exact .inl m
        · rcases List.mem_append.mp m with m | m
          · exact .inl m
          · exact .inr ⟨r, List.mem_cons_self .., List.mem_singleton.mp m⟩
      · exact .inr ⟨q, List.mem_cons_of_mem _ mq, e⟩
    · rcases h2 d m with m | ⟨q, mq, e⟩
      · rcases putDs_mem m with m | e
        · exact .inl m
        · exact .inr ⟨r, List.mem_cons_self .., e⟩
      · exact .inr ⟨q, List.mem_cons_of_mem _ mq, e⟩
    · have : (putKs ks r.1).length ≤ ks.length + 1 := by
        unfold putKs
        split
        · omega
        · rw [List.length_append, List.length_singleton]
          omega
      rw [List.length_cons]
      omega
theorem ftA_of : ∀ {ds : List D}, (∀ d ∈ ds, d.ft = true) → D.ftA ds = true
  | [], _ => rfl
  | d :: ds, h => by
    show (D.ft d && D.ftA ds) = true
    rw [h d (List.mem_cons_self ..), ftA_of fun x m => h x (List.mem_cons_of_mem _ m)]
    rfl
theorem dict_fit {w k n : Nat} {rs : List (Key × D)} (h : ∀ r ∈ rs, ∃ x : D, kD r.1 = x.py ∧ kft r.1 = true ∧ Fit w k x ∧ Fit w k r.2) (hl : rs.length ≤ n) : ∃ ks ds, mergeDK [] [] rs = .dic ks ds ∧ Fit (n * (2 * w + 2)) (k + 1) (.dic ks ds) := by
  obtain ⟨ks, ds, e, h1, h2, h3⟩ := merge_any (rs := rs) (ks := []) (ds := [])
  have hk : ∀ j ∈ ks, ∃ r ∈ rs, j = r.1 := fun j m => (h1 j m).resolve_left fun z => nomatch z
  have hd : ∀ d ∈ ds, ∃ r ∈ rs, d = r.2 := fun d m => (h2 d m).resolve_left fun z => nomatch z
  obtain ⟨g3, g4⟩ := kv_fit (w := w) (k := k) (kvs := (ks.map kD).zip (D.pyA ds)) fun p m => by
    obtain ⟨m1, m2⟩ := List.of_mem_zip (show (p.1, p.2) ∈ _ from m)
    obtain ⟨j, mj, ej⟩ := List.mem_map.mp m1
    obtain ⟨d, md, ed⟩ := pyA_mem m2
    obtain ⟨r, mr, rfl⟩ := hk j mj
    obtain ⟨r', mr', rfl⟩ := hd d md
    obtain ⟨x, e1, _, fx, _⟩ := h r mr
    obtain ⟨_, _, _, _, fy⟩ := h r' mr'
    exact ⟨x, r'.2, Prod.ext (by rw [← ej, e1]) ed, fx, fy⟩
  have len : ((ks.map kD).zip (D.pyA ds)).length ≤ n := by
    rw [List.length_zip, List.length_map]
    rw [List.length_nil] at h3
    omega
  refine ⟨ks, ds, e, ?_, Nat.le_trans g3 (Nat.mul_le_mul_right _ len), Nat.succ_le_succ g4⟩
  show (ks.all kft && D.ftA ds) = true
  rw [ftA_of fun d m => by
    obtain ⟨r, mr, rfl⟩ := hd d m
    obtain ⟨_, _, _, _, f⟩ := h r mr
    exact f.ft, List.all_eq_true.mpr fun j m => by
    obtain ⟨r, mr, rfl⟩ := hk j m
    obtain ⟨_, _, f, _, _⟩ := h r mr
    exact f]
  rfl
theorem enumF_mem {α : Type} : ∀ {i : Nat} {xs : List α} {r : Key × α}, r ∈ enumF i xs → (∃ j : Nat, r.1 = .inl (j : Int) ∧ j < i + xs.length) ∧ r.2 ∈ xs
  | i, x :: xs, r, m => by
    rcases List.mem_cons.mp (show r ∈ (.inl (i : Int), x) :: enumF (i + 1) xs from m) with rfl | m
    · exact ⟨⟨i, rfl, by rw [List.length_cons]; omega⟩, List.mem_cons_self ..⟩
    · obtain ⟨⟨j, e, hj⟩, h⟩ := enumF_mem m
      exact ⟨⟨j, e, by rw [List.length_cons]; omega⟩, List.mem_cons_of_mem _ h⟩
theorem enum_od {ds : List D} (h : ∀ d ∈ ds, Fit 6000 4 d) (hl : ds.length ≤ 7) : ∃ z, D.dictEn (.lst ds) = .ret z ∧ OdT z := by
  obtain ⟨ks, es, e, f⟩ := dict_fit (w := 6000) (k := 4) (n := 7) (rs := enumF 0 ds) (fun r m => by
    obtain ⟨⟨j, ej, hj⟩, m2⟩ := enumF_mem m
    rw [ej]
    have hn : ((j : Int)).natAbs < 10 ^ 45 := by omega
    exact ⟨.int j, rfl, decide_eq_true hn, (Fit.int hn).mono (by decide) (by decide), h _ m2⟩) (by rw [enumF_len]; exact hl)
  exact ⟨.dic ks es, congrArg M.ret e, .other rfl (fun z => nomatch z) (f.mono (by decide) (by decide)) rfl⟩
end K28
namespace K28
open PySem PySem.Spec PyProof.Rows L2 VB
variable {P : Program} {w : World} {K : PySem.W.Frag} {mg : Str → Option Value} {base : Heap} {a : Ad}
theorem rowsK_ws : ∀ l : List Str, rowsK (l.map fun w => D.tup [.str w, .int 1]) = some (l.map fun w => ((.inr w : Key), D.int 1))
  | [] => rfl
  | w :: l => by
    show (match (D.str w).keyK, rowsK (l.map fun w => D.tup [.str w, .int 1]) with | some k, some rs => some ((k, D.int 1) :: rs) | _, _ => none) = _
    rw [rowsK_ws l]
    rfl
theorem w_odd_row {q : (Str × List Str) × Bool} {P : D → Prop} (hw : Wd q.1.1) (hs : ∀ x ∈ q.1.2, Wd x) (hl : q.1.2.length ≤ 3) (h : ∀ d, Rr28 d → P d) : wp (m_law_odd_row (rwG q)) P := by
  obtain ⟨⟨w, l⟩, b⟩ := q
  have hw : Wd w := hw
  have hs : ∀ x ∈ l, Wd x := hs
  have hl : l.length ≤ 3 := hl
  have i0 : D.ixA (rwG ((w, l), b)) (.int 0) = .ret (.str w) := rfl
  have i1 : D.ixA (rwG ((w, l), b)) (.int 1) = .ret (seqA b (l.map D.str)) := rfl
  have tl : D.toLstA (seqA b (l.map D.str)) = .ret (.lst (l.map D.str)) := by cases b <;> rfl
  have lenA : D.lenA (.lst (l.map D.str)) = .ret (.int l.length) := by
    show M.ret (D.int ((l.map D.str).length : Nat)) = _
    rw [List.length_map]
  have tt : D.toTup (.lst (l.map D.str)) = .ret (.tup (l.map D.str)) := rfl
  obtain ⟨ks, es, ed, fd⟩ := dict_fit (w := 150) (k := 0) (n := 3) (rs := l.map fun w => ((.inr w : Key), D.int 1)) (fun r m => by
    obtain ⟨v, mv, rfl⟩ := List.mem_map.mp m
    have fv := Fit.wd (hs v mv)
    exact ⟨.str v, rfl, fv.ft, fv, Fit.int (by decide)⟩) (by rw [List.length_map]; exact hl)
  have dk : D.dictA (.lst (l.map fun w => D.tup [.str w, .int 1])) = .ret (.dic ks es) := by
    show (match rowsK (l.map fun w => D.tup [.str w, .int 1]) with | some rs => M.ret (mergeDK [] [] rs) | none => .fail) = _
    rw [rowsK_ws]
    exact congrArg M.ret ed
  have mm : M.map (fun one => M.ret (D.tup [one, .int 1])) (l.map D.str) = .ret (l.map fun w => D.tup [.str w, .int 1]) := map_ret2 fun w _ => rfl
  unfold m_law_odd_row
  simp only [rb17, i0, i1, M.one, tl, lenA, dadd_int, tupM1, lstM0, lst10, M.assoc]
  refine w_at rfl (by decide) (by decide) fun z mz => ?_
  have oz := odds z mz
  refine wp_take (by omega) (by omega) fun t t0 t1 => ?_
  obtain ⟨k, rfl⟩ := Int.eq_ofNat_of_zero_le t0
  have s1 : D.sl (.lst (l.map D.str)) none (some (k : Int)) = .ret (.lst ((l.take k).map D.str)) := by
    show M.ret (D.lst (cutG (l.map D.str) none (some (k : Int)))) = _
    rw [cutG_lo, List.map_take]
  have s2 : D.sl (.lst (l.map D.str)) (some (k : Int)) none = .ret (.lst ((l.drop k).map D.str)) := by
    show M.ret (D.lst (cutG (l.map D.str) (some (k : Int)) none)) = _
    rw [cutG_hi, List.map_drop]
  have a1 : D.add (.lst ((l.take k).map D.str)) (.lst [z]) = .ret (.lst ((l.take k).map D.str ++ [z])) := addL_ev (by
    rw [List.length_map, List.length_take, List.length_singleton]
    omega)
  have a2 : D.add (.lst ((l.take k).map D.str ++ [z])) (.lst ((l.drop k).map D.str)) = .ret (.lst ((l.take k).map D.str ++ [z] ++ (l.drop k).map D.str)) := addL_ev (by
    rw [List.length_append, List.length_map, List.length_map, List.length_take, List.length_drop, List.length_singleton]
    omega)
  simp only [rb17, asI_int, D.items, mm, dk, tt, s1, s2, a1, a2, tupM1, tupM2, tupM3, lstM1, lstM2, lstM3, lstM5, add5_2, add7_2, add9_3, add12_2]
  refine w_at3 rfl (by show 1 ≤ 14; decide) (by show 14 ≤ 1000; decide) fun d md => h d ?_
  have oW : ∀ x ∈ l.map D.str, okW x := fun x m => by
    obtain ⟨v, mv, rfl⟩ := List.mem_map.mp m
    exact okW_wd (hs v mv)
  have fW : ∀ x ∈ l.map D.str, Fit 200 2 x := fun x m => by
    obtain ⟨v, mv, rfl⟩ := List.mem_map.mp m
    exact (Fit.wd (hs v mv)).mono (by decide) (by decide)
  have each : ∀ x ∈ (l.take k).map D.str ++ [z] ++ (l.drop k).map D.str, okW x ∧ Fit 200 2 x := fun x m => by
    rcases List.mem_append.mp m with m | m
    · rcases List.mem_append.mp m with m | m
      · obtain ⟨v, mv, rfl⟩ := List.mem_map.mp m
        exact ⟨okW_wd (hs v (List.mem_of_mem_take mv)), (Fit.wd (hs v (List.mem_of_mem_take mv))).mono (by decide) (by decide)⟩
      · rw [List.mem_singleton.mp m]
        exact ⟨oz.ok, oz.ft⟩
    · obtain ⟨v, mv, rfl⟩ := List.mem_map.mp m
      exact ⟨okW_wd (hs v (List.mem_of_mem_drop mv)), (Fit.wd (hs v (List.mem_of_mem_drop mv))).mono (by decide) (by decide)⟩
  have eL : ((l.take k).map D.str ++ [z] ++ (l.drop k).map D.str).length ≤ 5 := by
    rw [List.length_append, List.length_append, List.length_map, List.length_map, List.length_take, List.length_drop, List.length_singleton]
    omega
  have lL : (l.map D.str).length ≤ 5 := by rw [List.length_map]; omega
  have fw : Fit 1500 3 (.str w) := (Fit.wd hw).mono (by decide) (by decide)
  have fl : Fit 1500 3 (.lst (l.map D.str)) := fit_ws (b := true) fW lL
  have ql : okQ (.lst (l.map D.str)) := okQ_seq (b := true) oW
  simp only [List.mem_cons, List.not_mem_nil, or_false] at md
  rcases md with rfl | rfl | rfl | rfl | rfl | rfl | rfl | rfl | rfl | rfl | rfl | rfl | rfl | rfl
  · refine rr_bad (okC_no rfl (fun z => nomatch z) fun _ _ z => nomatch z) ((Fit.lst (ds := [D.str w, D.lst (l.map D.str)]) (w := 1500) (k := 3) (l := 2) (fun e m => ?_) (Nat.le_refl 2)).mono (by decide) (by decide)) rfl
    rcases List.mem_cons.mp m with rfl | m
    · exact fw
    · rw [List.mem_singleton.mp m]
      exact fl
  · refine rr_bad (okC_no rfl (fun z => nomatch z) fun _ _ z => nomatch z) ((Fit.tup (ds := [D.str w]) (w := 1500) (k := 3) (l := 1) (fun e m => ?_) (Nat.le_refl 1) (by decide)).mono (by decide) (by decide)) rfl
    rw [List.mem_singleton.mp m]
    exact fw
  · refine rr_bad (okC_no rfl (fun z => nomatch z) fun _ _ z => nomatch z) ((Fit.tup (ds := [D.str w, D.lst (l.map D.str), D.lst (l.map D.str)]) (w := 1500) (k := 3) (l := 3) (fun e m => ?_) (Nat.le_refl 3) (by decide)).mono (by decide) (by decide)) rfl
    rcases List.mem_cons.mp m with rfl | m
    · exact fw
    · rcases List.mem_cons.mp m with rfl | m
      · exact fl
      · rw [List.mem_singleton.mp m]
        exact fl
  · exact rr_bad (okC_two (okW_no rfl fun _ z => nomatch z) (okQ_no rfl (fun z => nomatch z) rfl)) (fitT2 fl fw) rfl
  · refine rr_bad (okC_two oz.ok ql) (fitT2 (oz.ft.mono (by decide) (by decide)) fl) ?_
    show (wordB z && wordsB (.lst (l.map D.str))) = false
    rw [oz.no]
    rfl
  · refine rr_bad (okC_two (okW_wd hw) (okQ_seq (b := true) fun x m => (each x m).1)) (fitT2 fw (fit_ws (b := true) (fun x m => (each x m).2) eL)) ?_
    have nb : List.all ((l.take k).map D.str ++ [z] ++ (l.drop k).map D.str) wordB = false := Bool.eq_false_iff.mpr fun hh => by
      have := List.all_eq_true.mp hh z (List.mem_append_left _ (List.mem_append_right _ (List.mem_singleton_self z)))
      rw [oz.no] at this
      cases this
    show (wordB (.str w) && List.all ((l.take k).map D.str ++ [z] ++ (l.drop k).map D.str) wordB) = false
    rw [nb, Bool.and_false]
  · exact rr_bad (okC_two (okW_wd hw) (okQ_no rfl (fun z => nomatch z) rfl)) (fitT2 fw ((Fit.str (z := "ab") (n := 2) (by decide) (by decide) (smB_iff.mp (by decide)).2).mono (by decide) (by decide))) (Bool.and_false _)
  · exact rr_bad (okC_two (okW_wd hw) (okQ_no rfl (fun z => nomatch z) rfl)) (fitT2 fw (fit_ddic.mono (by decide) (by decide))) (Bool.and_false _)
  · exact rr_bad (okC_two (okW_wd hw) (okQ_no rfl (fun z => nomatch z) rfl)) (fitT2 fw (Fit.non.mono (by decide) (by decide))) (Bool.and_false _)
  · exact rr_bad (okC_two (okW_wd hw) (okQ_no rfl (fun z => nomatch z) rfl)) (fitT2 fw (fd.mono (by decide) (by decide))) (Bool.and_false _)
  · exact rr_bad (okC_no rfl (fun z => nomatch z) fun _ _ z => nomatch z) (fw.mono (by decide) (by decide)) rfl
  · exact rr_bad (okC_no rfl (fun z => nomatch z) fun _ _ z => nomatch z) (Fit.non.mono (by decide) (by decide)) rfl
  · exact rr_good (q := ((w, l), false)) hw hs hl
  · exact rr_good (q := ((w, l), b)) hw hs hl
theorem slL_lo {ds : List D} {k : Nat} : D.sl (.lst ds) none (some (k : Int)) = .ret (.lst (ds.take k)) := by
  show M.ret (D.lst (cutG ds none (some (k : Int)))) = _
  rw [cutG_lo]
theorem slL_hi {ds : List D} {k : Nat} : D.sl (.lst ds) (some (k : Int)) none = .ret (.lst (ds.drop k)) := by
  show M.ret (D.lst (cutG ds (some (k : Int)) none)) = _
  rw [cutG_hi]
theorem w_spoilt {way : Int} {ds : List D} {x0 : D} {E S P : D → Prop} (hx : D.ixA (.lst [.tup [.int 3, .int 5], .tup [.str "a", .lst [.str "b"]]]) (.int way) = .ret x0) (h0 : E x0) (hE : ∀ d ∈ ds, E d) (hl : ds.length ≤ 7)
    (hS : ∀ d, E d → S d) (hF : ∀ d, S d → Fit 6000 4 d) (ho : ∀ (d : D) (Q : D → Prop), E d → (∀ z, S z → Q z) → wp (if decide (way = 0) = true then m_law_odd_span d else m_law_odd_row d) Q)
    (pO : ∀ z, OdT z → P z) (pT : P (.tup ds)) (pL : ∀ k m d, k ≤ m → S d → P (.lst (ds.take k ++ [d] ++ ds.drop m))) : wp (m_law_spoilt (.int way) (.lst ds)) P := by
  have lenA : D.lenA (.lst ds) = .ret (.int ds.length) := rfl
  have gt : ∀ i j : Int, D.gt (.int i) (.int j) = .ret (.bl (decide (i > j))) := fun _ _ => rfl
  have ti : ∀ b : Bool, D.toInt (.bl b) = .ret (.int (if b = true then 1 else 0)) := fun _ => rfl
  have tt : D.toTup (.lst ds) = .ret (.tup ds) := rfl
  obtain ⟨en, een, oen⟩ := enum_od (fun d m => hF d (hS d (hE d m))) hl
  unfold m_law_spoilt
  simp only [rb17, M.one, lenA, dadd_int]
  refine wp_take (by decide) (by decide) fun kind w0 w1 => ?_
  refine wp_take (by omega) (by omega) fun t t0 t1 => ?_
  obtain ⟨k, rfl⟩ := Int.eq_ofNat_of_zero_le t0
  have cut : D.sl (.lst ds) (some (k : Int)) (some ((k : Int) + 1)) = .ret (.lst (cutG ds (some (k : Int)) (some ((k : Int) + 1)))) := rfl
  have cl : (cutG ds (some (k : Int)) (some ((k : Int) + 1))).length ≤ 7 := Nat.le_trans (cutG_len _ _ _) hl
  have aft : D.add (.lst (cutG ds (some (k : Int)) (some ((k : Int) + 1)))) (.lst [x0]) = .ret (.lst (cutG ds (some (k : Int)) (some ((k : Int) + 1)) ++ [x0])) := addL_ev (by
    show _ + 1 ≤ 16777216
    omega)
  obtain ⟨r, er, hr⟩ : ∃ r : D, D.ixA (.lst (cutG ds (some (k : Int)) (some ((k : Int) + 1)) ++ [x0])) (.int 0) = .ret r ∧ E r := by
    cases e : cutG ds (some (k : Int)) (some ((k : Int) + 1)) with
    | nil => exact ⟨x0, rfl, h0⟩
    | cons y ys =>
      have my : y ∈ ds := cutG_mem (lo := some (k : Int)) (hi := some ((k : Int) + 1)) (by rw [e]; exact List.mem_cons_self ..)
      exact ⟨y, ix_lst (show L2.atI (y :: (ys ++ [x0])) ((0 : Nat) : Int) = some y from atI_nat rfl), hE y my⟩
  have ad1 : ∀ {d : D}, D.add (.lst (ds.take k)) (.lst [d]) = .ret (.lst (ds.take k ++ [d])) := fun {d} => addL_ev (by
    rw [List.length_take, List.length_singleton]
    omega)
  have ad2 : ∀ {d : D} {m : Nat}, D.add (.lst (ds.take k ++ [d])) (.lst (ds.drop m)) = .ret (.lst (ds.take k ++ [d] ++ ds.drop m)) := fun {d m} => addL_ev (by
    rw [List.length_append, List.length_take, List.length_drop, List.length_singleton]
    omega)
  simp only [rb17, asI_int, dadd_int, cut, tupM2, lstM1, lstM2, hx, aft, er, deq_int, asB_bl]
  by_cases z0 : kind = 0
  · rw [decide_eq_true z0, if_pos rfl]
    simp only [M.assoc]
    refine wp_bind.mpr (w_odd fun z hz => ?_)
    simp only [rb17, tt, een, lstM3]
    refine w_at3 rfl (by show 1 ≤ 3; decide) (by show 3 ≤ 1000; decide) fun d md => ?_
    simp only [List.mem_cons, List.not_mem_nil, or_false] at md
    rcases md with rfl | rfl | rfl
    · exact pO _ hz
    · exact pT
    · exact pO _ oen
  rw [decide_eq_false z0, if_neg Bool.false_ne_true]
  by_cases z1 : kind = 1
  · rw [decide_eq_true z1, if_pos rfl]
    simp only [slL_lo, slL_hi, rb17, ad1, ad2]
    exact pL k k r (Nat.le_refl _) (hS r hr)
  rw [decide_eq_false z1, if_neg Bool.false_ne_true]
  refine wp_bind.mpr (ho r _ hr fun z hz => ?_)
  simp only [gt, rb17, ti, slL_lo, ad1, dadd_int, asI_int]
  by_cases z2 : kind > 2
  · rw [decide_eq_true z2, if_pos rfl, show (k : Int) + 1 = ((k + 1 : Nat) : Int) from rfl, slL_hi, rb17, ad2]
    exact pL k (k + 1) z (Nat.le_succ _) hz
  · rw [decide_eq_false z2, if_neg Bool.false_ne_true, Int.add_zero, slL_hi, rb17, ad2]
    exact pL k k z (Nat.le_refl _) hz
theorem loop_unit {X : Type} {f : D → Unit → M (Fl Unit Unit)} : ∀ {ds : List D}, (∀ d ∈ ds, f d () = .ret (.nx ())) → M.loop (X := X) f ds () = .ret (.nx ())
  | [], _ => rfl
  | d :: ds, h => by
    unfold M.loop
    rw [h d (List.mem_cons_self ..)]
    exact loop_unit fun x m => h x (List.mem_cons_of_mem _ m)
theorem lst_ne_refl {xs : List D} {k : Nat} (h : Eqq k (.lst xs)) (hk : k ≤ 64) : D.ne (.lst xs) (.lst xs) = .ret (.bl false) := by
  cases xs with
  | nil => rfl
  | cons y ys =>
    unfold D.ne
    rw [eqb_lst h h hk, PySem.SeqAt.eqv_refl _ h.lay]
    rfl
end K28
namespace K28
open PySem PySem.Spec PyProof.Rows L2 VB
variable {P : Program} {w : World} {K : PySem.W.Frag} {mg : Str → Option Value} {base : Heap} {a : Ad}
theorem inO_ins {C : Addr} {l : List D → M D} {v : D} {ks : List Str} {ds : List D} : D.inO C l v (.ins C ks ds) = (l [.ins C ks ds, v]).bind fun z => z.asB.bind fun b => .ret (.bl b) := if_pos rfl
theorem has_day_seq {b : Bool} {l : List (Int × Int)} {d : Int} : m_law_has_day (seqA b (l.map pD)) (.int d) = .ret (.bl (Dy.hasD l d)) := by
  have z := Dy.e_has_day (l := l) (d := d)
  cases b with
  | true => exact z
  | false => exact z
theorem days_told {c : Cl} {b : Bool} {l : List (Int × Int)} : m_law_as_told c (.int 0) (.lst [seqA b (l.map pD)]) (Dy.dv c (Dy.fewest l)) = .ret (.bl true) := by
  have d0 : D.eq (.int 0) (.int 0) = .ret (.bl true) := rfl
  have ino : ∀ d : Int, D.inO c.Days (l_Days_contains c) (.int d) (Dy.dv c (Dy.fewest l)) = .ret (.bl (Dy.hasD l d)) := fun d => by
    have e : l_Days_contains c [Dy.dv c (Dy.fewest l), .int d] = .ret (.bl (Dy.hasD l d)) := Dy.e_contains.trans (by rw [(Dy.fewest_ok l).2.1 d])
    refine Eq.trans (inO_ins (C := c.Days) (l := l_Days_contains c) (v := .int d) (ks := ["kept_spans"]) (ds := [.lst ((Dy.fewest l).map pD)])) ?_
    rw [show (D.ins c.Days ["kept_spans"] [.lst ((Dy.fewest l).map pD)]) = Dy.dv c (Dy.fewest l) from rfl, e]
    rfl
  have nn : D.ne (.lst []) (.lst []) = .ret (.bl false) := rfl
  have un : ∀ (p : Int × Int) (k : D → D → M (Fl Unit Unit)), D.un2 (pD p) k = k (.int p.1) (.int p.2) := fun _ _ => rfl
  have cmn : ∀ (i j : Int) (k : D → M (Option D)), (∀ z : Int, k (.int z) = .ret none) → M.cm k [.int i, .int j] = .ret [] := fun i j k hk => by
    have z := cm_ret2 (k := k) (g := D.int) (f := fun _ => none) (xs := [i, j]) fun x _ => hk x
    exact z
  have it : ∀ i j : Int, D.items (.tup [.int i, .int j]) = .ret [.int i, .int j] := fun _ _ => rfl
  have lp : ∀ f : D → Unit → M (Fl Unit Unit), (∀ p ∈ l, f (pD p) () = .ret (.nx ())) → M.loop (X := Empty) f (l.map pD) () = .ret (.nx ()) := fun f hf => loop_unit fun d m => by
    obtain ⟨r, mr, rfl⟩ := List.mem_map.mp m
    exact hf r mr
  unfold m_law_as_told
  simp only [rb17, d0, asB_bl, if_true, ix_one, items_seqA]
  rw [lp _ fun p _ => ?hp]
  case hp =>
    simp only [un, tupM2, rb17, it]
    rw [cmn p.1 p.2 _ fun z => ?hz]
    case hz =>
      simp only [rb17, ino, has_day_seq, dne_bl, decide_true, Bool.not_true, asB_bl, Bool.false_eq_true, if_false]
    simp only [rb17, lstM0, nn, asB_bl, Bool.false_eq_true, if_false]
  simp only [rb17, Fl.toF]
theorem sortedSet_seq {b : Bool} {zs : List Str} (h : zs.length < 64) : D.sortedSet (seqA b (zs.map D.str)) = .ret (.lst ((sortU zs).map D.str)) := by
  have z := Cy.sortedSet_ev h
  cases b with
  | true => exact z
  | false => exact z
theorem carry_made {c : Cl} {r : Bool} {b : Bool} {R : List ((Str × List Str) × Bool)} (are : m_are_carry_rows c (seqA b (R.map rwG)) = .ret (.bl true)) (h : Cy.WdR (R.map Prod.fst)) : mx_Carry_init c (.bl r) (seqA b (R.map rwG)) = .ret (.ok (Cy.cyD c r (Cy.keptR r (R.map Prod.fst)))) := by
  have nd : (R.map fun q => q.1.1).Nodup := by
    have z := h.nd
    rw [List.map_map] at z
    exact z
  have ln : R.length < 60 := by
    have z := h.ln
    rw [List.length_map] at z
    exact z
  have mem : ∀ q ∈ R, q.1 ∈ R.map Prod.fst := fun q m => List.mem_map_of_mem m
  have fm : R.filterMap (fun q => some (q.1.1, sortU q.1.2)) = (R.map Prod.fst).map fun r => (r.1, sortU r.2) := by
    rw [List.map_map]
    exact congrFun (List.filterMap_eq_map (f := fun q : (Str × List Str) × Bool => (q.1.1, sortU q.1.2))) R
  have d1 : ∀ k, k = (fun y => D.un2 y fun rule rules => ((M.ret rule)).bind fun k166 => ((((((M.ret rules)).bind D.sortedSet)).bind fun a165 => (M.one D.toTup) [a165])).bind fun v167 => M.ret (some (k166, v167))) → M.dc k (R.map rwG) (D0 false) = .ret (Cy.dcC ((R.map Prod.fst).map fun r => (r.1, sortU r.2))) := fun k ek => by
    have z := Cy.dc_go (k := k) (g := rwG) (f := fun q => some (q.1.1, sortU q.1.2)) R [] (fun q m => by
      rw [ek]
      show ((D.sortedSet (seqA q.2 (q.1.2.map D.str))).bind fun a165 => (M.one D.toTup) [a165]).bind _ = _
      rw [sortedSet_seq (h.sz q.1 (mem q m))]
      rfl) (by
      rw [List.nil_append, fm, List.map_map, List.map_map]
      exact nd) (by
      rw [List.length_nil]
      omega)
    rw [List.nil_append, fm] at z
    exact z
  have d2 : ∀ k, k = (fun y => D.un2 y fun rule rules => ((((((M.ret rules)).bind fun a178 => ((((M.ret (D.bl r))).bind fun a176 => ((M.ret rule)).bind fun a177 => m_unlisted a176 a177)).bind fun b179 => D.ne a178 b179)).bind D.asB)).bind fun k180 => if k180 = true then ((M.ret rule)).bind fun k174 => ((M.ret rules)).bind fun v175 => M.ret (some (k174, v175)) else .ret none) →
      M.dc k (((R.map Prod.fst).map fun r => (r.1, sortU r.2)).map fun r => VB.pairD (.str r.1, Cy.stD r.2)) (D0 false) = .ret (Cy.dcC (Cy.keptR r (R.map Prod.fst))) := fun k ek => by
    have fe : ((R.map Prod.fst).map fun r => (r.1, sortU r.2)).filterMap (fun q => if (!decide (q.2 = Cy.unl r q.1)) = true then some q else none) = Cy.keptR r (R.map Prod.fst) := by
      unfold Cy.keptR
      rw [← List.filterMap_eq_filter]
      rfl
    have z := Cy.dc_go (k := k) (g := fun q => VB.pairD (.str q.1, Cy.stD q.2)) (f := fun q => if (!decide (q.2 = Cy.unl r q.1)) = true then some q else none) ((R.map Prod.fst).map fun r => (r.1, sortU r.2)) [] (fun q m => by
      obtain ⟨p, mp, rfl⟩ := List.mem_map.mp m
      rw [ek]
      show (((m_unlisted (.bl r) (.str p.1)).bind fun b179 => D.ne (Cy.stD (sortU p.2)) b179).bind D.asB).bind _ = _
      rw [Cy.e_unl, M.ret_bind, Cy.stD_ne (fun x mx => h.ws p mp x (sortU_mem.mp mx)) (Cy.unl_wd (h.wd p mp))]
      simp only [M.ret_bind, asB_bl]
      split <;> rfl) (by
      rw [List.nil_append, fe]
      exact (List.Sublist.map Prod.fst (List.filter_sublist (p := fun q : Str × List Str => !decide (q.2 = Cy.unl r q.1)))).nodup (by
        rw [List.map_map]
        exact h.nd)) (by
      rw [List.length_nil, List.length_map, List.length_map]
      omega)
    rw [List.nil_append, fe] at z
    exact z
  have sf1 : ∀ k : D → M D, D.setF c.Carry "kept_rest" (D.ins c.Carry [] []) (.bl r) k = k (.ins c.Carry ["kept_rest"] [.bl r]) := fun k => setF_ev ⟨by simp, by simp⟩
  have sf2 : ∀ (x : D) (k : D → M D), D.setF c.Carry "kept_rules" (D.ins c.Carry ["kept_rest"] [.bl r]) x k = k (.ins c.Carry ["kept_rest", "kept_rules"] [.bl r, x]) := fun x k => setF_ev ⟨by decide, by simp⟩
  unfold mx_Carry_init
  simp only [M.ret_bind, M.two, isi_blb, M.not1, asB_bl, Bool.not_true, Bool.false_eq_true, if_false, are, items_seqA]
  simp only [M.ret_bind] at d1 d2
  rw [d1 _ rfl]
  simp only [M.ret_bind, sf1, Cy.rowsM_dcC]
  rw [d2 _ rfl]
  simp only [M.ret_bind, sf2]
  unfold M.ok
  rw [M.ret_bind]
  rfl
theorem carry_told {c : Cl} {r b : Bool} {R : List ((Str × List Str) × Bool)} (h : Cy.WdR (R.map Prod.fst)) : m_law_as_told c (.int 1) (.lst [.bl r, seqA b (R.map rwG)]) (Cy.cyD c r (Cy.keptR r (R.map Prod.fst))) = .ret (.bl true) := by
  have d0 : D.eq (.int 1) (.int 0) = .ret (.bl false) := rfl
  have en : D.eq (.lst []) (.lst []) = .ret (.bl true) := rfl
  have eb : D.eq (.bl r) (.bl r) = .ret (.bl true) := by cases r <;> rfl
  have e0 : ∀ xs : List ((Str × List Str) × Bool), xs.filterMap (fun _ => (none : Option D)) = [] := fun xs => by
    induction xs with
    | nil => rfl
    | cons x xs ih => rw [List.filterMap_cons_none rfl, ih]
  unfold m_law_as_told
  simp only [rb17, d0, asB_bl, Bool.false_eq_true, if_false, ix_two0, ix_two1, items_seqA]
  rw [cm_ret2 (g := rwG) (f := fun _ => none) ?hk]
  case hk =>
    intro q m
    have mq : q.1 ∈ R.map Prod.fst := List.mem_map_of_mem m
    have ca : Cy.carr r (R.map Prod.fst) q.1.1 = sortU q.1.2 := by
      unfold Cy.carr
      rw [Cy.lookR_of h.nd (show (q.1.1, q.1.2) ∈ R.map Prod.fst from mq)]
    have ec : m_Carry_carried c (Cy.cyD c r (Cy.keptR r (R.map Prod.fst))) (.str q.1.1) = .ret (.lst ((sortU q.1.2).map D.str)) := by
      rw [Cy.e_carried h.nd, ca]
    have ne : D.ne (.lst ((sortU q.1.2).map D.str)) (.lst ((sortU q.1.2).map D.str)) = .ret (.bl false) := lst_ne_refl (k := 1) (Eqq.lst fun d md => by
      obtain ⟨w, mw, rfl⟩ := List.mem_map.mp md
      exact Eqq.wd (h.ws q.1 mq w (sortU_mem.mp mw))) (by decide)
    simp only [show ∀ k : D → D → M (Option D), D.un2 (rwG q) k = k (.str q.1.1) (seqA q.2 (q.1.2.map D.str)) from fun _ => rfl, rb17, Cy.mth_car, ec, sortedSet_seq (h.sz q.1 mq), ne, asB_bl, Bool.false_eq_true, if_false]
  rw [e0]
  simp only [rb17, lstM0, en, M.andB, asB_bl, if_true, Cy.prp_rest, eb]
structure Th (c : Cl) (way : Int) (t : D) (v : Bool) : Prop where
  ok : v = true → m_law_wrong c (.int way) t = .ret .non ∧ ∃ f, m_law_tried c (.int way) t = .ret (.tup [.str "made", f]) ∧ m_law_as_told c (.int way) t f = .ret (.bl true)
  no : v = false → ∃ i : Int, (i = 0 ∨ i = 1) ∧ m_law_wrong c (.int way) t = .ret (.int i) ∧ m_law_tried c (.int way) t = .ret (.tup [.str "refused", .int i])
  rp : ∃ z, D.reprM t = .ret (.str z)
theorem tried_ok {c : Cl} {way : Int} {t d : D} (hx : (if decide (way = 0) = true then (D.ix t (.int 0)).bind fun a => mx_Days_init c a else (D.ix t (.int 0)).bind fun a => (D.ix t (.int 1)).bind fun b => mx_Carry_init c a b) = .ret (.ok d)) : m_law_tried c (.int way) t = .ret (.tup [.str "made", d]) := by
  unfold m_law_tried M.tryAs
  simp only [rb17, deq_int, asB_bl]
  rw [hx]
  simp only [rb17, Xr.next, Xr.then]
theorem tried_ex {c : Cl} {way : Int} {t d : D} (hx : (if decide (way = 0) = true then (D.ix t (.int 0)).bind fun a => mx_Days_init c a else (D.ix t (.int 0)).bind fun a => (D.ix t (.int 1)).bind fun b => mx_Carry_init c a b) = .ret (.ex c.Wrong "place" d)) : m_law_tried c (.int way) t = .ret (.tup [.str "refused", d]) := by
  unfold m_law_tried M.tryAs
  simp only [rb17, deq_int, asB_bl]
  rw [hx]
  simp only [rb17, Xr.next, Xr.then]
  rw [if_pos (by simp), tupM2]
theorem th0 {c : Cl} {s : D} {v : Bool} (h : FinS c s v) (ft : Fit 99000 50 s) : Th c 0 (.lst [s]) v := by
  refine ⟨fun hv => ?_, fun hv => ?_, ⟨_, rp60 ((Fit.lst (ds := [s]) (l := 1) (fun d m => by rw [List.mem_singleton.mp m]; exact ft) (Nat.le_refl 1)).mono (by decide) (by decide))⟩⟩
  · subst hv
    obtain ⟨b, l, rfl, hp, hl⟩ := h.ok rfl
    refine ⟨h.wr, Dy.dv c (Dy.fewest l), ?_, days_told⟩
    exact tried_ok (by
      rw [decide_eq_true rfl, if_pos rfl, ix_one, rb17]
      exact days_made hp hl)
  · subst hv
    refine ⟨0, .inl rfl, h.wr, ?_⟩
    exact tried_ex (by
      rw [decide_eq_true rfl, if_pos rfl, ix_one, rb17]
      exact h.ex rfl)
theorem th1 {c : Cl} {x s : D} {v : Bool} (hx : x.tyn.isSome = true) (fx : Fit 99000 50 x) (h : FinR c s v) (ft : Fit 99000 50 s) : Th c 1 (.lst [x, s]) (blB x && v) := by
  have rp : ∃ z, D.reprM (.lst [x, s]) = .ret (.str z) := ⟨_, rp60 ((Fit.lst (ds := [x, s]) (l := 2) (fun d m => by
    rcases List.mem_cons.mp m with rfl | m
    · exact fx
    · rw [List.mem_singleton.mp m]
      exact ft) (Nat.le_refl 2)).mono (by decide) (by decide))⟩
  have dn : decide ((1 : Int) = 0) = false := rfl
  by_cases hb : blB x = true
  · obtain ⟨r, rfl⟩ : ∃ r, x = .bl r := by
      cases x with
      | bl r => exact ⟨r, rfl⟩
      | _ => cases hb
    refine ⟨fun hv => ?_, fun hv => ?_, rp⟩
    · have hv : v = true := hv
      subst hv
      obtain ⟨b, R, rfl, hR⟩ := h.ok rfl
      refine ⟨h.wr r, Cy.cyD c r (Cy.keptR r (R.map Prod.fst)), ?_, carry_told hR⟩
      exact tried_ok (by
        rw [dn, if_neg Bool.false_ne_true, ix_two0, ix_two1, rb17, rb17]
        exact carry_made h.are hR)
    · have hv : v = false := hv
      subst hv
      refine ⟨1, .inr rfl, h.wr r, ?_⟩
      exact tried_ex (by
        rw [dn, if_neg Bool.false_ne_true, ix_two0, ix_two1, rb17, rb17]
        unfold mx_Carry_init
        simp only [rb17, M.two, isi_blb, asB_bl, M.not1, Bool.not_true, Bool.false_eq_true, if_false, h.are, Bool.not_false, if_true])
  · have hb : blB x = false := by simpa using hb
    rw [hb]
    refine ⟨fun hv => (nomatch hv), fun _ => ⟨0, .inl rfl, ?_, ?_⟩, rp⟩
    · have d0 : D.eq (.int 1) (.int 0) = .ret (.bl false) := rfl
      unfold m_law_wrong
      simp only [rb17, d0, asB_bl, Bool.false_eq_true, if_false, ix_two0, M.two, isi_bool_of hx, hb, M.not1, Bool.not_false, if_true]
    · exact tried_ex (by
        rw [dn, if_neg Bool.false_ne_true, ix_two0, ix_two1, rb17, rb17]
        unfold mx_Carry_init
        simp only [rb17, M.two, isi_bool_of hx, hb, asB_bl, M.not1, Bool.not_false, if_true])
end K28
namespace K28
open PySem PySem.Spec PyProof.Rows L2 VB
variable {P : Program} {w : World} {K : PySem.W.Frag} {mg : Str → Option Value} {base : Heap} {a : Ad}
noncomputable def v3 (c : Cl) (way1593 : D) (good1614 : D) (word1710 : D) (found1711 : D) : M (Fl Unit Unit) := ((M.or2 (((((M.ret word1710)).bind fun a1713 => ((M.ret (D.str "made"))).bind fun b1714 => D.ne a1713 b1714)).bind D.asB) (M.not1 (((((M.ret way1593)).bind fun a1715 => ((M.ret good1614)).bind fun a1716 => ((M.ret found1711)).bind fun a1717 => m_law_as_told c a1715 a1716 a1717)).bind D.asB)))).bind fun k1718 => if k1718 = true then ((M.ret (D.bl false))).bind fun r1719 => M.ret (Fl.rt r1719) else (M.ret (Fl.nx ()))
noncomputable def v2 (c : Cl) (way1593 : D) (good1614 : D) (s1631 : D) (wrong_here1675 : D) (shown1676 : D) (word1679 : D) (found1680 : D) : M (Fl Unit Unit) := ((M.or2 (((((((M.ret word1679)).bind fun a1682 => ((M.ret (D.str "made"))).bind fun b1683 => D.eq a1682 b1683)).bind fun a1686 => ((((M.ret wrong_here1675)).bind fun a1684 => ((M.ret D.non)).bind fun b1685 => (D.is1 false) a1684 b1685)).bind fun b1687 => D.ne a1686 b1687)).bind D.asB) (((((((M.ret s1631)).bind fun a1688 => (M.one D.reprM) [a1688])).bind fun a1689 => ((M.ret shown1676)).bind fun b1690 => D.ne a1689 b1690)).bind D.asB))).bind fun k1691 => if k1691 = true then ((M.ret (D.bl false))).bind fun r1692 => M.ret (Fl.rt r1692) else ((M.and2 (((((M.ret word1679)).bind fun a1693 => ((M.ret (D.str "refused"))).bind fun b1694 => D.eq a1693 b1694)).bind D.asB) (((((((M.ret found1680)).bind fun a1695 => (M.one D.reprM) [a1695])).bind fun a1697 => ((((M.ret wrong_here1675)).bind fun a1696 => (M.one D.reprM) [a1696])).bind fun b1698 => D.ne a1697 b1698)).bind D.asB))).bind fun k1699 => if k1699 = true then ((M.ret (D.bl false))).bind fun r1700 => M.ret (Fl.rt r1700) else ((M.and2 (((((M.ret word1679)).bind fun a1701 => ((M.ret (D.str "made"))).bind fun b1702 => D.eq a1701 b1702)).bind D.asB) (M.not1 (((((M.ret way1593)).bind fun a1703 => ((M.ret s1631)).bind fun a1704 => ((M.ret found1680)).bind fun a1705 => m_law_as_told c a1703 a1704 a1705)).bind D.asB)))).bind fun k1706 => if k1706 = true then ((M.ret (D.bl false))).bind fun r1707 => M.ret (Fl.rt r1707) else ((((M.ret way1593)).bind fun a1708 => ((M.ret good1614)).bind fun a1709 => m_law_tried c a1708 a1709)).bind (fun y1712 => D.un2 y1712 fun word1710 found1711 => (v3 c way1593 good1614 word1710 found1711))
noncomputable def v1 (c : Cl) (way1593 : D) (good1614 : D) (s1631 : D) : M (Fl Unit Unit) := ((((M.ret way1593)).bind fun a1672 => ((M.ret s1631)).bind fun a1673 => m_law_wrong c a1672 a1673)).bind fun wrong_here1675 => ((((M.ret s1631)).bind fun a1674 => (M.one D.reprM) [a1674])).bind fun shown1676 => ((((M.ret way1593)).bind fun a1677 => ((M.ret s1631)).bind fun a1678 => m_law_tried c a1677 a1678)).bind (fun y1681 => D.un2 y1681 fun word1679 found1680 => (v2 c way1593 good1614 s1631 wrong_here1675 shown1676 word1679 found1680))
noncomputable def vs (c : Cl) (way1593 : D) (s1627 : D) : M (D) := ((M.and2 (((((M.ret way1593)).bind fun a1632 => ((M.ret (D.int 1))).bind fun b1633 => D.eq a1632 b1633)).bind D.asB) (((((((M.ret (D.int 3))).bind D.takeM)).bind fun a1634 => ((M.ret (D.int 0))).bind fun b1635 => D.eq a1634 b1635)).bind D.asB))).bind fun k1636 => if k1636 = true then ((m_law_odd)).bind fun v1638 => ((M.ret (D.int 0))).bind fun i1639 => D.itemK s1627 v1638 i1639 fun things1637 => (M.ret things1637) else ((M.and2 (((((((M.ret way1593)).bind fun a1653 => ((((((((M.ret (D.bl true))).bind fun a1643 => D.lstM [a1643])).bind fun a1644 => ((M.ret way1593)).bind fun b1645 => D.mul a1644 b1645)).bind fun a1651 => ((((M.ret s1627)).bind fun a1648 => ((((M.ret (D.int (-1)))).bind fun a1646 => a1646.asI.bind fun i1647 => .ret (some i1647))).bind fun lo1649 => ((M.ret none)).bind fun hi1650 => D.sl a1648 lo1649 hi1650)).bind fun b1652 => D.add a1651 b1652)).bind fun a1654 => m_law_wrong c a1653 a1654)).bind fun a1655 => ((M.ret D.non)).bind fun b1656 => (D.is1 false) a1655 b1656)).bind D.asB) (((((((M.ret s1627)).bind fun a1657 => ((M.ret (D.int (-1)))).bind fun b1658 => D.ix a1657 b1658)).bind fun a1659 => ((M.ret (D.ty "list"))).bind fun a1660 => (M.two D.isi) [a1659, a1660])).bind D.asB))).bind fun k1661 => if k1661 = true then ((((M.ret way1593)).bind fun a1664 => ((((M.ret s1627)).bind fun a1662 => ((M.ret (D.int (-1)))).bind fun b1663 => D.ix a1662 b1663)).bind fun a1665 => m_law_spoilt a1664 a1665)).bind fun v1667 => ((M.ret (D.int (-1)))).bind fun i1668 => D.itemK s1627 v1667 i1668 fun things1666 => (M.ret things1666) else (M.ret s1627)
noncomputable def v0 (c : Cl) (words1585 : D) : M (Fl Unit Unit) := ((((M.ret (D.int 2))).bind D.takeM)).bind fun way1593 => ((((M.ret (D.int 5))).bind fun a1595 => m_law_drawn_spans a1595)).bind fun spans1594 => ((((((((M.ret words1585)).bind fun a1599 => ((M.ret none)).bind fun lo1600 => ((((((M.ret (D.int 5))).bind D.takeM)).bind fun a1597 => a1597.asI.bind fun i1598 => .ret (some i1598))).bind fun hi1601 => D.sl a1599 lo1600 hi1601)).bind D.items)).bind fun ds1612 => (M.map (fun rule1603 => (((M.ret rule1603)).bind fun a1610 => ((((((M.ret words1585)).bind fun a1604 => m_law_mixed a1604)).bind fun a1607 => ((M.ret none)).bind fun lo1608 => ((((((M.ret (D.int 4))).bind D.takeM)).bind fun a1605 => a1605.asI.bind fun i1606 => .ret (some i1606))).bind fun hi1609 => D.sl a1607 lo1608 hi1609)).bind fun a1611 => D.tupM [a1610, a1611])) ds1612).bind fun es1613 => .ret (.lst es1613))).bind fun rows1596 => ((((((((M.ret spans1594)).bind fun a1615 => D.lstM [a1615])).bind fun a1620 => ((((((((M.ret (D.int 2))).bind D.takeM)).bind fun a1616 => ((M.ret (D.int 0))).bind fun b1617 => D.eq a1616 b1617)).bind fun a1618 => ((M.ret rows1596)).bind fun a1619 => D.lstM [a1618, a1619])).bind fun a1621 => D.lstM [a1620, a1621])).bind fun a1622 => ((M.ret way1593)).bind fun b1623 => D.ix a1622 b1623)).bind fun good1614 => ((((M.ret good1614)).bind fun a1625 => (M.one D.toLst) [a1625])).bind fun things1624 => ((((((M.ret (D.int 3))).bind D.takeM)).bind fun a1626 => D.rng1 [a1626])).bind fun ds1630 => (M.fold (fun ys1627 (s1627 : D) => (fun time1629 => (vs c way1593 s1627)) ys1627) ds1630 things1624).bind fun s1631 => (v1 c way1593 good1614 s1631)
theorem law_eq (c : Cl) : m_law c = (((((M.ret (D.int 4))).bind fun a1586 => m_law_labels a1586)).bind fun words1585 => ((((M.ret (D.int 20))).bind fun a1587 => D.rng1 [a1587])).bind fun ds1591 => (M.loop (X := Empty) (fun ys1588 (s1588 : Unit) => (fun k1590 => (v0 c words1585)) ys1588) ds1591 ()).bind (Fl.toF fun s1592 => (M.ret (D.bl true)))) := rfl
theorem v3_ev {c : Cl} {way : Int} {good f : D} (ha : m_law_as_told c (.int way) good f = .ret (.bl true)) : v3 c (.int way) good (.str "made") f = .ret (.nx ()) := by
  have n1 : D.ne (.str "made") (.str "made") = .ret (.bl false) := by rw [dne_str, decide_eq_true rfl]; rfl
  unfold v3
  simp only [rb17, n1, asB_bl, M.or2, M.not1, Bool.false_eq_true, if_false, ha, Bool.not_true]
theorem v1_ev {c : Cl} {way : Int} {good s : D} {v : Bool} (h : Th c way s v) (hg : Th c way good true) : v1 c (.int way) good s = .ret (.nx ()) := by
  obtain ⟨z, ez⟩ := h.rp
  obtain ⟨_, g, gt, ga⟩ := hg.ok rfl
  have un : ∀ (x y : D) (k : D → D → M (Fl Unit Unit)), D.un2 (.tup [x, y]) k = k x y := fun _ _ _ => rfl
  have nz : D.ne (.str z) (.str z) = .ret (.bl false) := by rw [dne_str, decide_eq_true rfl]; rfl
  cases v with
  | true =>
    obtain ⟨hw, f, ht, ha⟩ := h.ok rfl
    have e1 : D.eq (.str "made") (.str "made") = .ret (.bl true) := by rw [deq_str, decide_eq_true rfl]
    have e2 : D.eq (.str "made") (.str "refused") = .ret (.bl false) := by rw [deq_str, decide_eq_false (by decide)]
    have i1 : D.is1 false .non .non = .ret (.bl true) := rfl
    have n1 : D.ne (.bl true) (.bl true) = .ret (.bl false) := rfl
    unfold v1
    simp only [rb17, M.one, hw, ez, ht, un]
    unfold v2
    simp only [rb17, M.one, ez, nz, e1, e2, i1, n1, asB_bl, M.or2, M.and2, M.not1, Bool.false_eq_true, if_false, if_true, ha, Bool.not_true, gt, un]
    exact v3_ev ga
  | false =>
    obtain ⟨i, hi, hw, ht⟩ := h.no rfl
    have e1 : D.eq (.str "refused") (.str "made") = .ret (.bl false) := by rw [deq_str, decide_eq_false (by decide)]
    have e2 : D.eq (.str "refused") (.str "refused") = .ret (.bl true) := by rw [deq_str, decide_eq_true rfl]
    have i1 : D.is1 false (.int i) .non = .ret (.bl false) := rfl
    have n1 : D.ne (.bl false) (.bl false) = .ret (.bl false) := rfl
    have ei : D.reprM (.int i) = .ret (.str (D.int i).py.shown) := rp60 ((Fit.int (i := i) (by rcases hi with rfl | rfl <;> decide)).mono (by decide) (by decide))
    have n2 : D.ne (.str (D.int i).py.shown) (.str (D.int i).py.shown) = .ret (.bl false) := by rw [dne_str, decide_eq_true rfl]; rfl
    unfold v1
    simp only [rb17, M.one, hw, ez, ht, un]
    unfold v2
    simp only [rb17, M.one, ez, nz, e1, e2, i1, n1, ei, n2, asB_bl, M.or2, M.and2, M.not1, Bool.false_eq_true, if_false, if_true, gt, un]
    exact v3_ev ga
def DnS (c : Cl) (s : D) : Prop := ∃ v l, FinS c s v ∧ Fit 99000 50 s ∧ D.isi s (.ty "list") = .ret (.bl l) ∧ (v = true → l = false)
def DnR (c : Cl) (s : D) : Prop := ∃ v l, FinR c s v ∧ Fit 99000 50 s ∧ D.isi s (.ty "list") = .ret (.bl l) ∧ (v = true → l = false)
def S0 (c : Cl) (i : Nat) (s : D) : Prop := (∃ ds, s = .lst ds ∧ (∀ d ∈ ds, Sp28 d) ∧ ds.length ≤ 5 + i) ∨ DnS c s
def S1 (c : Cl) (i : Nat) (s : D) : Prop := (∃ ds, s = .lst ds ∧ (∀ d ∈ ds, Rr28 d) ∧ ds.length ≤ 4 + i) ∨ DnR c s
theorem od_s {c : Cl} {z : D} (h : OdT z) : DnS c z := by
  obtain ⟨l, e⟩ := h.isl
  exact ⟨false, l, h.fs, h.ft.mono (by decide) (by decide), e, fun z => nomatch z⟩
theorem od_r {c : Cl} {z : D} (h : OdT z) : DnR c z := by
  obtain ⟨l, e⟩ := h.isl
  exact ⟨false, l, h.fr, h.ft.mono (by decide) (by decide), e, fun z => nomatch z⟩
/-- what a look and isinstance say -/
theorem look0 {c : Cl} {i : Nat} {s : D} (hi : i ≤ 2) (h : S0 c i s) : ∃ v l, FinS c s v ∧ Fit 99000 50 s ∧ D.isi s (.ty "list") = .ret (.bl l) ∧ ((v && l) = true → ∃ g : List (Int × Int), s = .lst (g.map pD) ∧ (∀ p ∈ g, Dy.DP p) ∧ g.length ≤ 5 + i) := by
  rcases h with ⟨ds, rfl, h1, h2⟩ | ⟨v, l, h1, h2, h3, h4⟩
  · have f := fin_spans (c := c) (b := true) (fun d m => (h1 d m).ok) (by omega)
    refine ⟨_, true, f, (Fit.lst (l := 7) (fun d m => (h1 d m).ft) (by omega)).mono (by decide) (by decide), rfl, fun hv => ?_⟩
    rw [Bool.and_true] at hv
    obtain ⟨l, rfl, hp⟩ := all_pD hv
    rw [List.length_map] at h2
    exact ⟨l, rfl, hp, h2⟩
  · refine ⟨v, l, h1, h2, h3, fun hv => ?_⟩
    obtain ⟨a, b⟩ := Bool.and_eq_true_iff.mp hv
    rw [h4 a] at b
    cases b
theorem look1 {c : Cl} {i : Nat} {s : D} (hi : i ≤ 2) (h : S1 c i s) : ∃ v l, FinR c s v ∧ Fit 99000 50 s ∧ D.isi s (.ty "list") = .ret (.bl l) ∧ ((v && l) = true → ∃ R : List ((Str × List Str) × Bool), s = .lst (R.map rwG) ∧ (∀ q ∈ R, Wd q.1.1 ∧ (∀ x ∈ q.1.2, Wd x) ∧ q.1.2.length ≤ 3) ∧ R.length ≤ 4 + i) := by
  rcases h with ⟨ds, rfl, h1, h2⟩ | ⟨v, l, h1, h2, h3, h4⟩
  · obtain ⟨v, f, hf⟩ := fin_rows (c := c) (b := true) (fun d m => (h1 d m).ok) (fun _ => by omega) (fun q m hq => by
      have := (h1 _ m).g hq q rfl
      omega)
    refine ⟨v, true, f, (Fit.lst (l := 7) (fun d m => (h1 d m).ft) (by omega)).mono (by decide) (by decide), rfl, fun hv => ?_⟩
    rw [Bool.and_true] at hv
    have a : ds.all crB = true := by
      cases ha : ds.all crB with
      | true => rfl
      | false =>
        rw [hf ha] at hv
        cases hv
    obtain ⟨R, rfl, hR⟩ := all_rwG a
    rw [List.length_map] at h2
    exact ⟨R, rfl, fun q m => ⟨(hR q m).1, (hR q m).2, (h1 _ (List.mem_map_of_mem m)).g (List.all_eq_true.mp a _ (List.mem_map_of_mem m)) q rfl⟩, h2⟩
  · refine ⟨v, l, h1, h2, h3, fun hv => ?_⟩
    obtain ⟨a, b⟩ := Bool.and_eq_true_iff.mp hv
    rw [h4 a] at b
    cases b
theorem spoilt0 {c : Cl} {i : Nat} {g : List (Int × Int)} (hi : i ≤ 1) (hp : ∀ p ∈ g, Dy.DP p) (hl : g.length ≤ 5 + i) : wp (m_law_spoilt (.int 0) (.lst (g.map pD))) (S0 c (i + 1)) := by
  have ea : ∀ d ∈ g.map pD, Sp28 d := fun d m => by
    obtain ⟨p, mp, rfl⟩ := List.mem_map.mp m
    exact sp_pD (hp p mp)
  refine w_spoilt (x0 := pD (3, 5)) (E := fun d => ∃ p, d = pD p ∧ Dy.DP p) (S := Sp28) rfl ⟨(3, 5), rfl, by constructor <;> constructor <;> decide⟩ (fun d m => ?_) (by rw [List.length_map]; omega) (fun d ⟨p, e, h⟩ => by rw [e]; exact sp_pD h) (fun d h => h.ft.mono (by decide) (by decide)) (fun d Q ⟨p, e, h⟩ k => ?_) (fun z hz => .inr (od_s hz)) (.inr ?_) (fun k m d hk hd => .inl ⟨_, rfl, fun x mx => ?_, ?_⟩)
  · obtain ⟨p, mp, rfl⟩ := List.mem_map.mp m
    exact ⟨p, rfl, hp p mp⟩
  · subst e
    rw [decide_eq_true rfl, if_pos rfl]
    exact w_odd_span h k
  · have f := fin_spans (c := c) (b := false) (fun d m => (ea d m).ok) (by rw [List.length_map]; omega)
    exact ⟨_, false, f, (Fit.tup (l := 7) (fun d m => (ea d m).ft) (by rw [List.length_map]; omega) (by decide)).mono (by decide) (by decide), rfl, fun _ => rfl⟩
  · rcases List.mem_append.mp mx with mx | mx
    · rcases List.mem_append.mp mx with mx | mx
      · exact ea x (List.mem_of_mem_take mx)
      · rw [List.mem_singleton.mp mx]
        exact hd
    · exact ea x (List.mem_of_mem_drop mx)
  · rw [List.length_append, List.length_append, List.length_take, List.length_drop, List.length_singleton, List.length_map]
    omega
theorem spoilt1 {c : Cl} {i : Nat} {R : List ((Str × List Str) × Bool)} (hi : i ≤ 1) (hp : ∀ q ∈ R, Wd q.1.1 ∧ (∀ x ∈ q.1.2, Wd x) ∧ q.1.2.length ≤ 3) (hl : R.length ≤ 4 + i) : wp (m_law_spoilt (.int 1) (.lst (R.map rwG))) (S1 c (i + 1)) := by
  have ea : ∀ d ∈ R.map rwG, Rr28 d := fun d m => by
    obtain ⟨p, mp, rfl⟩ := List.mem_map.mp m
    exact rr_good (hp p mp).1 (hp p mp).2.1 (hp p mp).2.2
  have wa : Wd "a" := wordB_wd.mp (by decide)
  have wb : Wd "b" := wordB_wd.mp (by decide)
  refine w_spoilt (x0 := rwG (("a", ["b"]), true)) (E := fun d => ∃ q, d = rwG q ∧ Wd q.1.1 ∧ (∀ x ∈ q.1.2, Wd x) ∧ q.1.2.length ≤ 3) (S := Rr28) rfl ⟨(("a", ["b"]), true), rfl, wa, fun x m => ?_, by show 1 ≤ 3; decide⟩ (fun d m => ?_) (by rw [List.length_map]; omega) (fun d ⟨q, e, h1, h2, h3⟩ => by rw [e]; exact rr_good h1 h2 h3) (fun d h => h.ft) (fun d Q ⟨q, e, h1, h2, h3⟩ k => ?_) (fun z hz => .inr (od_r hz)) (.inr ?_) (fun k m d hk hd => .inl ⟨_, rfl, fun x mx => ?_, ?_⟩)
  · rw [List.mem_singleton.mp m]
    exact wb
  · obtain ⟨p, mp, rfl⟩ := List.mem_map.mp m
    exact ⟨p, rfl, hp p mp⟩
  · subst e
    rw [show decide ((1 : Int) = 0) = false from rfl, if_neg Bool.false_ne_true]
    exact w_odd_row h1 h2 h3 k
  · obtain ⟨v, f, _⟩ := fin_rows (c := c) (b := false) (fun d m => (ea d m).ok) (fun _ => by rw [List.length_map]; omega) (fun q m hq => by
      have := (ea _ m).g hq q rfl
      omega)
    exact ⟨v, false, f, (Fit.tup (l := 7) (fun d m => (ea d m).ft) (by rw [List.length_map]; omega) (by decide)).mono (by decide) (by decide), rfl, fun _ => rfl⟩
  · rcases List.mem_append.mp mx with mx | mx
    · rcases List.mem_append.mp mx with mx | mx
      · exact ea x (List.mem_of_mem_take mx)
      · rw [List.mem_singleton.mp mx]
        exact hd
    · exact ea x (List.mem_of_mem_drop mx)
  · rw [List.length_append, List.length_append, List.length_take, List.length_drop, List.length_singleton, List.length_map]
    omega
def St0 (c : Cl) (i : Nat) (t : D) : Prop := ∃ s, t = .lst [s] ∧ S0 c i s
def St1 (c : Cl) (i : Nat) (t : D) : Prop := ∃ x s, t = .lst [x, s] ∧ x.tyn.isSome = true ∧ Fit 99000 50 x ∧ S1 c i s
theorem S0.up {c : Cl} {i : Nat} {s : D} (h : S0 c i s) : S0 c (i + 1) s := h.imp (fun ⟨ds, e, h1, h2⟩ => ⟨ds, e, h1, by omega⟩) id
theorem S1.up {c : Cl} {i : Nat} {s : D} (h : S1 c i s) : S1 c (i + 1) s := h.imp (fun ⟨ds, e, h1, h2⟩ => ⟨ds, e, h1, by omega⟩) id
theorem w_vs0 {c : Cl} {t : D} {i : Nat} (hi : i ≤ 1) (h : St0 c i t) : wp (vs c (.int 0) t) (St0 c (i + 1)) := by
  obtain ⟨s, rfl, hs⟩ := h
  obtain ⟨v, l, f, _, il, hg⟩ := look0 (by omega) hs
  have d1 : D.eq (.int 0) (.int 1) = .ret (.bl false) := rfl
  have mu : D.mul (.lst [.bl true]) (.int 0) = .ret (.lst []) := rfl
  have sl : D.sl (.lst [s]) (some (-1)) none = .ret (.lst [s]) := rfl
  have ad : D.add (.lst []) (.lst [s]) = .ret (.lst [s]) := rfl
  have il1 : D.ix (.lst [s]) (.int (-1)) = .ret s := rfl
  have is : D.is1 false (if v = true then D.non else .int 0) .non = .ret (.bl v) := by cases v <;> rfl
  have ik : ∀ (x : D) (k : D → M D), D.itemK (.lst [s]) x (.int (-1)) k = k (.lst [x]) := fun _ _ => rfl
  unfold vs
  simp only [rb17, d1, asB_bl, M.and2, Bool.false_eq_true, if_false, lstM1, mu, asI_int, sl, ad, f.wr, is, il1, M.two, il]
  cases v with
  | false =>
    simp only [Bool.false_eq_true, if_false, rb17]
    exact ⟨s, rfl, hs.up⟩
  | true =>
    simp only [if_true]
    cases l with
    | false =>
      simp only [Bool.false_eq_true, if_false, rb17]
      exact ⟨s, rfl, hs.up⟩
    | true =>
      obtain ⟨g, rfl, hp, hl⟩ := hg rfl
      simp only [if_true, rb17]
      refine wp_bind.mpr (wp_mono (spoilt0 (c := c) hi hp hl) fun z hz => ?_)
      simp only [rb17, ik]
      exact ⟨z, rfl, hz⟩
theorem w_vs1 {c : Cl} {t : D} {i : Nat} (hi : i ≤ 1) (h : St1 c i t) : wp (vs c (.int 1) t) (St1 c (i + 1)) := by
  obtain ⟨y, s, rfl, ty, fy, hs⟩ := h
  obtain ⟨v, l, f, _, il, hg⟩ := look1 (by omega) hs
  have d1 : D.eq (.int 1) (.int 1) = .ret (.bl true) := rfl
  have mu : D.mul (.lst [.bl true]) (.int 1) = .ret (.lst [.bl true]) := rfl
  have sl : D.sl (.lst [y, s]) (some (-1)) none = .ret (.lst [s]) := rfl
  have ad : D.add (.lst [.bl true]) (.lst [s]) = .ret (.lst [.bl true, s]) := rfl
  have il1 : D.ix (.lst [y, s]) (.int (-1)) = .ret s := rfl
  have is : D.is1 false (if v = true then D.non else .int 1) .non = .ret (.bl v) := by cases v <;> rfl
  have ik : ∀ (x : D) (k : D → M D), D.itemK (.lst [y, s]) x (.int (-1)) k = k (.lst [y, x]) := fun _ _ => rfl
  have ik0 : ∀ (x : D) (k : D → M D), D.itemK (.lst [y, s]) x (.int 0) k = k (.lst [x, s]) := fun _ _ => rfl
  unfold vs
  simp only [rb17, d1, asB_bl, M.and2, if_true, M.assoc]
  refine wp_take (by decide) (by decide) fun t t0 t1 => ?_
  simp only [deq_int, rb17, asB_bl]
  by_cases z : t = 0
  · rw [decide_eq_true z, if_pos rfl]
    refine wp_bind.mpr (w_odd fun z hz => ?_)
    simp only [rb17, ik0]
    exact ⟨z, s, rfl, hz.t, hz.ft.mono (by decide) (by decide), hs.up⟩
  · rw [decide_eq_false z, if_neg Bool.false_ne_true]
    simp only [rb17, lstM1, mu, asI_int, sl, ad, f.wr, is, il1, M.two, il, asB_bl]
    cases v with
    | false =>
      simp only [Bool.false_eq_true, if_false, rb17]
      exact ⟨y, s, rfl, ty, fy, hs.up⟩
    | true =>
      simp only [if_true]
      cases l with
      | false =>
        simp only [Bool.false_eq_true, if_false, rb17]
        exact ⟨y, s, rfl, ty, fy, hs.up⟩
      | true =>
        obtain ⟨R, rfl, hp, hl⟩ := hg rfl
        simp only [if_true, rb17]
        refine wp_bind.mpr (wp_mono (spoilt1 (c := c) hi hp hl) fun z hz => ?_)
        simp only [rb17, ik]
        exact ⟨y, z, rfl, ty, fy, hz⟩
end K28
namespace K28
open PySem PySem.Spec PyProof.Rows L2 VB
variable {P : Program} {w : World} {K : PySem.W.Frag} {mg : Str → Option Value} {base : Heap} {a : Ad}
theorem cr_good {q : (Str × List Str) × Bool} (hw : Wd q.1.1) (hs : ∀ x ∈ q.1.2, Wd x) : crB (rwG q) = true := by
  have ws : wordsB (seqA q.2 (q.1.2.map D.str)) = (q.1.2.map D.str).all wordB := by cases q.2 <;> rfl
  show (wordB (.str q.1.1) && wordsB (seqA q.2 (q.1.2.map D.str))) = true
  rw [ws, wordB_wd.mpr hw, List.all_map, Bool.true_and, List.all_eq_true]
  exact fun x m => wordB_wd.mpr (hs x m)
theorem span_good {p : Int × Int} (h : Dy.DP p) : spanB (pD p) = true := by
  show ((decide (0 ≤ p.1) && decide (p.1 ≤ 1000000000)) && (decide (0 ≤ p.2) && decide (p.2 ≤ 1000000000))) = true
  rw [decide_eq_true h.1.1, decide_eq_true h.1.2, decide_eq_true h.2.1, decide_eq_true h.2.2]
  rfl
theorem fin_good {c : Cl} {R : List ((Str × List Str) × Bool)} (h : ∀ q ∈ R, Wd q.1.1 ∧ (∀ x ∈ q.1.2, Wd x) ∧ q.1.2.length ≤ 3) (nd : (R.map fun q => q.1.1).Nodup) (hl : R.length ≤ 7) : FinR c (.lst (R.map rwG)) true := by
  have ok : ∀ d ∈ R.map rwG, Rr28 d := fun d m => by
    obtain ⟨q, mq, rfl⟩ := List.mem_map.mp m
    exact rr_good (h q mq).1 (h q mq).2.1 (h q mq).2.2
  have a : (R.map rwG).all crB = true := by
    rw [List.all_map, List.all_eq_true]
    exact fun q m => cr_good (h q m).1 (h q m).2.1
  obtain ⟨v, f, _⟩ := fin_rows (c := c) (b := true) (fun d m => (ok d m).ok) (fun _ => by rw [List.length_map]; omega) (fun q m hq => by
    have := (ok _ m).g hq q rfl
    omega)
  have e : m_are_carry_rows c (.lst (R.map rwG)) = .ret (.bl true) := by
    have m1 : M.map (fun d => m_is_carry_row c d) (R.map rwG) = .ret ((R.map rwG).map fun d => .bl (crB d)) := map_ok fun d m => (e_crow_any (ok d m).ok).1
    have m2 : M.map (fun y => D.un2 y fun rule rules => M.ret rule) (R.map rwG) = .ret ((R.map fun q => q.1.1).map D.str) := by
      rw [List.map_map]
      exact map_ret2 fun r m => rfl
    have ll := lenSet_any (zs := R.map fun q => q.1.1) (by rw [List.length_map]; omega)
    rw [Cy.disS_of nd, List.length_map] at ll
    have la : D.lenA (.lst (R.map rwG)) = .ret (.int R.length) := by
      show M.ret (D.int ((R.map rwG).length : Nat)) = _
      rw [List.length_map]
    have it : D.isiT c.all [.ty "list", .ty "tuple"] (.lst (R.map rwG)) = .ret (.bl true) := isiT_seq (b := true)
    unfold m_are_carry_rows
    simp only [rb17, it, asB_bl, M.or2, M.not1, Bool.not_true, Bool.false_eq_true, if_false, D.items, m1, M.one, all_map, a, m2, ll, la, deq_int, decide_true]
  have f2 := f.are
  rw [show seqA true (R.map rwG) = .lst (R.map rwG) from rfl, e] at f2
  injection f2 with f2
  injection f2 with f2
  subst f2
  exact f
theorem zip_fst {α β : Type} {g : β → α} : ∀ {ls : List α} {ks : List β}, ks.length = ls.length → (∀ q ∈ ls.zip ks, g q.2 = q.1) → ks.map g = ls
  | [], [], _, _ => rfl
  | x :: ls, y :: ks, hl, h => by
    rw [List.map_cons, h (x, y) (List.mem_cons_self ..), zip_fst (Nat.succ.inj hl) fun q m => h q (List.mem_cons_of_mem _ m)]
theorem v0_ev {c : Cl} {ws : List Str} (hl : ws.length = 4) (hw : ∀ x ∈ ws, Wd x) (nd : ws.Nodup) : wp (v0 c (.lst (ws.map D.str))) fun o => o = .nx () := by
  unfold v0
  simp only [rb17, M.assoc]
  refine wp_take (by decide) (by decide) fun way w0 w1 => ?_
  refine wp_bind.mpr (Dy.w_spans (n := 5) (by decide) (by decide) fun l ll hp => ?_)
  have ll : l.length ≤ 5 := by omega
  refine wp_take (by decide) (by decide) fun t t0 t1 => ?_
  obtain ⟨k, rfl⟩ := Int.eq_ofNat_of_zero_le t0
  have s1 : D.sl (.lst (ws.map D.str)) none (some (k : Int)) = .ret (.lst ((ws.take k).map D.str)) := by
    show M.ret (D.lst (cutG (ws.map D.str) none (some (k : Int)))) = _
    rw [cutG_lo, List.map_take]
  simp only [rb17, asI_int, s1, D.items]
  refine wp_bind.mpr (wp_map_two (f := D.str) (g := rwG) (R := fun w q => q.1.1 = w ∧ (∀ x ∈ q.1.2, Wd x) ∧ q.1.2.length ≤ 3) (fun w mw => ?_) fun R lR hR => ?_)
  · refine wp_bind.mpr (w_mixed (b := true) (by rw [List.length_map]; omega) fun es hle hme => ?_)
    obtain ⟨zs, rfl, hz⟩ : ∃ zs : List Str, es = zs.map D.str ∧ ∀ z ∈ zs, z ∈ ws := by
      have hs : ∀ e ∈ es, ∃ z ∈ ws, e = .str z := fun e m => by
        obtain ⟨z, mz, rfl⟩ := List.mem_map.mp ((hme e).mp m)
        exact ⟨z, mz, rfl⟩
      clear hme hle
      induction es with
      | nil => exact ⟨[], rfl, fun _ m => nomatch m⟩
      | cons e es ih =>
        obtain ⟨z, mz, rfl⟩ := hs e (List.mem_cons_self ..)
        obtain ⟨zs, rfl, hz⟩ := ih fun x m => hs x (List.mem_cons_of_mem _ m)
        refine ⟨z :: zs, rfl, fun y m => ?_⟩
        rcases List.mem_cons.mp m with rfl | m
        · exact mz
        · exact hz y m
    refine wp_take (by decide) (by decide) fun t t0 t1 => ?_
    obtain ⟨j, rfl⟩ := Int.eq_ofNat_of_zero_le t0
    have s2 : D.sl (.lst (zs.map D.str)) none (some (j : Int)) = .ret (.lst ((zs.take j).map D.str)) := by
      show M.ret (D.lst (cutG (zs.map D.str) none (some (j : Int)))) = _
      rw [cutG_lo, List.map_take]
    simp only [rb17, asI_int, s2, tupM2]
    refine ⟨((w, zs.take j), true), rfl, rfl, fun x m => hw x (hz x (List.mem_of_mem_take m)), ?_⟩
    show (zs.take j).length ≤ 3
    rw [List.length_take]
    omega
  · have names : (R.map fun q => q.1.1) = ws.take k := zip_fst lR fun q m => (hR q m).1
    have gR : ∀ q ∈ R, Wd q.1.1 ∧ (∀ x ∈ q.1.2, Wd x) ∧ q.1.2.length ≤ 3 := fun q m => by
      obtain ⟨w, mw, mz⟩ := zip_snd lR q m
      obtain ⟨h1, h2, h3⟩ := hR (w, q) mz
      exact ⟨by rw [h1]; exact hw w (List.mem_of_mem_take mw), h2, h3⟩
    have nR : (R.map fun q => q.1.1).Nodup := by
      rw [names]
      exact (List.take_sublist k ws).nodup nd
    have rl : R.length ≤ 4 := by
      rw [lR, List.length_take]
      omega
    have okl : ∀ d ∈ l.map pD, Sp28 d := fun d m => by
      obtain ⟨p, mp, rfl⟩ := List.mem_map.mp m
      exact sp_pD (hp p mp)
    have okr : ∀ d ∈ R.map rwG, Rr28 d := fun d m => by
      obtain ⟨q, mq, rfl⟩ := List.mem_map.mp m
      exact rr_good (gR q mq).1 (gR q mq).2.1 (gR q mq).2.2
    simp only [rb17, lstM1, M.assoc]
    refine wp_take (by decide) (by decide) fun t t0 t1 => ?_
    simp only [deq_int, rb17, lstM2, M.assoc]
    have wz : way = 0 ∨ way = 1 := by omega
    have tl : ∀ xs : List D, D.toLst (.lst xs) = .ret (.lst xs) := fun _ => rfl
    rcases wz with rfl | rfl
    · have gd : Th c 0 (.lst [.lst (l.map pD)]) true := by
        have f := fin_spans (c := c) (b := true) (fun d m => (okl d m).ok) (by rw [List.length_map]; omega)
        rw [show (l.map pD).all spanB = true from by
          rw [List.all_map, List.all_eq_true]
          exact fun p m => span_good (hp p m)] at f
        exact th0 f ((Fit.lst (l := 7) (fun d m => (okl d m).ft) (by rw [List.length_map]; omega)).mono (by decide) (by decide))
      rw [show D.ix (.lst [.lst [.lst (l.map pD)], .lst [.bl (decide (t = 0)), .lst (R.map rwG)]]) (.int 0) = .ret (.lst [.lst (l.map pD)]) from rfl]
      simp only [rb17, M.one, tl, M.assoc]
      refine wp_take (by decide) (by decide) fun n n0 n1 => ?_
      rw [rng1_ev n0 (by omega), rb17]
      refine wp_bind.mpr (wp_fold (I := fun i s => St0 c i s) 0 ⟨_, rfl, .inl ⟨_, rfl, okl, by rw [List.length_map]; omega⟩⟩ (fun j d s hj hs => ?_) fun s hs => ?_)
      · have hj2 := (List.getElem?_eq_some_iff.mp hj).1
        rw [ints_len] at hj2
        exact w_vs0 (by omega) hs
      · rw [ints_len] at hs
        obtain ⟨x, rfl, hx⟩ := hs
        obtain ⟨v, _, f, ft, _, _⟩ := look0 (show 0 + n.toNat ≤ 2 by omega) hx
        rw [v1_ev (th0 f ft) gd]
        exact rfl
    · have gd : Th c 1 (.lst [.bl (decide (t = 0)), .lst (R.map rwG)]) true := th1 (x := .bl (decide (t = 0))) rfl (Fit.bl.mono (by decide) (by decide)) (fin_good gR nR (by omega)) ((Fit.lst (l := 7) (fun d m => (okr d m).ft) (by rw [List.length_map]; omega)).mono (by decide) (by decide))
      rw [show D.ix (.lst [.lst [.lst (l.map pD)], .lst [.bl (decide (t = 0)), .lst (R.map rwG)]]) (.int 1) = .ret (.lst [.bl (decide (t = 0)), .lst (R.map rwG)]) from rfl]
      simp only [rb17, M.one, tl, M.assoc]
      refine wp_take (by decide) (by decide) fun n n0 n1 => ?_
      rw [rng1_ev n0 (by omega), rb17]
      refine wp_bind.mpr (wp_fold (I := fun i s => St1 c i s) 0 ⟨_, _, rfl, rfl, Fit.bl.mono (by decide) (by decide), .inl ⟨_, rfl, okr, by rw [List.length_map]; omega⟩⟩ (fun j d s hj hs => ?_) fun s hs => ?_)
      · have hj2 := (List.getElem?_eq_some_iff.mp hj).1
        rw [ints_len] at hj2
        exact w_vs1 (by omega) hs
      · rw [ints_len] at hs
        obtain ⟨x, y, rfl, tx, fx, hx⟩ := hs
        obtain ⟨v, _, f, ft, _, _⟩ := look1 (show 0 + n.toNat ≤ 2 by omega) hx
        rw [v1_ev (th1 tx fx f ft) gd]
        exact rfl
theorem main (c : Cl) (_ : c.Carry ∈ c.all) (_ : c.Days ∈ c.all) : wp (m_law c) fun d => d = .bl true := by
  rw [law_eq]
  simp only [M.ret_bind, M.assoc]
  refine wp_bind.mpr (w_labelsN (by decide) (by decide) fun ws hl hw nd => ?_)
  rw [rng1_ev (by decide) (by decide)]
  simp only [M.ret_bind]
  refine wp_bind.mpr (wp_loop (I := fun _ => True) trivial (fun d md s _ => ?_) fun s _ => rfl)
  exact wp_mono (v0_ev (by omega) hw nd) fun o ho => ⟨(), .inl ho, trivial⟩
end K28
namespace K28
open PySem PySem.Spec PyProof.Rows L2 VB
variable {P : Program} {w : World} {K : PySem.W.Frag} {mg : Str → Option Value} {base : Heap} {a : Ad}
theorem facts {P : Program} {w : World} {K : PySem.W.Frag} {h : Heap} {mg : Str → Option Value} {f : Addr} (X : K.In h) (G : h.Ns mainGlobals mg) (hfa : mg ("law" : Str) = some (.ref f)) (c : SaysQ ex fa fn K) :
    ∃ fd : FuncData, (∀ (s : Shared) (v : Value), BindsTo s fd ⟨[v], []⟩ [("_law_script", v)]) ∧ ∀ base : Heap, K.In base → base.Ns mainGlobals mg → FnG P w K mg base CX0 7 f fd ["_law_script"] (spLaw K) := by
  obtain ⟨d0, F0⟩ := c.def_ 0 (d := dq_Wrong_init) rfl
  obtain ⟨d1, F1⟩ := c.def_ 1 (d := dq_is_integer) rfl
  obtain ⟨d2, F2⟩ := c.def_ 2 (d := dq_is_word) rfl
  obtain ⟨d3, F3⟩ := c.def_ 3 (d := dq_is_day) rfl
  obtain ⟨d4, F4⟩ := c.def_ 4 (d := dq_is_carry_row) rfl
  obtain ⟨d5, F5⟩ := c.def_ 5 (d := dq_are_carry_rows) rfl
  obtain ⟨d6, F6⟩ := c.def_ 6 (d := dq_unlisted) rfl
  obtain ⟨d7, F7⟩ := c.def_ 7 (d := dq_Carry_init) rfl
  obtain ⟨d8, F8⟩ := c.def_ 8 (d := dq_Carry_rest) rfl
  obtain ⟨d9, F9⟩ := c.def_ 9 (d := dq_Carry_carried) rfl
  obtain ⟨d10, F10⟩ := c.def_ 10 (d := dq_is_span) rfl
  obtain ⟨d11, F11⟩ := c.def_ 11 (d := dq_fewest_spans) rfl
  obtain ⟨d12, F12⟩ := c.def_ 12 (d := dq_Days_init) rfl
  obtain ⟨d13, F13⟩ := c.def_ 13 (d := dq_Days_contains) rfl
  obtain ⟨d14, F14⟩ := c.def_ 14 (d := dq_law_bag) rfl
  obtain ⟨d15, F15⟩ := c.def_ 15 (d := dq_law_take) rfl
  obtain ⟨d16, F16⟩ := c.def_ 16 (d := dq_law_mixed) rfl
  obtain ⟨d17, F17⟩ := c.def_ 17 (d := dq_law_labels) rfl
  obtain ⟨d18, F18⟩ := c.def_ 18 (d := dq_law_drawn_spans) rfl
  obtain ⟨d19, F19⟩ := c.def_ 19 (d := dq_law_has_day) rfl
  obtain ⟨d20, F20⟩ := c.def_ 20 (d := dq_law_is_day) rfl
  obtain ⟨d21, F21⟩ := c.def_ 21 (d := dq_law_is_word) rfl
  obtain ⟨d22, F22⟩ := c.def_ 22 (d := dq_law_is_span) rfl
  obtain ⟨d23, F23⟩ := c.def_ 23 (d := dq_law_is_row) rfl
  obtain ⟨d24, F24⟩ := c.def_ 24 (d := dq_law_wrong) rfl
  obtain ⟨d25, F25⟩ := c.def_ 25 (d := dq_law_odd) rfl
  obtain ⟨d26, F26⟩ := c.def_ 26 (d := dq_law_odd_span) rfl
  obtain ⟨d27, F27⟩ := c.def_ 27 (d := dq_law_odd_row) rfl
  obtain ⟨d28, F28⟩ := c.def_ 28 (d := dq_law_spoilt) rfl
  obtain ⟨d29, F29⟩ := c.def_ 29 (d := dq_law_tried) rfl
  obtain ⟨d30, F30⟩ := c.def_ 30 (d := dq_law_as_told) rfl
  obtain ⟨d31, F31⟩ := c.def_ 31 (d := dq_law) rfl
  obtain ⟨t0, g0⟩ := He.str_ok X G (c.fact 32 (f := .str "LETTERS" "abcdefghijklmnopqrstuvwxyz") rfl)
  obtain ⟨t1, g1⟩ := He.int_ok X G (c.fact 33 (f := .int "MOST_LETTERS" 8) rfl)
  obtain ⟨t2, g2⟩ := He.int_ok X G (c.fact 34 (f := .int "LAST_DAY" 1000000000) rfl)
  obtain ⟨ds7, vd7, bd7⟩ := F7.binds1 (ps := ["self", "rest", "rows"]) 3 1 (List.cons_ne_nil _ _) rfl fun _ _ _ _ _ _ _ us its hl hi => match us, its, hl, hi with | [_, _, _], [_], _, _ => ⟨_, rfl, rfl⟩
  have ed7 : ds7 = [] := by
    cases vd7
    rfl
  subst ed7
  obtain ⟨ds12, vd12, bd12⟩ := F12.binds1 (ps := ["self", "spans"]) 2 1 (List.cons_ne_nil _ _) rfl fun _ _ _ _ _ _ _ us its hl hi => match us, its, hl, hi with | [_, _], [_], _, _ => ⟨_, rfl, rfl⟩
  have ed12 : ds12 = [] := by
    cases vd12
    rfl
  subst ed12
  have ef := hfa.symm.trans (He.glo_ok X G (c.fact 25 (f := .glo "law") rfl))
  cases ef
  let a : Ad := ⟨{ all := [He.ga K "Carry", He.ga K "Days"], Bag := 0, Store := 0, Question := 0, Book := 0, Carry := He.ga K "Carry", Days := He.ga K "Days", Desk := 0, VouchError := He.ga K "VouchError", Wrong := He.ga K "Wrong", TooMany := He.ga K "TooMany", Unfit := He.ga K "Unfit", NoDeed := 0, Unknown := 0, Taken := 0, Nothing := 0, Broken := 0, NoText := 0, NoCommand := 0, Archive := 0, Limits := 0, Paper := 0, Anchor := 0, Notice := 0, Piece := 0, Setting := 0, Pledge := 0, Region := 0, State := 0, w := w }, atM "Wrong" "__init__" K, d0, atG "is_integer" K, d1, atG "is_word" K, d2, atG "is_day" K, d3, atG "is_carry_row" K, d4, atG "are_carry_rows" K, d5, atG "unlisted" K, d6, atM "Carry" "__init__" K, d7, atP "Carry" "rest" K, d8, atM "Carry" "carried" K, d9, atG "is_span" K, d10, atG "fewest_spans" K, d11, atM "Days" "__init__" K, d12, atM "Days" "__contains__" K, d13, atG "_law_bag" K, d14, atG "_law_take" K, d15, atG "_law_mixed" K, d16, atG "_law_labels" K, d17, atG "_law_drawn_spans" K, d18, atG "_law_has_day" K, d19, atG "_law_is_day" K, d20, atG "_law_is_word" K, d21, atG "_law_is_span" K, d22, atG "_law_is_row" K, d23, atG "_law_wrong" K, d24, atG "_law_odd" K, d25, atG "_law_odd_span" K, d26, atG "_law_odd_row" K, d27, atG "_law_spoilt" K, d28, atG "_law_tried" K, d29, atG "_law_as_told" K, d30, atG "law" K, d31, He.ma K (He.ga K "Carry") "rest", He.dflAt ("Carry", some "__init__") 0 K, He.dflAt ("Days", some "__init__") 0 K, t0, t1, t2⟩
  have kc0 : VB.KC K a.c.all := clB_ok (c.ext 0 (f := clB ["Carry", "Days"]) rfl)
  have T0 : Tx0 w K mg a := ⟨F0,
    F0.bindsN fun _ _ _ _ _ _ us hl => match us, hl with | [_, _], _ => rfl,
    F1,
    He.glo_ok X G (c.fact 0 (f := .glo "is_integer") rfl),
    F1.kp,
    F1.bindsN fun _ _ _ _ _ _ us hl => match us, hl with | [_], _ => rfl,
    F2,
    He.glo_ok X G (c.fact 1 (f := .glo "is_word") rfl),
    F2.kp,
    F2.bindsN fun _ _ _ _ _ _ us hl => match us, hl with | [_], _ => rfl,
    F3,
    He.glo_ok X G (c.fact 2 (f := .glo "is_day") rfl),
    F3.kp,
    F3.bindsN fun _ _ _ _ _ _ us hl => match us, hl with | [_], _ => rfl,
    F4,
    He.glo_ok X G (c.fact 3 (f := .glo "is_carry_row") rfl),
    F4.kp,
    F4.bindsN fun _ _ _ _ _ _ us hl => match us, hl with | [_], _ => rfl,
    F5,
    He.glo_ok X G (c.fact 4 (f := .glo "are_carry_rows") rfl),
    F5.kp,
    F5.bindsN fun _ _ _ _ _ _ us hl => match us, hl with | [_], _ => rfl,
    F6,
    He.glo_ok X G (c.fact 5 (f := .glo "unlisted") rfl),
    F6.kp,
    F6.bindsN fun _ _ _ _ _ _ us hl => match us, hl with | [_, _], _ => rfl,
    F7,
    bd7,
    F8,
    F8.bindsN fun _ _ _ _ _ _ us hl => match us, hl with | [_], _ => rfl,
    F9,
    F9.bindsN fun _ _ _ _ _ _ us hl => match us, hl with | [_, _], _ => rfl,
    F10,
    He.glo_ok X G (c.fact 6 (f := .glo "is_span") rfl),
    F10.kp,
    F10.bindsN fun _ _ _ _ _ _ us hl => match us, hl with | [_], _ => rfl,
    F11,
    He.glo_ok X G (c.fact 7 (f := .glo "fewest_spans") rfl),
    F11.kp,
    F11.bindsN fun _ _ _ _ _ _ us hl => match us, hl with | [_], _ => rfl,
    F12,
    bd12,
    F13,
    F13.bindsN fun _ _ _ _ _ _ us hl => match us, hl with | [_, _], _ => rfl,
    F14,
    He.glo_ok X G (c.fact 8 (f := .glo "_law_bag") rfl),
    F14.kp,
    F14.bindsN fun _ _ _ _ _ _ us hl => match us, hl with | [_], _ => rfl,
    F15,
    He.glo_ok X G (c.fact 9 (f := .glo "_law_take") rfl)⟩
  have T1 : Tx1 w K mg a := ⟨F15.kp,
    F15.bindsN fun _ _ _ _ _ _ us hl => match us, hl with | [_, _], _ => rfl,
    F16,
    He.glo_ok X G (c.fact 10 (f := .glo "_law_mixed") rfl),
    F16.kp,
    F16.bindsN fun _ _ _ _ _ _ us hl => match us, hl with | [_, _], _ => rfl,
    F17,
    He.glo_ok X G (c.fact 11 (f := .glo "_law_labels") rfl),
    F17.kp,
    F17.bindsN fun _ _ _ _ _ _ us hl => match us, hl with | [_, _], _ => rfl,
    F18,
    He.glo_ok X G (c.fact 12 (f := .glo "_law_drawn_spans") rfl),
    F18.kp,
    F18.bindsN fun _ _ _ _ _ _ us hl => match us, hl with | [_, _], _ => rfl,
    F19,
    He.glo_ok X G (c.fact 13 (f := .glo "_law_has_day") rfl),
    F19.kp,
    F19.bindsN fun _ _ _ _ _ _ us hl => match us, hl with | [_, _], _ => rfl,
    F20,
    He.glo_ok X G (c.fact 14 (f := .glo "_law_is_day") rfl),
    F20.kp,
    F20.bindsN fun _ _ _ _ _ _ us hl => match us, hl with | [_], _ => rfl,
    F21,
    He.glo_ok X G (c.fact 15 (f := .glo "_law_is_word") rfl),
    F21.kp,
    F21.bindsN fun _ _ _ _ _ _ us hl => match us, hl with | [_], _ => rfl,
    F22,
    He.glo_ok X G (c.fact 16 (f := .glo "_law_is_span") rfl),
    F22.kp,
    F22.bindsN fun _ _ _ _ _ _ us hl => match us, hl with | [_], _ => rfl,
    F23,
    He.glo_ok X G (c.fact 17 (f := .glo "_law_is_row") rfl),
    F23.kp,
    F23.bindsN fun _ _ _ _ _ _ us hl => match us, hl with | [_], _ => rfl,
    F24,
    He.glo_ok X G (c.fact 18 (f := .glo "_law_wrong") rfl),
    F24.kp,
    F24.bindsN fun _ _ _ _ _ _ us hl => match us, hl with | [_, _], _ => rfl,
    F25,
    He.glo_ok X G (c.fact 19 (f := .glo "_law_odd") rfl),
    F25.kp,
    F25.bindsN fun _ _ _ _ _ _ us hl => match us, hl with | [_], _ => rfl,
    F26,
    He.glo_ok X G (c.fact 20 (f := .glo "_law_odd_span") rfl),
    F26.kp,
    F26.bindsN fun _ _ _ _ _ _ us hl => match us, hl with | [_, _], _ => rfl,
    F27,
    He.glo_ok X G (c.fact 21 (f := .glo "_law_odd_row") rfl),
    F27.kp,
    F27.bindsN fun _ _ _ _ _ _ us hl => match us, hl with | [_, _], _ => rfl⟩
  have T2 : Tx2 w K mg a := ⟨F28,
    He.glo_ok X G (c.fact 22 (f := .glo "_law_spoilt") rfl),
    F28.kp,
    F28.bindsN fun _ _ _ _ _ _ us hl => match us, hl with | [_, _, _], _ => rfl,
    F29,
    He.glo_ok X G (c.fact 23 (f := .glo "_law_tried") rfl),
    F29.kp,
    F29.bindsN fun _ _ _ _ _ _ us hl => match us, hl with | [_, _], _ => rfl,
    F30,
    He.glo_ok X G (c.fact 24 (f := .glo "_law_as_told") rfl),
    F30.kp,
    F30.bindsN fun _ _ _ _ _ _ us hl => match us, hl with | [_, _, _, _], _ => rfl,
    F31,
    He.glo_ok X G (c.fact 25 (f := .glo "law") rfl),
    F31.kp,
    F31.bindsN fun _ _ _ _ _ _ us hl => match us, hl with | [_], _ => rfl,
    etB_ok (c.ext 2 (f := etB ("Carry", some "__init__") 0) rfl),
    etB_ok (c.ext 3 (f := etB ("Days", some "__init__") 0) rfl),
    kc0,
    rfl,
    .head _,
    kc0.cls _ (.head _),
    .tail _ (.head _),
    kc0.cls _ (.tail _ (.head _)),
    He.glo_ok X G (c.fact 26 (f := .glo "Carry") rfl),
    He.glo_ok X G (c.fact 27 (f := .glo "Days") rfl),
    He.glo_ok X G (c.fact 28 (f := .glo "TooMany") rfl),
    He.glo_ok X G (c.fact 29 (f := .glo "Unfit") rfl),
    He.glo_ok X G (c.fact 30 (f := .glo "VouchError") rfl),
    He.glo_ok X G (c.fact 31 (f := .glo "Wrong") rfl),
    He.noat_ok (c.fact 53 (f := .noat "Carry" "kept_rest") rfl),
    He.noat_ok (c.fact 54 (f := .noat "Carry" "kept_rules") rfl),
    He.noat_ok (c.fact 55 (f := .noat "Days" "kept_spans") rfl),
    He.meth_ok (c.fact 56 (f := .meth "Carry" "carried") rfl),
    He.meth_ok (c.fact 57 (f := .meth "Days" "__contains__") rfl),
    propB_ok (c.ext 1 (f := propB "Carry" "rest") rfl),
    He.mkr_ok (c.fact 58 (f := .mkr "Carry") rfl),
    He.mkr_ok (c.fact 59 (f := .mkr "Days") rfl),
    g0,
    g1,
    g2,
    He.free_ok X G (c.fact 35 (f := .free "abs") rfl),
    He.free_ok X G (c.fact 36 (f := .free "all") rfl),
    He.free_ok X G (c.fact 37 (f := .free "any") rfl),
    He.free_ok X G (c.fact 38 (f := .free "bool") rfl),
    He.free_ok X G (c.fact 39 (f := .free "dict") rfl),
    He.free_ok X G (c.fact 40 (f := .free "enumerate") rfl),
    He.free_ok X G (c.fact 41 (f := .free "int") rfl),
    He.free_ok X G (c.fact 42 (f := .free "isinstance") rfl),
    He.free_ok X G (c.fact 43 (f := .free "len") rfl)⟩
  have T3 : Tx3 w K mg a := ⟨He.free_ok X G (c.fact 44 (f := .free "list") rfl),
    He.free_ok X G (c.fact 45 (f := .free "max") rfl),
    He.free_ok X G (c.fact 46 (f := .free "min") rfl),
    He.free_ok X G (c.fact 47 (f := .free "range") rfl),
    He.free_ok X G (c.fact 48 (f := .free "repr") rfl),
    He.free_ok X G (c.fact 49 (f := .free "set") rfl),
    He.free_ok X G (c.fact 50 (f := .free "sorted") rfl),
    He.free_ok X G (c.fact 51 (f := .free "str") rfl),
    He.free_ok X G (c.fact 52 (f := .free "tuple") rfl),
    c.all.1,
    erB_ok (c.ext 4 (f := erB "Wrong" "place") rfl),
    veB_ok (c.ext 5 (f := veB "VouchError") rfl),
    kiB_ok (c.ext 6 (f := kiB "Wrong" "VouchError" true) rfl),
    kaB_ok (c.ext 7 (f := kaB "Wrong" ["TooMany", "Unfit"] false) rfl)⟩
  have T : Tx w K mg a := ⟨T0, T1, T2, T3⟩
  have bl := FunD.bindsA (ps := ["_law_script"]) F31 fun _ _ _ _ _ _ us hl => match us, hl with | [_], _ => rfl
  exact ⟨d31, fun s v => bl s [v] rfl, fun _ _ _ => ok_law T (main a.c (T.i_Carry) (T.i_Days))⟩
end K28
open PySem PySem.W PySem.Calls PyProof.Rows
set_option maxRecDepth 100000 in
set_option maxHeartbeats 0 in
theorem PySem.Challenge.cw_vouchchains_k28_days_and_carries_refused_holds : PySem.Challenge.rw_vouchchains_k28_days_and_carries_refused.Holds := by
  refine K28.law0 fun said => ?_
  refine HandSHeadRun.head_any (r := OpenLaw.row PySem.Challenge.rw_vouchchains_k28_days_and_carries_refused) (q := view (OpenLaw.row PySem.Challenge.rw_vouchchains_k28_days_and_carries_refused).prog [41]) (H := K28.hk) (ob := K28.ob) (M := 20000) (loose := (["_wall", "VouchError", "Wrong", "TooMany", "Unfit", "LETTERS", "MOST_LETTERS", "LAST_DAY", "is_integer", "is_word", "is_day", "is_carry_row", "are_carry_rows", "unlisted", "Carry", "listed_rules", "is_span", "fewest_spans", "Days", "_law_bag", "_law_take", "_law_mixed", "_law_labels", "_law_drawn_spans", "_law_has_day", "_law_is_day", "_law_is_word", "_law_is_span", "_law_is_row", "_law_wrong"] : List Str) ++ (["_law_odd", "_law_odd_span", "_law_odd_row", "_law_spoilt", "_law_tried", "_law_as_told"] : List Str)) (d := HandSHeadRun.topDef (OpenLaw.row PySem.Challenge.rw_vouchchains_k28_days_and_carries_refused).prog 41) (kwd := []) K28.ob_eq
    (by kernel_rfl) (fun s => by kernel_rfl) K28.run (by kernel_rfl) (by kernel_rfl) (by kernel_rfl) (by rfl) (by first | assumption | decide +kernel) (by decide +kernel) ⟨rfl, rfl, rfl, rfl, rfl, by decide +kernel⟩ ?hw ?hc
  case hw => w_witness2
  case hc =>
    refine VB.walk_G (l := PySem.Challenge.rw_vouchchains_k28_days_and_carries_refused) (n := 63) (k := 7) (x := "_law_script") (CX := L2.CX0) rfl (by decide) (by kernel_rfl) ⟨rfl, by decide, by decide⟩ ?F (fun _ _ _ _ z => z)
    intro w mg fa h Y G hmg0
    obtain ⟨K, KX, c⟩ := Y
    have hmg : mg ("law" : PySem.Str) = some (.ref fa) := by
      have e : (HandSHeadRun.topDef (OpenLaw.row PySem.Challenge.rw_vouchchains_k28_days_and_carries_refused).prog 41).name = ("law" : PySem.Str) := by kernel_rfl
      rw [← e]
      exact hmg0
    obtain ⟨fd, hb, hF⟩ := K28.facts (P := (PySem.Challenge.rw_vouchchains_k28_days_and_carries_refused).prog) (w := w) KX G hmg c
    exact ⟨K, fd, VB.spLaw K, KX, hb, fun H a ns hl hO hS => VB.law_start hl hO hS, hF⟩
