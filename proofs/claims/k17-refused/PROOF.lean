import PyProof.Rows.All
import Wide.All
import OpenK.AllK
import Wide.FinOn
import HandS.ForMost
import HandS.ForExc
import HandS.Wide
import HandS.TupAny
import HandS.IsInst
import HandS.Style
import HandS.Flow
import HandS.Walk
import HandS.Evl
import HandS.Defaults
import HandS.Head0
import HandS.Head1
import HandS.Head2
import HandS.HeadEnd
import HandS.HeadHook1
import HandS.HeadHook2
import PyProof.DictKeyH
import KE.KDictKeyed
import HandS.More
import HandS.Strs
import HandS.Set
import HandS.SetFor
import PyProof.FactsAll.subtypes_4
import PyProof.Rows.SetFrom
import HandS.Property
import HandS.TupMul
import HandS.Deep
import HandS.Comp
import HandS.SlotsOwn
import PyProof.P3Eq
import HandS.FStr
import HandS.SortRule
import HandS.SortInts
import HandS.DictTup
import HandS.DictComp
import KE.SortData
import HandS.Small
import HandS.TupLen
import HandS.Conv
import HandS.Iter
import PyProof.EqKinds
import PyProof.TupleOfSeq
import HandS.ClsMeth
import HandS.MakeKwOnly
import HandS.HeadNt
import HandS.DictEq
import HandS.NoneIn
import HandS.ExcInit
import KE.KExcIs
import HandS.ExcField
import HandS.ExcIs
import HandS.Exc
import PyProof.CallStr
import PySem.Challenge.RW_vouchchains_k17_refused
import HandS.TupSets
import PyProof.DictFindH
import PyProof.DictRoadsH
import KE.KDictSum
import HandS.Star
import KE.KDictPairs
import KE.DataMinMax
import PyProof.DictUpdate
import PyProof.ReprHeadsTuple
import HandS.Zip
import KE.KDictWalk
import KE.KDictCopyH
import HandS.SetBool
import HandS.SortKw
import HandS.ExcValue
set_option Elab.async false
set_option linter.all false
set_option maxRecDepth 100000
set_option maxHeartbeats 4000000
namespace VB
open PySem PySem.Spec PyProof.Rows L2
def bagSh : HO → Bool
  | .lst [.int _, .int _, .int _, .ref _] => true
  | _ => false
def bagO (z s i : Int) (c : Addr) : HO := .lst [.int z, .int s, .int i, .ref c]
def BagV (z s i : Int) : Prop := 0 ≤ z ∧ 0 ≤ s ∧ s < 2147483647 ∧ 0 ≤ i
structure Gr (H H' : Hp) : Prop where
  keep : ∀ a o, H a = some o → bagSh o = false → H' a = some o
  bag : ∀ b z s i c, H b = some (bagO z s i c) → BagV z s i → ∃ z' s' i', H' b = some (bagO z' s' i' c) ∧ BagV z' s' i'
  free : ∀ a, H' a = none → H a = none
theorem Gr.refl (H : Hp) : Gr H H := ⟨fun _ _ e _ => e, fun _ z s i _ e v => ⟨z, s, i, e, v⟩, fun _ e => e⟩
theorem Gr.trans {H H1 H2 : Hp} (a : Gr H H1) (b : Gr H1 H2) : Gr H H2 :=
  ⟨fun x o e n => b.keep x o (a.keep x o e n) n, fun x z s i c e v => by
    obtain ⟨z1, s1, i1, e1, v1⟩ := a.bag x z s i c e v
    exact b.bag x z1 s1 i1 c e1 v1, fun x e => a.free x (b.free x e)⟩
theorem Gr.same {H H' : Hp} (h : ∀ a o, H a = some o → H' a = some o) : Gr H H' :=
  ⟨fun a o e _ => h a o e, fun _ z s i _ e v => ⟨z, s, i, h _ _ e, v⟩, fun a e => by
    cases q : H a with
    | none => rfl
    | some o =>
      have := h a o q
      rw [e] at this
      cases this⟩
theorem Gr.new {H : Hp} {p : Addr} {o : HO} (n : H p = none) : Gr H (upd H p o) := Gr.same fun a u e => by
  rw [upd_ne (ne_of_none e n)]
  exact e
/-- what H0 does not know may change -/
theorem Gr.mut {H0 H : Hp} {p : Addr} {o : HO} (g : Gr H0 H) (n : H0 p = none) : Gr H0 (upd H p o) :=
  ⟨fun a u e nb => by
    rw [upd_ne (ne_of_none e n)]
    exact g.keep a u e nb, fun b z s i c e v => by
    obtain ⟨z1, s1, i1, e1, v1⟩ := g.bag b z s i c e v
    refine ⟨z1, s1, i1, ?_, v1⟩
    rw [upd_ne (ne_of_none e n)]
    exact e1, fun a e => by
    by_cases h : a = p
    · rw [h]
      exact n
    · rw [upd_ne h] at e
      exact g.free a e⟩
theorem Gr.tup {K : PySem.W.Frag} {H H' : Hp} {a : Addr} {xs : List V} (g : Gr H H') (h : SqT K H a xs) : SqT K H' a xs := by
  rcases h with (h | ⟨o, h⟩) | h
  · exact .inl (.inl (g.keep _ _ h rfl))
  · exact .inl (.inr ⟨o, g.keep _ _ h rfl⟩)
  · exact .inr h
theorem Gr.lst {K : PySem.W.Frag} {H H' : Hp} {a : Addr} {xs : List V} (g : Gr H H') (n : bagSh (.lst xs) = false) (h : SqL K H a xs) : SqL K H' a xs := by
  rcases h with (h | ⟨o, h⟩) | h
  · exact .inl (.inl (g.keep _ _ h n))
  · exact .inl (.inr ⟨o, g.keep _ _ h rfl⟩)
  · exact .inr h
section
variable {X : Cx}
/-- xs[k] read for xs[k] op= e -/
def rGetL : V → V → Hp → VK → Prop := fun o i H Q => ∃ (p : Addr) (xs : List V) (k : Int) (v : V), o = .ref p ∧ i = .int k ∧ 0 ≤ k ∧ k < 2 ^ 63 ∧ H p = some (.lst xs) ∧ xs[k.toNat]? = some v ∧ Q v H
theorem get_list : PGet X rGetL := by
  intro pins s σ H o i ov iv Q I ro ri h
  obtain ⟨p, xs, k, v, rfl, rfl, k0, k1, hp, hv, q⟩ := h
  cases ro
  obtain ⟨t, rfl⟩ := ri
  obtain ⟨its, r, pl, _⟩ := I.list (SqL.of hp)
  obtain ⟨w, ew, rw'⟩ := r.get hv
  exact wpAny_getItem_list pl.isList k0 k1 (by simpa using ew) ⟨v, H, I, rw', q⟩
/-- s * n, a text some times -/
def rMulS : R2 := fun x y H Q => ∃ (z : Str) (k : Int), x = .str z ∧ y = .int k ∧ 0 ≤ k ∧ k ≤ 5000 ∧ z.length ≤ 1000 ∧ Q (.str (Txt.mul z k)) H
theorem op_mul_str : OpR X (binaryOp .Mult) rMulS := by
  intro pins s σ H x y v u Q I rx ry h
  obtain ⟨z, k, rfl, rfl, h0, h1, h2, q⟩ := h
  obtain ⟨t, rfl⟩ := rx
  obtain ⟨t', rfl⟩ := ry
  refine SB.mul ⟨?_, fun _ _ => ?_, fun _ _ => ?_⟩ fun t2 k2 => ⟨.str _, H, I.tok _, ⟨_, rfl⟩, q⟩
  · rw [decide_eq_false (by omega), decide_eq_false (by omega)]
    rfl
  · have hk : 0 < k := by omega
    have : (1000 : Int) ≤ (2 ^ 63 - 1) / k := by
      rw [Int.le_ediv_iff_mul_le hk]
      omega
    omega
  · unfold Builtin.Str.tooLong
    have h3 : z.length * k.toNat ≤ 1000 * 5000 := Nat.mul_le_mul h2 (by omega)
    have e : sizeLine = 16777216 := by decide
    simp only [decide_eq_false_iff_not]
    omega
end
section
variable {X : Cx} {K : PySem.W.Frag} {pos : Pos}
theorem kIxL (h : X.K = K) : IxR X (rIxL K) := h ▸ ix_list
theorem kSlL (h : X.K = K) : SlR X (rSlL K) := h ▸ sl_list
def rLenK (K : PySem.W.Frag) : List V → Hp → VK → Prop := fun xs H Q => ∃ x n, xs = [x] ∧ LenV K x H n ∧ Q (.int (n : Nat)) H
theorem kLen (h : X.K = K) : CallR X (.builtin "len") (rLenK K) := h ▸ call_len
theorem kIsi (h : X.K = K) : CallR X (.builtin "isinstance") (rIsi K) := h ▸ call_isi
theorem kAll (h : X.K = K) (hc : X.calm = true) : CallR X (.builtin "all") (rAll K) := h ▸ cr_all hc
def rTupK (K : PySem.W.Frag) : List V → Hp → VK → Prop := fun xs H Q => ∃ p ys, xs = [.ref p] ∧ ((SqL K H p ys ∧ ∀ l, H l = none → Q (.ref l) (upd H l (.tup ys))) ∨ (SqT K H p ys ∧ Q (.ref p) H))
theorem kTup (h : X.K = K) : CallR X (.type "tuple") (rTupK K) := h ▸ call_tuple_of
def rLstK (K : PySem.W.Frag) : List V → Hp → VK → Prop := fun xs H Q => ∃ p ys, xs = [.ref p] ∧ (SqL K H p ys ∨ SqT K H p ys) ∧ ∀ l, H l = none → Q (.ref l) (upd H l (.lst ys))
theorem kPiL {tg l : Expr} {tl : TE} (h : X.K = K) (hl : PE X l tl) : PI X tg l (iList K tl) := h ▸ pi_list hl
def rJoinK (K : PySem.W.Frag) : V → List V → Hp → VK → Prop := fun x xs H Q => ∃ a p, ∃ ys : List Str, x = .str a ∧ xs = [.ref p] ∧ (SqL K H p (ys.map V.str) ∨ SqT K H p (ys.map V.str)) ∧ (ys.map (·.length)).sum + ys.length * a.length ≤ 16777216 ∧ Q (.str (Txt.join a ys)) H
def rSplitK : V → List V → Hp → VK → Prop := fun x xs H Q => ∃ a b, x = .str a ∧ xs = [.str b] ∧ (b.length == 0) = false ∧ a.length + 2 ≤ sizeLine ∧ rNewStrs (Txt.split a b) H Q
theorem kJoin {o e : Expr} {to te : TE} {apos pos : Pos} (h : X.K = K) (ho : PE X o to) (he : PE X e te) (hs : starEach [e] X.env = [(false, eval e X.env)] := by rfl) (hb : attributeBase o "join" X.env (eval o X.env) = eval o X.env := by rfl) (hl : (apos.endLine == pos.line) = true := by rfl) :
    PE X (.Call (.Attribute o "join" apos) [e] [] pos) (tM1 (rJoinK K) to te) := h ▸ pe_join ho he hs hb hl
theorem kSplit {o e : Expr} {to te : TE} {apos pos : Pos} (ho : PE X o to) (he : PE X e te) (hs : starEach [e] X.env = [(false, eval e X.env)] := by rfl) (hb : attributeBase o "split" X.env (eval o X.env) = eval o X.env := by rfl) (hl : (apos.endLine == pos.line) = true := by rfl) :
    PE X (.Call (.Attribute o "split" apos) [e] [] pos) (tM1 rSplitK to te) := pe_split ho he hs hb hl
theorem kTg {es : List Expr} {k n : Nat} {t : TGs} (h : X.K = K) (hc : X.calm = true) (hp : PGs X es t) (hn : (assignEach es X.env).length = n := by rfl) (hst : (assignEach es X.env).findIdx? (·.1) = none := by rfl) : PG X (.Tuple es k pos) (gTup K n t) := h ▸ pg_tup hc hp hn hst
theorem kLst (h : X.K = K) : CallR X (.type "list") (rLstK K) := h ▸ call_list_of
end
structure FnG (P : Program) (w : World) (K : PySem.W.Frag) (mg : Str → Option Value) (base : Heap) (CX : CXT) (k : Nat) (f : Addr) (fd : FuncData) (ps : List Str) (sp : Sp) : Prop where
  len : ∀ vs H Q E, sp vs H Q E → List.length vs = List.length ps
  run : ∀ A outer s H args us vs Q E, A.guards = some [] → Room k A → Env0 P w K mg base A outer s H → BindsTo s fd args (ps.zip us) → Vals vs us → sp vs H Q E →
      codeAny (model P w) A (.call (.ref f) args) (CR CX outer P w H s Q E) s
section
variable {P : Program} {w : World} {K : PySem.W.Frag} {mg : Str → Option Value} {base : Heap} {CX : CXT} {f : Addr} {fd : FuncData} {ps : List Str} {k : Nat} {sp : Sp}
theorem FnG.of (F : FnOk P w K mg base CX k f fd ps sp) : FnG P w K mg base CX k f fd ps sp :=
  ⟨F.len, fun A outer s H args us vs Q E _ => F.run A outer s H args us vs Q E⟩
theorem FnG.mono {j : Nat} (F : FnG P w K mg base CX k f fd ps sp) (h : k ≤ j) : FnG P w K mg base CX j f fd ps sp :=
  ⟨F.len, fun A outer s H args us vs Q E g r => F.run A outer s H args us vs Q E g (r.mono h)⟩
/-- the body's rule -/
theorem okG {x qual : Str} {pa : Arguments} {body : List Stmt} {sc : Scope} {dvs : List V} {kws : List (Str × V)} {N : List Str} (F : FunD K x qual pa body sc dvs kws f fd) (S : FnScope N ps sc) (len : ∀ vs H Q E, sp vs H Q E → List.length vs = List.length ps)
    (hb : ∀ (cdv : Value) (A : Around) (outer : List Env) (s : Shared) (H : Hp) (vs : List V) (Q : VK) (E : XK), A.guards = some [] → Room k (A.deeper (envOfC qual sc s.heap.objs.size f cdv)) → sp vs H Q E →
      ∃ t, PSs (cxOf CX P w K mg base N qual sc f cdv A outer s H E) body t ∧ t ⟨fun _ H' => Q .non H', Q, fun _ _ => False, fun _ _ => False⟩ (start N vs) H) : FnG P w K mg base CX (k + 1) f fd ps sp := by
  obtain ⟨oc, od, dV, kV, doc, pm, an, cdv, ct, osl, rfl, lk, hcd, _⟩ := F.ex
  refine ⟨len, fun A outer s H args us vs Q E hg hr e0 hbi rv hs => ?_⟩
  have inK : K.In s.heap := e0.mod.kin.keeps fun b o e => (e0.bs b o e).1
  have lim : s.heap.NoLimit := e0.mod.nolimit.keeps fun b o e => (e0.bs b o e).1
  refine codeAny_call_function hr.depth (inK _ _ lk) rfl S.co S.gen rfl (PySem.W.codeRec_of inK hcd) (hbi _ _ _ _ ?_)
  refine wpAny_newFunctionEnv_cells S.kind (fun y hy => ?_) fun env he s1 x1 => ?_
  · rcases S.par y.1 (List.of_mem_zip hy).1 with q | q
    · exact Or.inl q
    · exact Or.inr ⟨q, PySem.W.cellsFrom_some _ _ _ (Or.inl q)⟩
  · subst he
    refine ⟨lim.keeps x1.toInCall.keep, codeAny_func ?_⟩
    obtain ⟨t, ht, hq⟩ := hb cdv A outer s H vs Q E hg (hr.deeper _) hs
    refine wpAny_mono (ht.run [] s1 _ H _ (inv_start S hr.hd e0 (len vs H Q E hs) rv x1) hq) (fun fl s' hf => ?_) fun _ _ hf => hf
    match fl, hf with
    | .ret u, ⟨v, σ', H', J, r2, q⟩ => exact ⟨v, H', J.os, J.bare, J.base, J.hok, r2, q⟩
    | .next, ⟨σ', H', J, q⟩ => exact ⟨V.non, H', J.os, J.bare, J.base, J.hok, rfl, q⟩
    | .brk, ⟨_, _, _, q⟩ => exact q.elim
    | .cont, ⟨_, _, _, q⟩ => exact q.elim
end
theorem law_G {P : Program} {w : World} {K : PySem.W.Frag} {mg mb : Str → Option Value} {CX : CXT} {k : Nat} {fa a : Addr} {fd : FuncData} {x : Str} {sp : Sp} {s1 : Shared} {vs : List Value} {ns : List Int}
    (KX : K.In s1.heap) (hns : s1.heap.Ns mainGlobals mg) (hb : s1.heap.Ns builtinsNs mb) (hbb : ∀ x : Str, x ≠ "__name__" → mb x = bootBuiltins x) (hlim : s1.heap.NoLimit) (hg : s1.gens = #[])
    (ha : s1.heap.get? a = some { cls := .type "list", data := .seq vs.toArray }) (hi : IntsAre vs ns) (hl : ns.length ≤ sizeLine) (hr : Room k callerA)
    (F : ∀ base : Heap, K.In base → base.Ns mainGlobals mg → FnG P w K mg base CX k fa fd [x] sp) (hbind : ∀ (s : Shared) (u : Value), BindsTo s fd ⟨[u], []⟩ [(x, u)])
    (hsp : ∀ H : Hp, Only H → SqL K H a (ns.map V.int) → sp [.ref a] H (fun v _ => v = .bl true) fun _ _ _ => False)
    (hCX : ∀ H e s', CX [] H s1 (fun _ _ _ => False) e s' → False) :
    codeAny (model P w) callerA (.call (.ref fa) ⟨[.ref a], []⟩) (fun r s' => r = .ok (.ret (.bool true)) ∧ OldK s1.heap s'.heap ∧ s'.os = s1.os ∧ AllBare s'.gens) s1 := by
  have vi := vals_ints hi
  have go : ∀ H : Hp, Only H → SqL K H a (ns.map V.int) → HOk P w H s1.heap → (∀ b, H b ≠ none → b = a) → (H a ≠ none → K.lookup a = none) →
      codeAny (model P w) callerA (.call (.ref fa) ⟨[.ref a], []⟩) (fun r s' => r = .ok (.ret (.bool true)) ∧ OldK s1.heap s'.heap ∧ s'.os = s1.os ∧ AllBare s'.gens) s1 := by
    intro H hO hS hok only kno
    -- what is a dict of names is not tracked
    have keepNs : ∀ {b : Addr} {m : Str → Option Value}, s1.heap.Ns b m → (hidT s1.heap H).Ns b m := fun {b m} ⟨o, es, ep, e, d, r⟩ => by
      refine ⟨o, es, ep, hidT_get e ?_, d, r⟩
      cases hq : H b with
      | none => rfl
      | some u =>
        have hba := only b (by rw [hq]; exact Option.some_ne_none u)
        rw [hba, ha] at e
        have := Option.some.inj e
        rw [← this] at d
        cases d
    have kin2 : K.In (hidT s1.heap H) := fun b o e => hidT_get (KX b o e) (by
      cases hq : H b with
      | none => rfl
      | some u =>
        have hba := only b (by rw [hq]; exact Option.some_ne_none u)
        rw [hba] at e hq
        rw [kno (by rw [hq]; exact Option.some_ne_none u)] at e
        cases e)
    obtain ⟨mc, l1, l2⟩ := hlim
    have md : Mod K mg (hidT s1.heap H) := ⟨kin2, keepNs hns, ⟨mb, keepNs hb, hbb⟩, ⟨mc, keepNs l1, l2⟩⟩
    have nomem : ∀ {b : Addr}, b ∉ frs [] := fun {b} z => by
      have z2 : b ∈ ([] : List Addr) := z
      cases z2
    have en : Env0 P w K mg (hidT s1.heap H) callerA [] s1 H :=
      { frames := rfl, mod := md, bs := fun b o e => of_hidT e, bsz := Nat.le_of_eq (hidT_size _ _), funs := trivial, frf := fun b z => (nomem z).elim, hok := hok, bare := AllBare.of_eq hg }
    refine codeAny_mono ((F _ kin2 (keepNs hns)).run callerA [] s1 H ⟨[.ref a], []⟩ [.ref a] [.ref a] _ _ rfl hr en (hbind s1 (.ref a)) (.cons rfl .nil) (hsp H hO hS)) fun r s' h => ?_
    match r, h with
    | .error e, h => exact (hCX H e s' h).elim
    | .ok .next, h => exact False.elim h
    | .ok .brk, h => exact False.elim h
    | .ok .cont, h => exact False.elim h
    | .ok (.ret u), ⟨v, H', os, bare, un, hok', r', q⟩ =>
      have q' : v = .bl true := q
      subst q'
      have r2 : u = Value.bool true := r'
      subst r2
      refine ⟨rfl, OldK.of_keep fun b o e => ?_, os, bare⟩
      rcases hO b with z | ⟨ob, ys, z⟩
      · exact un.keep b o e z nomem List.not_mem_nil
      · have old := (hok b _ z).1
        rw [e] at old
        rw [Option.some.inj old]
        exact (hok' b _ (un.frzs b ob _ z)).1
  cases hk : K.lookup a with
  | some o =>
    have e := KX a o hk
    rw [ha] at e
    cases e
    refine go (fun _ => none) (fun _ => Or.inl rfl) (Or.inr ⟨_, vs.toArray, _, hk, rfl, rfl, rfl, ?_, ?_⟩) (fun b u z => nomatch z) (fun b z => absurd rfl z) fun z => absurd rfl z
    · rw [List.size_toArray, hi.length]
      exact hl
    · simpa using vi
  | none =>
    have here : (fun b => if b = a then some (HO.frz { cls := .type "list", data := .seq vs.toArray } (.lst (ns.map V.int))) else none : Hp) a = some (HO.frz { cls := .type "list", data := .seq vs.toArray } (.lst (ns.map V.int))) := if_pos rfl
    refine go (fun b => if b = a then some (.frz { cls := .type "list", data := .seq vs.toArray } (.lst (ns.map V.int))) else none) (fun b => ?_) (Or.inl (Or.inr ⟨_, here⟩)) (fun b u z => ?_) (fun b z => ?_) fun _ => hk
    · by_cases h : b = a
      · exact Or.inr ⟨_, _, if_pos h⟩
      · exact Or.inl (if_neg h)
    · by_cases h : b = a
      · subst h
        have z2 := here.symm.trans z
        cases z2
        exact ⟨ha, by rw [List.length_map]; exact hl, vs, _, vi, ha⟩
      · have z2 := (if_neg h).symm.trans z
        cases z2
    · by_cases h : b = a
      · exact h
      · exact absurd (if_neg h) z
theorem walk_G {l : PySem.W.OpenLaw} {n k : Nat} {q : Program} {loose : List Str} {XP : (Str → Option Value) → Heap → Prop} {YP : World → Heap → Prop} {d : DefRec} {CX : CXT} {x : Str}
    (hn : l.most = some n) (hn2 : n ≤ sizeLine) (hdf : d.params.defaults = []) (hr : Room k callerA)
    (F : ∀ w mg fa h, YP w h → h.Ns mainGlobals mg → mg d.name = some (.ref fa) →
      ∃ (K : PySem.W.Frag) (fd : FuncData) (sp : Sp), K.In h ∧ (∀ (s : Shared) (u : Value), BindsTo s fd ⟨[u], []⟩ [(x, u)]) ∧
        (∀ H a ns, List.length ns ≤ n → Only H → SqL K H a (ns.map V.int) → sp [.ref a] H (fun v _ => v = .bl true) fun _ _ _ => False) ∧
        ∀ base : Heap, K.In base → base.Ns mainGlobals mg → FnG l.prog w K mg base CX k fa fd [x] sp)
    (hCX : ∀ H s e s', CX [] H s (fun _ _ _ => False) e s' → False) : PySem.W.WalkO q loose XP YP l.row.toRowW d [] (fun f vs => PySem.call f vs) :=
  Att.attach_call hn hdf fun w s0 s1 mg mb fa o pm cd doc a vs ns G Y ho hd hcd hmg hobj hints hlen hg => by
    obtain ⟨K, fd, sp, KX, hb, hs, hF⟩ := F w mg fa _ Y G.T.g hmg
    exact law_G KX G.T.g G.T.b G.T.builtins G.T.nolimit hg hobj hints (Nat.le_trans hlen hn2) hr hF hb (fun H hO hS => hs H a ns hlen hO hS) (fun H e s' => hCX H s1 e s')
theorem pos_ {j : Int} (h : 0 < j) : 0 < j := h
end VB
namespace VB
open PySem PySem.Spec PyProof.Rows L2
abbrev KvN := NestedKey × Addr × V
abbrev KwN := NestedKey × Addr × Value
def RwO (p : KvN) (q : KwN) : Prop := p.1 = q.1 ∧ p.2.1 = q.2.1 ∧ RelV p.2.2 q.2.2
/-- a row's entry -/
def entN (w : World) (x : KwN) : DictEntry := ⟨x.1.hash w, .ref x.2.1, x.2.2⟩
structure DicN1 (w : World) (h : Heap) (a : Addr) (kvs : List KvN) : Prop where
  ex : ∃ xs : List KwN, Paired RwO kvs xs ∧ (∃ o es ep, h.get? a = some o ∧ o.ExactDict ∧ o.data = .dict es ep ∧ es.toList = xs.map (entN w)) ∧ (xs.map (·.1)).Nodup
  len : kvs.length ≤ sizeLine
  sys : (a == sysModules) = false
/-- at a stands a dict of these rows -/
def DicNX (w : World) (a : Addr) (kvs : List KvN) : HO := .ext fun h => DicN1 w h a kvs
end VB
namespace VB
open PySem PySem.Spec PyProof.Rows L2
/-- data: what never changes behind its back; raw: an address as it is (the bag); dit: a dict whose keys are tuples; etup: the empty tuple of a default; din: a dict whose keys are tuples at any depth -/
inductive D where
  | non | bl (b : Bool) | int (i : Int) | str (x : Str) | ty (n : String) | tup (ds : List D) | lst (ds : List D) | raw (a : Addr)
  | dic (ks : List Key) (ds : List D) | ins (C : Addr) (ks : List Str) (ds : List D)
  | dit (ks : List (List Key)) (ds : List D) | etup
  | din (w : World) (kk : List NestedKey) (ks : List D) (ds : List D)
structure Gw (W : List Addr) (H H' : Hp) : Prop where
  keep : ∀ a o, a ∉ W → H a = some o → H' a = some o
  free : ∀ a, H' a = none → H a = none
  tups : ∀ a xs, H a = some (.tup xs) → H' a = some (.tup xs)
theorem Gw.refl {W : List Addr} {H : Hp} : Gw W H H := ⟨fun _ _ _ e => e, fun _ e => e, fun _ _ e => e⟩
theorem Gw.trans {W : List Addr} {H H1 H2 : Hp} (a : Gw W H H1) (b : Gw W H1 H2) : Gw W H H2 := ⟨fun x o n e => b.keep x o n (a.keep x o n e), fun x e => a.free x (b.free x e), fun x xs e => b.tups x xs (a.tups x xs e)⟩
theorem Gw.mono {W B : List Addr} {H H' : Hp} (g : Gw W H H') (s : ∀ a ∈ W, a ∈ B) : Gw B H H' := ⟨fun a o n e => g.keep a o (fun z => n (s a z)) e, g.free, g.tups⟩
theorem Gw.new {W : List Addr} {H : Hp} {p : Addr} {o : HO} (n : H p = none) : Gw W H (upd H p o) := by
  have k : ∀ a u, H a = some u → upd H p o a = some u := fun a u e => by
    rw [upd_ne (ne_of_none e n)]
    exact e
  refine ⟨fun a u _ => k a u, fun a e => ?_, fun a xs => k a _⟩
  by_cases h : a = p
  · rw [h]
    exact n
  · rw [upd_ne h] at e
    exact e
/-- there stands a thing that is no tuple -/
def NoT (H : Hp) (p : Addr) : Prop := ∃ u, H p = some u ∧ ∀ xs, u ≠ .tup xs
theorem Gw.wr {W : List Addr} {H : Hp} {p : Addr} {o : HO} (m : p ∈ W) (n : NoT H p) : Gw W H (upd H p o) := by
  obtain ⟨u0, e0, n0⟩ := n
  refine ⟨fun a u na e => ?_, fun a e => ?_, fun a xs e => ?_⟩
  · have q : a ≠ p := fun z => by
      subst z
      exact na m
    rw [upd_ne q]
    exact e
  · by_cases h : a = p
    · rw [h, upd_same] at e
      cases e
    · rw [upd_ne h] at e
      exact e
  · rw [upd_ne]
    · exact e
    · rintro rfl
      rw [e0] at e
      exact n0 xs (Option.some.inj e)
/-- the bag at b, its cells at c -/
def BagC (H : Hp) (b c : Addr) (ns : List Int) : Prop := (∃ z s i : Int, H b = some (bagO z s i c) ∧ BagV z s i) ∧ H c = some (.lst (ns.map V.int)) ∧ ∀ n ∈ ns, 0 ≤ n
structure Gs (W : List Addr) (H H' : Hp) : Prop where
  gw : Gw W H H'
  bag : ∀ b ∈ W, ∀ c ns, c ∉ W → BagC H b c ns → BagC H' b c ns
theorem Gs.refl {W : List Addr} {H : Hp} : Gs W H H := ⟨Gw.refl, fun _ _ _ _ _ h => h⟩
theorem Gs.trans {W : List Addr} {H H1 H2 : Hp} (a : Gs W H H1) (b : Gs W H1 H2) : Gs W H H2 := ⟨a.gw.trans b.gw, fun x m c ns n h => b.bag x m c ns n (a.bag x m c ns n h)⟩
theorem BagC.wr {H : Hp} {p b c : Addr} {o : HO} {ns : List Int} (h : BagC H b c ns) (n1 : b ≠ p) (n2 : c ≠ p) : BagC (upd H p o) b c ns := by
  obtain ⟨⟨z, s, i, e, v⟩, ec, hn⟩ := h
  refine ⟨⟨z, s, i, ?_, v⟩, ?_, hn⟩
  · rw [upd_ne n1]
    exact e
  · rw [upd_ne n2]
    exact ec
theorem BagC.new {H : Hp} {p b c : Addr} {o : HO} {ns : List Int} (h : BagC H b c ns) (n : H p = none) : BagC (upd H p o) b c ns :=
  h.wr (by
    obtain ⟨⟨z, s, i, e, v⟩, _⟩ := h
    exact ne_of_none e n) (ne_of_none h.2.1 n)
theorem Gs.new {W : List Addr} {H : Hp} {p : Addr} {o : HO} (n : H p = none) : Gs W H (upd H p o) := ⟨Gw.new n, fun b _ c ns _ h => h.new n⟩
theorem Gs.bagW {W : List Addr} {H : Hp} {b c : Addr} {z s i z' s' i' : Int} (m : b ∈ W) (e : H b = some (bagO z s i c)) (v : BagV z' s' i') : Gs W H (upd H b (bagO z' s' i' c)) :=
  ⟨Gw.wr m ⟨_, e, fun _ z => nomatch z⟩, fun b1 m1 c1 ns n1 h => by
    obtain ⟨⟨z1, s1, i1, e1, v1⟩, ec, hn⟩ := h
    have hc : c1 ≠ b := fun q => n1 (q ▸ m)
    by_cases h : b1 = b
    · subst h
      rw [e] at e1
      have q := Option.some.inj e1
      unfold bagO at q
      injection q with q
      simp only [List.cons.injEq, V.ref.injEq, and_true] at q
      obtain ⟨_, _, _, rfl⟩ := q
      refine ⟨⟨z', s', i', upd_same, v⟩, ?_, hn⟩
      rw [upd_ne hc]
      exact ec
    · refine ⟨⟨z1, s1, i1, ?_, v1⟩, ?_, hn⟩
      · rw [upd_ne h]
        exact e1
      · rw [upd_ne hc]
        exact ec⟩
mutual
inductive Sg (K : PySem.W.Frag) (B : List Addr) (H : Hp) : V → D → Prop
  | non : Sg K B H .non .non
  | bl (b : Bool) : Sg K B H (.bl b) (.bl b)
  | int (i : Int) : Sg K B H (.int i) (.int i)
  | str (x : Str) : Sg K B H (.str x) (.str x)
  | ty (n : String) : Sg K B H (.ty n) (.ty n)
  | raw (a : Addr) : Sg K B H (.ref a) (.raw a)
  | tup {a : Addr} {xs : List V} {ds : List D} : True → H a = some (.tup xs) → SgA K B H xs ds → Sg K B H (.ref a) (.tup ds)
  | etup {a : Addr} : (∀ h : Hp, SqT K h a []) → Sg K B H (.ref a) .etup
  | lst {a : Addr} {xs : List V} {ds : List D} : a ∉ B → H a = some (.lst xs) → SgA K B H xs ds → Sg K B H (.ref a) (.lst ds)
  | dic {a : Addr} {kvs : List (Key × V)} {ks : List Key} {ds : List D} : a ∉ B → Rd H a (.dK kvs) → kvs.map (·.1) = ks → SgA K B H (kvs.map (·.2)) ds → Sg K B H (.ref a) (.dic ks ds)
  | dit {a : Addr} {kvs : List (List Key × V)} {ks : List (List Key)} {ds : List D} : a ∉ B → Rd H a (.dT kvs) → kvs.map (·.1) = ks → SgA K B H (kvs.map (·.2)) ds → Sg K B H (.ref a) (.dit ks ds)
  | ins {a C dx : Addr} {fs : List (Str × V)} {ks : List Str} {ds : List D} : a ∉ B → H a = some (.ins C dx fs) → fs.map (·.1) = ks → SgA K B H (fs.map (·.2)) ds → Sg K B H (.ref a) (.ins C ks ds)
  | din {a : Addr} {w : World} {kvs : List KvN} {kk : List NestedKey} {ks ds : List D} : a ∉ B → Rd H a (DicNX w a kvs) → kvs.map (·.1) = kk → SgA K B H (kvs.map fun r => V.ref r.2.1) ks → SgA K B H (kvs.map fun r => r.2.2) ds → Sg K B H (.ref a) (.din w kk ks ds)
inductive SgA (K : PySem.W.Frag) (B : List Addr) (H : Hp) : List V → List D → Prop
  | nil : SgA K B H [] []
  | cons {v : V} {vs : List V} {d : D} {ds : List D} : Sg K B H v d → SgA K B H vs ds → SgA K B H (v :: vs) (d :: ds)
end
theorem rd_gw {W : List Addr} {H H' : Hp} {a : Addr} {u : HO} (n : a ∉ W) (g : Gw W H H') (h : Rd H a u) : Rd H' a u := by
  rcases h with h | ⟨o, h⟩
  · exact Or.inl (g.keep _ _ n h)
  · exact Or.inr ⟨o, g.keep _ _ n h⟩
theorem rd_kn {H : Hp} {a p : Addr} {u : HO} (h : Rd H a u) (n : H p = none) : a ≠ p := by
  rintro rfl
  rcases h with h | ⟨o, h⟩
  · rw [n] at h
    cases h
  · rw [n] at h
    cases h
section
variable {K : PySem.W.Frag} {B : List Addr} {H H' : Hp}
mutual
theorem Sg.gw (g : Gw B H H') : ∀ {v : V} {d : D}, Sg K B H v d → Sg K B H' v d
  | _, _, .non => .non
  | _, _, .bl b => .bl b
  | _, _, .int i => .int i
  | _, _, .str x => .str x
  | _, _, .ty n => .ty n
  | _, _, .raw a => .raw a
  | _, _, .tup n h r => .tup n (g.tups _ _ h) (SgA.gw g r)
  | _, _, .etup h => .etup h
  | _, _, .lst n h r => .lst n (g.keep _ _ n h) (SgA.gw g r)
  | _, _, .dic n h e r => .dic n (rd_gw n g h) e (SgA.gw g r)
  | _, _, .dit n h e r => .dit n (rd_gw n g h) e (SgA.gw g r)
  | _, _, .ins n h e r => .ins n (g.keep _ _ n h) e (SgA.gw g r)
  | _, _, .din n h e q r => .din n (rd_gw n g h) e (SgA.gw g q) (SgA.gw g r)
theorem SgA.gw (g : Gw B H H') : ∀ {vs : List V} {ds : List D}, SgA K B H vs ds → SgA K B H' vs ds
  | _, _, .nil => .nil
  | _, _, .cons h r => .cons (Sg.gw g h) (SgA.gw g r)
end
mutual
/-- fewer places left out -/
theorem Sg.less {B' : List Addr} (s : ∀ a ∈ B', a ∈ B) : ∀ {v : V} {d : D}, Sg K B H v d → Sg K B' H v d
  | _, _, .non => .non
  | _, _, .bl b => .bl b
  | _, _, .int i => .int i
  | _, _, .str x => .str x
  | _, _, .ty n => .ty n
  | _, _, .raw a => .raw a
  | _, _, .tup n h r => .tup n h (SgA.less s r)
  | _, _, .etup h => .etup h
  | _, _, .lst n h r => .lst (fun z => n (s _ z)) h (SgA.less s r)
  | _, _, .dic n h e r => .dic (fun z => n (s _ z)) h e (SgA.less s r)
  | _, _, .dit n h e r => .dit (fun z => n (s _ z)) h e (SgA.less s r)
  | _, _, .ins n h e r => .ins (fun z => n (s _ z)) h e (SgA.less s r)
  | _, _, .din n h e q r => .din (fun z => n (s _ z)) h e (SgA.less s q) (SgA.less s r)
theorem SgA.less {B' : List Addr} (s : ∀ a ∈ B', a ∈ B) : ∀ {vs : List V} {ds : List D}, SgA K B H vs ds → SgA K B' H vs ds
  | _, _, .nil => .nil
  | _, _, .cons h r => .cons (Sg.less s h) (SgA.less s r)
end
mutual
/-- one more, that is new -/
theorem Sg.out {p : Addr} {u : HO} (n : H p = none) : ∀ {v : V} {d : D}, Sg K B H v d → Sg K (p :: B) (upd H p u) v d
  | _, _, .non => .non
  | _, _, .bl b => .bl b
  | _, _, .int i => .int i
  | _, _, .str x => .str x
  | _, _, .ty n => .ty n
  | _, _, .raw a => .raw a
  | _, _, .tup m h r => .tup m ((Gw.new (W := B) n).tups _ _ h) (SgA.out n r)
  | _, _, .etup h => .etup h
  | _, _, .lst m h r => .lst (fun z => (List.mem_cons.mp z).elim (ne_of_none h n) m) ((Gw.new n).keep _ _ m h) (SgA.out n r)
  | _, _, .dic m h e r => .dic (fun z => (List.mem_cons.mp z).elim (rd_kn h n) m) (rd_gw m (Gw.new n) h) e (SgA.out n r)
  | _, _, .dit m h e r => .dit (fun z => (List.mem_cons.mp z).elim (rd_kn h n) m) (rd_gw m (Gw.new n) h) e (SgA.out n r)
  | _, _, .ins m h e r => .ins (fun z => (List.mem_cons.mp z).elim (ne_of_none h n) m) ((Gw.new n).keep _ _ m h) e (SgA.out n r)
  | _, _, .din m h e q r => .din (fun z => (List.mem_cons.mp z).elim (rd_kn h n) m) (rd_gw m (Gw.new n) h) e (SgA.out n q) (SgA.out n r)
theorem SgA.out {p : Addr} {u : HO} (n : H p = none) : ∀ {vs : List V} {ds : List D}, SgA K B H vs ds → SgA K (p :: B) (upd H p u) vs ds
  | _, _, .nil => .nil
  | _, _, .cons h r => .cons (Sg.out n h) (SgA.out n r)
end
theorem Sg.sqT {a : Addr} {ds : List D} (h : Sg K B H (.ref a) (.tup ds)) : ∃ xs, SqT K H a xs ∧ SgA K B H xs ds := by
  cases h with
  | tup _ h r => exact ⟨_, Or.inl (Rd.of h), r⟩
theorem SgA.length : ∀ {vs : List V} {ds : List D}, SgA K B H vs ds → vs.length = ds.length
  | _, _, .nil => rfl
  | _, _, .cons _ r => congrArg (· + 1) (SgA.length r)
theorem SgA.get : ∀ {vs : List V} {ds : List D} {i : Nat} {d : D}, SgA K B H vs ds → ds[i]? = some d → ∃ v, vs[i]? = some v ∧ Sg K B H v d
  | _, _, _, _, .nil, e => by simp at e
  | _, _, 0, _, .cons h _, e => by simp at e; subst e; exact ⟨_, rfl, h⟩
  | _, _, i + 1, d, .cons _ r, e => by
    obtain ⟨v, h1, h2⟩ := SgA.get (i := i) (d := d) r (by simpa using e)
    exact ⟨v, by simpa using h1, h2⟩
theorem SgA.getV : ∀ {vs : List V} {ds : List D} {i : Nat} {v : V}, SgA K B H vs ds → vs[i]? = some v → ∃ d, ds[i]? = some d ∧ Sg K B H v d
  | _, _, _, _, .nil, e => by simp at e
  | _, _, 0, _, .cons h _, e => by simp at e; subst e; exact ⟨_, rfl, h⟩
  | _, _, i + 1, v, .cons _ r, e => by
    obtain ⟨d, h1, h2⟩ := SgA.getV (i := i) (v := v) r (by simpa using e)
    exact ⟨d, by simpa using h1, h2⟩
theorem SgA.append : ∀ {xs ys : List V} {ds es : List D}, SgA K B H xs ds → SgA K B H ys es → SgA K B H (xs ++ ys) (ds ++ es)
  | _, _, _, _, .nil, s => s
  | _, _, _, _, .cons h r, s => .cons h (SgA.append r s)
theorem SgA.take : ∀ {xs : List V} {ds : List D} (n : Nat), SgA K B H xs ds → SgA K B H (xs.take n) (ds.take n)
  | _, _, 0, _ => .nil
  | _, _, _ + 1, .nil => .nil
  | _, _, n + 1, .cons h r => .cons h (SgA.take n r)
theorem SgA.drop : ∀ {xs : List V} {ds : List D} (n : Nat), SgA K B H xs ds → SgA K B H (xs.drop n) (ds.drop n)
  | _, _, 0, r => r
  | _, _, _ + 1, .nil => .nil
  | _, _, n + 1, .cons _ r => SgA.drop n r
theorem SgA.strs : ∀ {xs : List V} {ss : List Str}, SgA K B H xs (ss.map D.str) → xs = ss.map V.str
  | _, [], .nil => rfl
  | _, s :: ss, .cons (.str _) r => by rw [SgA.strs (ss := ss) r]; rfl
theorem SgA.bls : ∀ {xs : List V} {ss : List Bool}, SgA K B H xs (ss.map D.bl) → xs = ss.map V.bl
  | _, [], .nil => rfl
  | _, s :: ss, .cons (.bl _) r => by rw [SgA.bls (ss := ss) r]; rfl
theorem SgA.ints : ∀ {xs : List V} {ss : List Int}, SgA K B H xs (ss.map D.int) → xs = ss.map V.int
  | _, [], .nil => rfl
  | _, s :: ss, .cons (.int _) r => by rw [SgA.ints (ss := ss) r]; rfl
theorem SgA.ofStrs : ∀ {ss : List Str}, SgA K B H (ss.map V.str) (ss.map D.str)
  | [] => .nil
  | s :: ss => .cons (.str s) SgA.ofStrs
end
def Sr (K : PySem.W.Frag) (B W : List Addr) (H : Hp) (v : V) : D → Prop
  | .lst ds => ∃ a xs, v = .ref a ∧ a ∉ W ∧ H a = some (.lst xs) ∧ SgA K B H xs ds
  | .dic ks ds => ∃ (a : Addr) (kvs : List (Key × V)), v = .ref a ∧ a ∉ W ∧ Rd H a (.dK kvs) ∧ kvs.map (·.1) = ks ∧ SgA K B H (kvs.map (·.2)) ds
  | .dit ks ds => ∃ (a : Addr) (kvs : List (List Key × V)), v = .ref a ∧ a ∉ W ∧ Rd H a (.dT kvs) ∧ kvs.map (·.1) = ks ∧ SgA K B H (kvs.map (·.2)) ds
  | .ins C ks ds => ∃ (a dx : Addr) (fs : List (Str × V)), v = .ref a ∧ a ∉ W ∧ H a = some (.ins C dx fs) ∧ fs.map (·.1) = ks ∧ SgA K B H (fs.map (·.2)) ds
  | .din w kk ks ds => ∃ (a : Addr) (kvs : List KvN), v = .ref a ∧ a ∉ W ∧ Rd H a (DicNX w a kvs) ∧ kvs.map (·.1) = kk ∧ SgA K B H (kvs.map fun r => V.ref r.2.1) ks ∧ SgA K B H (kvs.map fun r => r.2.2) ds
  | d => Sg K B H v d
theorem Sg.sr {K : PySem.W.Frag} {B W : List Addr} {H : Hp} {v : V} {d : D} (w : ∀ a ∈ W, a ∈ B) (s : Sg K B H v d) : Sr K B W H v d := by
  cases s with
  | lst n h r => exact ⟨_, _, rfl, fun m => n (w _ m), h, r⟩
  | dic n h e r => exact ⟨_, _, rfl, fun m => n (w _ m), h, e, r⟩
  | dit n h e r => exact ⟨_, _, rfl, fun m => n (w _ m), h, e, r⟩
  | ins n h e r => exact ⟨_, _, _, rfl, fun m => n (w _ m), h, e, r⟩
  | din n h e q r => exact ⟨_, _, rfl, fun m => n (w _ m), h, e, q, r⟩
  | non => exact .non
  | bl b => exact .bl b
  | int b => exact .int b
  | str b => exact .str b
  | ty b => exact .ty b
  | raw b => exact .raw b
  | tup n h r => exact .tup n h r
  | etup h => exact .etup h
theorem rd_map {H H' : Hp} {a : Addr} {u : HO} (h : Rd H a u) (k : ∀ o, H a = some o → H' a = some o) : Rd H' a u := h.imp (k _) fun ⟨o, z⟩ => ⟨o, k _ z⟩
theorem rd_some {H : Hp} {a : Addr} {u : HO} (h : Rd H a u) : H a ≠ none := fun z => rd_kn h z rfl
/-- another heap, other places left out: the root stays, what it holds is carried over -/
theorem Sr.mv {K : PySem.W.Frag} {B B' W : List Addr} {H H' : Hp} {v : V} {d : D} (hk : ∀ a o, v = .ref a → a ∉ W → H a = some o → H' a = some o) (g : ∀ xs ds, SgA K B H xs ds → SgA K B' H' xs ds) (g1 : Sg K B H v d → Sg K B' H' v d) (s : Sr K B W H v d) : Sr K B' W H' v d := by
  cases d with
  | lst ds =>
    obtain ⟨a, xs, e, n, h, r⟩ := s
    exact ⟨a, xs, e, n, hk _ _ e n h, g _ _ r⟩
  | dic ks ds =>
    obtain ⟨a, xs, e, n, h, k, r⟩ := s
    exact ⟨a, xs, e, n, rd_map h fun o => hk _ o e n, k, g _ _ r⟩
  | dit ks ds =>
    obtain ⟨a, xs, e, n, h, k, r⟩ := s
    exact ⟨a, xs, e, n, rd_map h fun o => hk _ o e n, k, g _ _ r⟩
  | ins C ks ds =>
    obtain ⟨a, dx, xs, e, n, h, k, r⟩ := s
    exact ⟨a, dx, xs, e, n, hk _ _ e n h, k, g _ _ r⟩
  | din w kk ks ds =>
    obtain ⟨a, xs, e, n, h, k, q, r⟩ := s
    exact ⟨a, xs, e, n, rd_map h fun o => hk _ o e n, k, g _ _ q, g _ _ r⟩
  | non => exact g1 s
  | bl b => exact g1 s
  | int b => exact g1 s
  | str b => exact g1 s
  | ty b => exact g1 s
  | raw b => exact g1 s
  | tup b => exact g1 s
  | etup => exact g1 s
/-- what a local of one's own holds: an object at a place of its own, what it holds stands outside B -/
def OwAt (K : PySem.W.Frag) (B : List Addr) (H : Hp) (a : Addr) : D → Prop
  | .lst ds => ∃ xs, H a = some (.lst xs) ∧ SgA K B H xs ds
  | .dic ks ds => ∃ kvs : List (Key × V), H a = some (.dK kvs) ∧ kvs.map (·.1) = ks ∧ SgA K B H (kvs.map (·.2)) ds
  | .dit ks ds => ∃ kvs : List (List Key × V), H a = some (.dT kvs) ∧ kvs.map (·.1) = ks ∧ SgA K B H (kvs.map (·.2)) ds
  | .ins C ks ds => ∃ (dx : Addr) (fs : List (Str × V)), H a = some (.ins C dx fs) ∧ fs.map (·.1) = ks ∧ SgA K B H (fs.map (·.2)) ds
  | .din w kk ks ds => ∃ kvs : List KvN, H a = some (DicNX w a kvs) ∧ kvs.map (·.1) = kk ∧ SgA K B H (kvs.map fun r => V.ref r.2.1) ks ∧ SgA K B H (kvs.map fun r => r.2.2) ds
  | _ => False
section
variable {K : PySem.W.Frag} {B : List Addr} {H H' : Hp} {a p : Addr} {d : D} {u : HO}
theorem OwAt.kn (h : OwAt K B H a d) : H a ≠ none := by
  cases d with
  | lst ds =>
    obtain ⟨xs, h, _⟩ := h
    rw [h]
    exact fun z => nomatch z
  | dic ks ds =>
    obtain ⟨xs, h, _⟩ := h
    rw [h]
    exact fun z => nomatch z
  | dit ks ds =>
    obtain ⟨xs, h, _⟩ := h
    rw [h]
    exact fun z => nomatch z
  | ins C ks ds =>
    obtain ⟨dx, xs, h, _⟩ := h
    rw [h]
    exact fun z => nomatch z
  | din w kk ks ds =>
    obtain ⟨xs, h, _⟩ := h
    rw [h]
    exact fun z => nomatch z
  | _ => exact h.elim
theorem OwAt.nt (h : OwAt K B H a d) : NoT H a := by
  cases d with
  | lst ds =>
    obtain ⟨xs, h, _⟩ := h
    exact ⟨_, h, fun _ z => nomatch z⟩
  | dic ks ds =>
    obtain ⟨xs, h, _⟩ := h
    exact ⟨_, h, fun _ z => nomatch z⟩
  | dit ks ds =>
    obtain ⟨xs, h, _⟩ := h
    exact ⟨_, h, fun _ z => nomatch z⟩
  | ins C ks ds =>
    obtain ⟨dx, xs, h, _⟩ := h
    exact ⟨_, h, fun _ z => nomatch z⟩
  | din w kk ks ds =>
    obtain ⟨xs, h, _⟩ := h
    exact ⟨_, h, fun _ z => nomatch z⟩
  | _ => exact h.elim
/-- another heap, other places left out: the object itself stays, what it holds is carried over -/
theorem OwAt.mv {B' : List Addr} (hk : ∀ o, H a = some o → H' a = some o) (g : ∀ xs ds, SgA K B H xs ds → SgA K B' H' xs ds) (h : OwAt K B H a d) : OwAt K B' H' a d := by
  cases d with
  | lst ds =>
    obtain ⟨xs, h, r⟩ := h
    exact ⟨xs, hk _ h, g _ _ r⟩
  | dic ks ds =>
    obtain ⟨xs, h, e, r⟩ := h
    exact ⟨xs, hk _ h, e, g _ _ r⟩
  | dit ks ds =>
    obtain ⟨xs, h, e, r⟩ := h
    exact ⟨xs, hk _ h, e, g _ _ r⟩
  | ins C ks ds =>
    obtain ⟨dx, xs, h, e, r⟩ := h
    exact ⟨dx, xs, hk _ h, e, g _ _ r⟩
  | din w kk ks ds =>
    obtain ⟨xs, h, e, q, r⟩ := h
    exact ⟨xs, hk _ h, e, g _ _ q, g _ _ r⟩
  | _ => exact h.elim
theorem OwAt.sg {B' : List Addr} (s : ∀ b ∈ B', b ∈ B) (n : a ∉ B') (h : OwAt K B H a d) : Sg K B' H (.ref a) d := by
  cases d with
  | lst ds =>
    obtain ⟨xs, h, r⟩ := h
    exact .lst n h (r.less s)
  | dic ks ds =>
    obtain ⟨xs, h, e, r⟩ := h
    exact .dic n (Rd.of h) e (r.less s)
  | dit ks ds =>
    obtain ⟨xs, h, e, r⟩ := h
    exact .dit n (Rd.of h) e (r.less s)
  | ins C ks ds =>
    obtain ⟨dx, xs, h, e, r⟩ := h
    exact .ins n h e (r.less s)
  | din w kk ks ds =>
    obtain ⟨xs, h, e, q, r⟩ := h
    exact .din n (Rd.of h) e (q.less s) (r.less s)
  | _ => exact h.elim
mutual
theorem Sg.avo (n : H p = none) : ∀ {v : V} {d : D}, Sg K B H v d → Sg K (p :: B) H v d
  | _, _, .non => .non
  | _, _, .bl b => .bl b
  | _, _, .int i => .int i
  | _, _, .str x => .str x
  | _, _, .ty n => .ty n
  | _, _, .raw a => .raw a
  | _, _, .tup m h r => .tup m h (SgA.avo n r)
  | _, _, .etup h => .etup h
  | _, _, .lst m h r => .lst (fun z => (List.mem_cons.mp z).elim (ne_of_none h n) m) h (SgA.avo n r)
  | _, _, .dic m h e r => .dic (fun z => (List.mem_cons.mp z).elim (rd_kn h n) m) h e (SgA.avo n r)
  | _, _, .dit m h e r => .dit (fun z => (List.mem_cons.mp z).elim (rd_kn h n) m) h e (SgA.avo n r)
  | _, _, .ins m h e r => .ins (fun z => (List.mem_cons.mp z).elim (ne_of_none h n) m) h e (SgA.avo n r)
  | _, _, .din m h e q r => .din (fun z => (List.mem_cons.mp z).elim (rd_kn h n) m) h e (SgA.avo n q) (SgA.avo n r)
theorem SgA.avo (n : H p = none) : ∀ {vs : List V} {ds : List D}, SgA K B H vs ds → SgA K (p :: B) H vs ds
  | _, _, .nil => .nil
  | _, _, .cons h r => .cons (Sg.avo n h) (SgA.avo n r)
end
mutual
/-- no list within -/
def D.noL : D → Bool
  | .lst _ => false
  | .tup ds => D.noLA ds
  | .dic _ ds => D.noLA ds
  | .dit _ ds => D.noLA ds
  | .ins _ _ ds => D.noLA ds
  | .din _ _ ks ds => D.noLA ks && D.noLA ds
  | _ => true
def D.noLA : List D → Bool
  | [] => true
  | d :: ds => D.noL d && D.noLA ds
end
mutual
theorem Sg.noL {xs : List V} (e : H p = some (.lst xs)) : ∀ {v : V} {d : D}, Sg K B H v d → d.noL = true → Sg K (p :: B) H v d
  | _, _, .non, _ => .non
  | _, _, .bl b, _ => .bl b
  | _, _, .int i, _ => .int i
  | _, _, .str x, _ => .str x
  | _, _, .ty n, _ => .ty n
  | _, _, .raw a, _ => .raw a
  | _, _, .tup m h r, q => .tup m h (SgA.noL e r q)
  | _, _, .etup h, _ => .etup h
  | _, _, .lst m h r, q => by cases q
  | _, _, .dic m h k r, q => .dic (fun z => (List.mem_cons.mp z).elim (fun z => by
      subst z
      rcases h with h | ⟨o, h⟩ <;> rw [e] at h <;> cases h) m) h k (SgA.noL e r q)
  | _, _, .dit m h k r, q => .dit (fun z => (List.mem_cons.mp z).elim (fun z => by
      subst z
      rcases h with h | ⟨o, h⟩ <;> rw [e] at h <;> cases h) m) h k (SgA.noL e r q)
  | _, _, .ins m h k r, q => .ins (fun z => (List.mem_cons.mp z).elim (fun z => by
      subst z
      rw [e] at h
      cases h) m) h k (SgA.noL e r q)
  | _, _, .din m h k r1 r, q => .din (fun z => (List.mem_cons.mp z).elim (fun z => by
      subst z
      rcases h with h | ⟨o, h⟩ <;> rw [e] at h <;> cases h) m) h k (SgA.noL e r1 (Bool.and_eq_true_iff.mp (show (_ && _) = true from q)).1) (SgA.noL e r (Bool.and_eq_true_iff.mp (show (_ && _) = true from q)).2)
theorem SgA.noL {xs : List V} (e : H p = some (.lst xs)) : ∀ {vs : List V} {ds : List D}, SgA K B H vs ds → D.noLA ds = true → SgA K (p :: B) H vs ds
  | _, _, .nil, _ => .nil
  | _, _, .cons h r, q => by
    obtain ⟨q1, q2⟩ := Bool.and_eq_true_iff.mp (show (_ && _) = true from q)
    exact .cons (Sg.noL e h q1) (SgA.noL e r q2)
end
end
def D.flt : D → Bool
  | .raw _ => false
  | .etup => false
  | d => d.noL
theorem flt_noL {d : D} (h : d.flt = true) : d.noL = true := by
  cases d <;> first | exact h | cases h
mutual
inductive SnP (K : PySem.W.Frag) (B : List Addr) (N : Addr → Prop) (H : Hp) : V → D → Prop
  | flt {v : V} {d : D} : Sg K B H v d → d.flt = true → SnP K B N H v d
  | tup {a : Addr} {xs : List V} {ds : List D} : H a = some (.tup xs) → SnPA K B N H xs ds → SnP K B N H (.ref a) (.tup ds)
  | lst {a : Addr} {xs : List V} {ds : List D} : N a → V.ref a ∉ xs → H a = some (.lst xs) → SnPA K B N H xs ds → SnP K B N H (.ref a) (.lst ds)
inductive SnPA (K : PySem.W.Frag) (B : List Addr) (N : Addr → Prop) (H : Hp) : List V → List D → Prop
  | nil : SnPA K B N H [] []
  | cons {v : V} {vs : List V} {d : D} {ds : List D} : SnP K B N H v d → SnPA K B N H vs ds → SnPA K B N H (v :: vs) (d :: ds)
end
section
variable {K : PySem.W.Frag} {B : List Addr} {N N' : Addr → Prop} {H : Hp}
mutual
theorem SnP.imp (f : ∀ a, N a → N' a) : ∀ {v : V} {d : D}, SnP K B N H v d → SnP K B N' H v d
  | _, _, .flt s q => .flt s q
  | _, _, .tup h r => .tup h (SnPA.imp f r)
  | _, _, .lst n m h r => .lst (f _ n) m h (SnPA.imp f r)
theorem SnPA.imp (f : ∀ a, N a → N' a) : ∀ {vs : List V} {ds : List D}, SnPA K B N H vs ds → SnPA K B N' H vs ds
  | _, _, .nil => .nil
  | _, _, .cons h r => .cons (SnP.imp f h) (SnPA.imp f r)
end
end
/-- what a local of one's own is: what it holds, and its place where that is told -/
structure Ow where
  t : Option Addr
  d : D
def OwX (K : PySem.W.Frag) (B : List Addr) (H : Hp) (a : Addr) (o : Ow) : Prop := (∀ b, o.t = some b → b = a) ∧ OwAt K B H a o.d
theorem OwX.kn {K : PySem.W.Frag} {B : List Addr} {H : Hp} {a : Addr} {o : Ow} (h : OwX K B H a o) : H a ≠ none := h.2.kn
theorem OwX.mv {K : PySem.W.Frag} {B B' : List Addr} {H H' : Hp} {a : Addr} {o : Ow} (hk : ∀ u, H a = some u → H' a = some u) (g : ∀ xs ds, SgA K B H xs ds → SgA K B' H' xs ds) (h : OwX K B H a o) : OwX K B' H' a o := ⟨h.1, h.2.mv hk g⟩
theorem OwX.sg {K : PySem.W.Frag} {B B' : List Addr} {H : Hp} {a : Addr} {o : Ow} (s : ∀ b ∈ B', b ∈ B) (n : a ∉ B') (h : OwX K B H a o) : Sg K B' H (.ref a) o.d := h.2.sg s n
/-- bor: an argument that is only read -/
inductive En where
  | no | dat (d : D) | bag (b : Addr) | own (d : Ow) | bor (d : D)
/-- data whose root is an object that may change -/
def D.isRoot : D → Bool
  | .lst _ => true
  | .dic _ _ => true
  | .dit _ _ => true
  | .ins _ _ _ => true
  | .din _ _ _ _ => true
  | _ => false
def EnOk (K : PySem.W.Frag) (B W : List Addr) (H : Hp) (o : Option (Option V)) : En → Prop
  | .no => True
  | .dat d => ∃ v, o = some (some v) ∧ Sg K B H v d
  | .bag b => o = some (some (.ref b)) ∧ b ∈ W ∧ ∃ c ns, c ∉ B ∧ BagC H b c ns
  | .own d => ∃ a, o = some (some (.ref a)) ∧ a ∈ B ∧ a ∉ W ∧ OwX K B H a d
  | .bor d => ∃ v, o = some (some v) ∧ Sr K B W H v d
structure BW (B W : List Addr) (H : Hp) : Prop where
  sub : ∀ a ∈ W, a ∈ B
  kn : ∀ a ∈ B, H a ≠ none
/-- p is the place of a local of one's own -/
def Own (σ : L2.St) (ρ : List En) (p : Addr) : Prop := ∃ (i : Nat) (d : Ow), ρ[i]? = some (En.own d) ∧ σ[i]? = some (some (V.ref p))
/-- p is the root of an argument that is only read -/
def Bor (σ : L2.St) (ρ : List En) (p : Addr) : Prop := ∃ (i : Nat) (d : D), ρ[i]? = some (En.bor d) ∧ d.isRoot = true ∧ σ[i]? = some (some (V.ref p))
structure EnvOk (K : PySem.W.Frag) (B W : List Addr) (H : Hp) (σ : L2.St) (ρ : List En) : Prop where
  bw : BW B W H
  len : σ.length = ρ.length
  sl : ∀ (i : Nat) (e : En), ρ[i]? = some e → EnOk K B W H (σ[i]?) e
  one : ∀ (i j : Nat) (d e : Ow) (a : Addr), ρ[i]? = some (.own d) → ρ[j]? = some (.own e) → σ[i]? = some (some (.ref a)) → σ[j]? = some (some (.ref a)) → i = j
  sep : ∀ a, Own σ ρ a → ¬ Bor σ ρ a
def En.isOwn : En → Bool
  | .own _ => true
  | _ => false
/-- neither one's own nor an argument that is only read -/
def En.pl : En → Bool
  | .own _ => false
  | .bor _ => false
  | _ => true
theorem Sr.kn {K : PySem.W.Frag} {B W : List Addr} {H : Hp} {a : Addr} {d : D} (s : Sr K B W H (.ref a) d) (h : d.isRoot = true) : H a ≠ none := by
  cases d with
  | lst ds =>
    obtain ⟨b, xs, e, n, h, r⟩ := s
    cases e
    rw [h]
    exact fun z => nomatch z
  | dic ks ds =>
    obtain ⟨b, xs, e, n, h, k, r⟩ := s
    cases e
    exact rd_some h
  | dit ks ds =>
    obtain ⟨b, xs, e, n, h, k, r⟩ := s
    cases e
    exact rd_some h
  | ins C ks ds =>
    obtain ⟨b, dx, xs, e, n, h, k, r⟩ := s
    cases e
    rw [h]
    exact fun z => nomatch z
  | din w kk ks ds =>
    obtain ⟨b, xs, e, n, h, k, q, r⟩ := s
    cases e
    exact rd_some h
  | _ => cases h
theorem Sr.less {K : PySem.W.Frag} {B B' W : List Addr} {H : Hp} {v : V} {d : D} (s : ∀ a ∈ B', a ∈ B) (h : Sr K B W H v d) : Sr K B' W H v d := h.mv (fun _ _ _ _ z => z) (fun _ _ r => r.less s) fun z => z.less s
theorem Sr.gs {K : PySem.W.Frag} {B W : List Addr} {H H' : Hp} {v : V} {d : D} (w : ∀ a ∈ W, a ∈ B) (g : Gs W H H') (h : Sr K B W H v d) : Sr K B W H' v d := h.mv (fun a o _ n e => g.gw.keep a o n e) (fun _ _ r => r.gw (g.gw.mono w)) fun z => z.gw (g.gw.mono w)
theorem En.pl_own {e : En} (h : e.pl = true) : e.isOwn = false := by
  cases e with
  | own _ => cases h
  | _ => rfl
theorem one_of {σ : L2.St} {ρ : List En} (h : ρ.all (fun e => !e.isOwn) = true) : ∀ (i j : Nat) (d e : Ow) (a : Addr), ρ[i]? = some (.own d) → ρ[j]? = some (.own e) → σ[i]? = some (some (.ref a)) → σ[j]? = some (some (.ref a)) → i = j := fun i j d e a h1 _ _ _ => by
  have := List.all_eq_true.mp h _ (List.mem_of_getElem? h1)
  cases this
theorem sep_of {σ : L2.St} {ρ : List En} (h : ρ.all (fun e => !e.isOwn) = true) : ∀ a, Own σ ρ a → ¬ Bor σ ρ a := fun a ⟨i, d, h1, _⟩ _ => by
  have := List.all_eq_true.mp h _ (List.mem_of_getElem? h1)
  cases this
theorem own_set {ρ : List En} {i j : Nat} {e : En} {d : Ow} (h : (ρ.set i e)[j]? = some (.own d)) (n : e.isOwn = false) : i ≠ j ∧ ρ[j]? = some (.own d) := by
  by_cases z : i = j
  · subst z
    have hi : i < ρ.length := by
      have := (List.getElem?_eq_some_iff.mp h).1
      rw [List.length_set] at this
      exact this
    rw [List.getElem?_set_self hi] at h
    cases h
    cases n
  · rw [List.getElem?_set_ne z] at h
    exact ⟨z, h⟩
section
variable {K : PySem.W.Frag} {B W : List Addr} {H H' : Hp} {σ : L2.St} {ρ : List En}
theorem Own.set {i : Nat} {o : Option V} {e : En} {p : Addr} (h : Own (σ.set i o) (ρ.set i e) p) (n : e.isOwn = false) : Own σ ρ p := by
  obtain ⟨j, d, h1, h2⟩ := h
  obtain ⟨z, h1⟩ := own_set h1 n
  rw [List.getElem?_set_ne z] at h2
  exact ⟨j, d, h1, h2⟩
theorem bor_set {ρ : List En} {i j : Nat} {e : En} {d : D} (h : (ρ.set i e)[j]? = some (.bor d)) (n : e.pl = true) : i ≠ j ∧ ρ[j]? = some (.bor d) := by
  by_cases z : i = j
  · subst z
    have hi : i < ρ.length := by
      have := (List.getElem?_eq_some_iff.mp h).1
      rw [List.length_set] at this
      exact this
    rw [List.getElem?_set_self hi] at h
    cases h
    cases n
  · rw [List.getElem?_set_ne z] at h
    exact ⟨z, h⟩
theorem Bor.set {i : Nat} {o : Option V} {e : En} {p : Addr} (h : Bor (σ.set i o) (ρ.set i e) p) (n : e.pl = true) : Bor σ ρ p := by
  obtain ⟨j, d, h1, hr, h2⟩ := h
  obtain ⟨z, h1⟩ := bor_set h1 n
  rw [List.getElem?_set_ne z] at h2
  exact ⟨j, d, h1, hr, h2⟩
theorem EnvOk.borK {p : Addr} (h : EnvOk K B W H σ ρ) (b : Bor σ ρ p) : H p ≠ none := by
  obtain ⟨i, d, h1, hr, h2⟩ := b
  obtain ⟨v, e, k⟩ := h.sl i _ h1
  rw [h2] at e
  cases e
  exact k.kn hr
theorem EnvOk.ownB {p : Addr} (h : EnvOk K B W H σ ρ) (o : Own σ ρ p) : p ∈ B ∧ p ∉ W ∧ H p ≠ none := by
  obtain ⟨i, d, h1, h2⟩ := o
  obtain ⟨a, e, m, n, k⟩ := h.sl i _ h1
  rw [h2] at e
  cases e
  exact ⟨m, n, k.kn⟩
theorem BW.gs (b : BW B W H) (g : Gs W H H') : BW B W H' := ⟨b.sub, fun a m z => b.kn a m (g.gw.free a z)⟩
theorem BW.gw (b : BW B W H) (g : Gs W H H') : Gw B H H' := g.gw.mono b.sub
theorem EnOk.gs {o : Option (Option V)} {e : En} (b : BW B W H) (g : Gs W H H') (h : EnOk K B W H o e) : EnOk K B W H' o e := by
  cases e with
  | no => trivial
  | dat d =>
    obtain ⟨v, e, s⟩ := h
    exact ⟨v, e, s.gw (b.gw g)⟩
  | bag q =>
    obtain ⟨e, m, c, ns, nc, hb⟩ := h
    exact ⟨e, m, c, ns, nc, g.bag q m c ns (fun z => nc (b.sub c z)) hb⟩
  | own d =>
    obtain ⟨a, e, m, n, k⟩ := h
    exact ⟨a, e, m, n, k.mv (fun o z => g.gw.keep a o n z) fun _ _ r => r.gw (b.gw g)⟩
  | bor d =>
    obtain ⟨v, e, k⟩ := h
    exact ⟨v, e, k.gs b.sub g⟩
theorem EnvOk.gs (h : EnvOk K B W H σ ρ) (g : Gs W H H') : EnvOk K B W H' σ ρ := ⟨h.bw.gs g, h.len, fun i e q => (h.sl i e q).gs h.bw g, h.one, h.sep⟩
theorem EnvOk.put {i : Nat} {o : Option V} {e : En} (h : EnvOk K B W H σ ρ) (n : e.pl = true) (k : EnOk K B W H (some o) e) : EnvOk K B W H (σ.set i o) (ρ.set i e) := by
  refine ⟨h.bw, by rw [List.length_set, List.length_set]; exact h.len, fun j e' q => ?_, fun i1 j1 d1 e1 a h1 h2 h3 h4 => ?_, fun a o b => h.sep a (o.set (En.pl_own n)) (b.set n)⟩
  · by_cases hj : i = j
    · subst hj
      have hi : i < ρ.length := by
        have := (List.getElem?_eq_some_iff.mp q).1
        rw [List.length_set] at this
        exact this
      rw [List.getElem?_set_self hi] at q
      cases q
      rw [List.getElem?_set_self (by rw [h.len]; exact hi)]
      exact k
    · rw [List.getElem?_set_ne hj] at q
      rw [List.getElem?_set_ne hj]
      exact h.sl j e' q
  · obtain ⟨z1, h1⟩ := own_set h1 (En.pl_own n)
    obtain ⟨z2, h2⟩ := own_set h2 (En.pl_own n)
    rw [List.getElem?_set_ne z1] at h3
    rw [List.getElem?_set_ne z2] at h4
    exact h.one i1 j1 d1 e1 a h1 h2 h3 h4
theorem EnvOk.set {i : Nat} {v : V} {d : D} (h : EnvOk K B W H σ ρ) (s : Sg K B H v d) : EnvOk K B W H (σ.set i (some v)) (ρ.set i (.dat d)) := h.put rfl ⟨v, rfl, s⟩
theorem EnvOk.clr {i : Nat} (h : EnvOk K B W H σ ρ) : EnvOk K B W H (σ.set i none) (ρ.set i .no) := h.put rfl trivial
/-- a new place p, written, may be left out from here on -/
theorem EnvOk.out {p : Addr} {u : HO} (h : EnvOk K B W H σ ρ) (n : H p = none) : EnvOk K (p :: B) W (upd H p u) σ ρ := by
  refine ⟨⟨fun a m => List.mem_cons_of_mem _ (h.bw.sub a m), fun a m => ?_⟩, h.len, fun i e q => ?_, h.one, h.sep⟩
  · by_cases z : a = p
    · rw [z, upd_same]
      exact Option.some_ne_none _
    · rw [upd_ne z]
      rcases List.mem_cons.mp m with q | q
      · exact absurd q z
      · exact h.bw.kn a q
  · have r := h.sl i e q
    cases e with
    | no => trivial
    | dat d =>
      obtain ⟨v, e1, s⟩ := r
      exact ⟨v, e1, s.out n⟩
    | bag b =>
      obtain ⟨e1, m, c, ns, nc, hb⟩ := r
      refine ⟨e1, m, c, ns, fun z => ?_, hb.new n⟩
      rcases List.mem_cons.mp z with q | q
      · exact ne_of_none hb.2.1 n q
      · exact nc q
    | own d =>
      obtain ⟨a, e1, m, nw, k⟩ := r
      refine ⟨a, e1, List.mem_cons_of_mem _ m, nw, k.mv (fun o z => ?_) fun _ _ r => r.out n⟩
      rw [upd_ne (ne_of_none z n)]
      exact z
    | bor d =>
      obtain ⟨v, e1, k⟩ := r
      refine ⟨v, e1, k.mv (fun a o _ _ z => ?_) (fun _ _ r => r.out n) fun z => z.out n⟩
      rw [upd_ne (ne_of_none z n)]
      exact z
/-- another place than the root is written -/
theorem Sr.wrt {v : V} {d : D} {p : Addr} {u : HO} (s : Sr K B W H v d) (ne : ∀ a, v = .ref a → d.isRoot = true → a ≠ p) (g : Gw B H (upd H p u)) : Sr K B W (upd H p u) v d := by
  have go : ∀ {a o}, v = .ref a → d.isRoot = true → H a = some o → upd H p u a = some o := fun e hr h => by
    rw [upd_ne (ne _ e hr)]
    exact h
  cases d with
  | lst ds =>
    obtain ⟨a, xs, e, n, h, r⟩ := s
    exact ⟨a, xs, e, n, go e rfl h, r.gw g⟩
  | dic ks ds =>
    obtain ⟨a, xs, e, n, h, k, r⟩ := s
    exact ⟨a, xs, e, n, rd_map h fun o => go e rfl, k, r.gw g⟩
  | dit ks ds =>
    obtain ⟨a, xs, e, n, h, k, r⟩ := s
    exact ⟨a, xs, e, n, rd_map h fun o => go e rfl, k, r.gw g⟩
  | ins C ks ds =>
    obtain ⟨a, dx, xs, e, n, h, k, r⟩ := s
    exact ⟨a, dx, xs, e, n, go e rfl h, k, r.gw g⟩
  | din w kk ks ds =>
    obtain ⟨a, xs, e, n, h, k, q, r⟩ := s
    exact ⟨a, xs, e, n, rd_map h fun o => go e rfl, k, q.gw g, r.gw g⟩
  | non => exact Sg.gw g s
  | bl b => exact Sg.gw g s
  | int b => exact Sg.gw g s
  | str b => exact Sg.gw g s
  | ty b => exact Sg.gw g s
  | raw b => exact Sg.gw g s
  | tup b => exact Sg.gw g s
  | etup => exact Sg.gw g s
/-- a place of B that is neither a bag, nor one's own, nor an argument that is read, is written -/
theorem EnvOk.wr {p : Addr} {u : HO} (h : EnvOk K B W H σ ρ) (nt : NoT H p) (m : p ∈ B) (n : p ∉ W) (no : ¬ Own σ ρ p) (nb : ¬ Bor σ ρ p) : EnvOk K B W (upd H p u) σ ρ := by
  refine ⟨⟨h.bw.sub, fun a ma => ?_⟩, h.len, fun i e q => ?_, h.one, h.sep⟩
  · by_cases z : a = p
    · rw [z, upd_same]
      exact Option.some_ne_none _
    · rw [upd_ne z]
      exact h.bw.kn a ma
  · have r := h.sl i e q
    cases e with
    | no => trivial
    | dat d =>
      obtain ⟨v, e1, s⟩ := r
      exact ⟨v, e1, s.gw (Gw.wr m nt)⟩
    | bag b =>
      obtain ⟨e1, mb, c, ns, nc, hb⟩ := r
      refine ⟨e1, mb, c, ns, nc, hb.wr (fun z => n (z ▸ mb)) (fun z => nc (z ▸ m))⟩
    | own d =>
      obtain ⟨a, e1, ma, nw, k⟩ := r
      have hne : a ≠ p := fun z => no ⟨i, d, q, z ▸ e1⟩
      refine ⟨a, e1, ma, nw, k.mv (fun o z => ?_) fun _ _ r => r.gw (Gw.wr m nt)⟩
      rw [upd_ne hne]
      exact z
    | bor d =>
      obtain ⟨v, e1, k⟩ := r
      exact ⟨v, e1, k.wrt (fun a e hr z => nb (z ▸ ⟨i, d, q, hr, e ▸ e1⟩)) (Gw.wr m nt)⟩
/-- back to fewer -/
theorem EnvOk.back {B' : List Addr} (h : EnvOk K B W H σ ρ) (s : ∀ a ∈ B', a ∈ B) (sw : ∀ a ∈ W, a ∈ B') (so : ∀ a, Own σ ρ a → a ∈ B') : EnvOk K B' W H σ ρ := by
  refine ⟨⟨sw, fun a m => h.bw.kn a (s a m)⟩, h.len, fun i e q => ?_, h.one, h.sep⟩
  have r := h.sl i e q
  cases e with
  | no => trivial
  | dat d =>
    obtain ⟨v, e1, z⟩ := r
    exact ⟨v, e1, z.less s⟩
  | bag b =>
    obtain ⟨e1, m, c, ns, nc, hb⟩ := r
    exact ⟨e1, m, c, ns, fun z => nc (s c z), hb⟩
  | own d =>
    obtain ⟨a, e1, m, nw, k⟩ := r
    exact ⟨a, e1, so a ⟨i, d, q, e1⟩, nw, k.mv (fun _ z => z) fun _ _ r => r.less s⟩
  | bor d =>
    obtain ⟨v, e1, k⟩ := r
    exact ⟨v, e1, k.less s⟩
/-- a new object becomes a local's own -/
theorem EnvOk.addO {i : Nat} {a : Addr} {d : D} (h : EnvOk K B W H σ ρ) (g : Gs W H H') (n : H a = none) (k : OwAt K (a :: B) H' a d) : EnvOk K (a :: B) W H' (σ.set i (some (.ref a))) (ρ.set i (.own ⟨none, d⟩)) := by
  have g2 : Gw (a :: B) H H' := g.gw.mono fun x m => List.mem_cons_of_mem _ (h.bw.sub x m)
  have aW : a ∉ W := fun m => h.bw.kn a (h.bw.sub a m) n
  have noA : ∀ (j : Nat) (e : Ow), ρ[j]? = some (En.own e) → σ[j]? = some (some (V.ref a)) → False := fun j e h1 h2 => (h.ownB ⟨j, e, h1, h2⟩).2.2 n
  refine ⟨⟨fun x m => List.mem_cons_of_mem _ (h.bw.sub x m), fun x m => ?_⟩, by rw [List.length_set, List.length_set]; exact h.len, fun j e q => ?_, fun i1 j1 d1 e1 b h1 h2 h3 h4 => ?_, fun b ob bb => ?_⟩
  · rcases List.mem_cons.mp m with z | z
    · rw [z]
      exact k.kn
    · exact fun z2 => h.bw.kn x z (g.gw.free x z2)
  · by_cases hj : i = j
    · subst hj
      have hi : i < ρ.length := by
        have := (List.getElem?_eq_some_iff.mp q).1
        rw [List.length_set] at this
        exact this
      rw [List.getElem?_set_self hi] at q
      cases q
      rw [List.getElem?_set_self (by rw [h.len]; exact hi)]
      exact ⟨a, rfl, List.mem_cons_self .., aW, (fun b z => nomatch z), k⟩
    · rw [List.getElem?_set_ne hj] at q
      rw [List.getElem?_set_ne hj]
      have r := h.sl j e q
      cases e with
      | no => trivial
      | dat d =>
        obtain ⟨v, e1, s⟩ := r
        exact ⟨v, e1, (s.avo n).gw g2⟩
      | bag b =>
        obtain ⟨e1, m, c, ns, nc, hb⟩ := r
        refine ⟨e1, m, c, ns, fun z => ?_, g.bag b m c ns (fun z => nc (h.bw.sub c z)) hb⟩
        rcases List.mem_cons.mp z with q | q
        · exact ne_of_none hb.2.1 n q
        · exact nc q
      | own d =>
        obtain ⟨b, e1, m, nw, kb⟩ := r
        exact ⟨b, e1, List.mem_cons_of_mem _ m, nw, kb.mv (fun o z => g.gw.keep b o nw z) fun _ _ r => (r.avo n).gw g2⟩
      | bor d =>
        obtain ⟨v, e1, k⟩ := r
        exact ⟨v, e1, k.mv (fun b o _ nw z => g.gw.keep b o nw z) (fun _ _ r => (r.avo n).gw g2) fun r => (r.avo n).gw g2⟩
  · by_cases z1 : i = i1
    · by_cases z2 : i = j1
      · rw [← z1, ← z2]
      · rw [List.getElem?_set_ne z2] at h2 h4
        subst z1
        have hi : i < σ.length := by
          have := (List.getElem?_eq_some_iff.mp h3).1
          rw [List.length_set] at this
          exact this
        rw [List.getElem?_set_self hi] at h3
        cases h3
        exact (noA j1 e1 h2 h4).elim
    · rw [List.getElem?_set_ne z1] at h1 h3
      by_cases z2 : i = j1
      · subst z2
        have hi : i < σ.length := by
          have := (List.getElem?_eq_some_iff.mp h4).1
          rw [List.length_set] at this
          exact this
        rw [List.getElem?_set_self hi] at h4
        cases h4
        exact (noA i1 d1 h1 h3).elim
      · rw [List.getElem?_set_ne z2] at h2 h4
        exact h.one i1 j1 d1 e1 b h1 h2 h3 h4
  · obtain ⟨j, dj, h1, hr, h2⟩ := bb
    have z : i ≠ j := fun z => by
      subst z
      have hi : i < ρ.length := by
        have := (List.getElem?_eq_some_iff.mp h1).1
        rw [List.length_set] at this
        exact this
      rw [List.getElem?_set_self hi] at h1
      cases h1
    rw [List.getElem?_set_ne z] at h1 h2
    have hb : Bor σ ρ b := ⟨j, dj, h1, hr, h2⟩
    obtain ⟨x, dx, h3, h4⟩ := ob
    by_cases zx : i = x
    · subst zx
      have hi : i < σ.length := by
        have := (List.getElem?_eq_some_iff.mp h4).1
        rw [List.length_set] at this
        exact this
      rw [List.getElem?_set_self hi] at h4
      cases h4
      exact h.borK hb n
    · rw [List.getElem?_set_ne zx] at h3 h4
      exact h.sep b ⟨x, dx, h3, h4⟩ hb
/-- a local's own object is written -/
theorem EnvOk.upO {i : Nat} {a : Addr} {d : Ow} {d' : D} {u : HO} (h : EnvOk K B W H σ ρ) (hi : ρ[i]? = some (.own d)) (hv : σ[i]? = some (some (.ref a))) (k : OwAt K B (upd H a u) a d') : EnvOk K B W (upd H a u) σ (ρ.set i (.own ⟨d.t, d'⟩)) := by
  obtain ⟨a0, ea0, _, _, tg, ow⟩ := h.sl i _ hi
  rw [hv] at ea0
  cases ea0
  have aT := ow.nt
  obtain ⟨aB, aW, aK⟩ := h.ownB ⟨i, d, hi, hv⟩
  have il : i < ρ.length := (List.getElem?_eq_some_iff.mp hi).1
  have bk : ∀ x, Own σ (ρ.set i (.own ⟨d.t, d'⟩)) x → Own σ ρ x := fun x ⟨j, dj, h1, h2⟩ => by
    by_cases hj : i = j
    · subst hj
      exact ⟨i, d, hi, h2⟩
    · rw [List.getElem?_set_ne hj] at h1
      exact ⟨j, dj, h1, h2⟩
  have bb : ∀ x, Bor σ (ρ.set i (.own ⟨d.t, d'⟩)) x → Bor σ ρ x := fun x ⟨j, dj, h1, hr, h2⟩ => by
    by_cases hj : i = j
    · subst hj
      rw [List.getElem?_set_self il] at h1
      cases h1
    · rw [List.getElem?_set_ne hj] at h1
      exact ⟨j, dj, h1, hr, h2⟩
  refine ⟨⟨h.bw.sub, fun x m => ?_⟩, by rw [List.length_set]; exact h.len, fun j e q => ?_, fun i1 j1 d1 e1 b h1 h2 h3 h4 => ?_, fun x o b => h.sep x (bk x o) (bb x b)⟩
  · by_cases z : x = a
    · rw [z, upd_same]
      exact Option.some_ne_none _
    · rw [upd_ne z]
      exact h.bw.kn x m
  · by_cases hj : i = j
    · subst hj
      rw [List.getElem?_set_self il] at q
      cases q
      exact ⟨a, hv, aB, aW, tg, k⟩
    · rw [List.getElem?_set_ne hj] at q
      have r := h.sl j e q
      cases e with
      | no => trivial
      | dat d =>
        obtain ⟨v, e1, s⟩ := r
        exact ⟨v, e1, s.gw (Gw.wr aB aT)⟩
      | bag b =>
        obtain ⟨e1, m, c, ns, nc, hb⟩ := r
        exact ⟨e1, m, c, ns, nc, hb.wr (fun z => aW (z ▸ m)) (fun z => nc (z ▸ aB))⟩
      | own d =>
        obtain ⟨b, e1, m, nw, kb⟩ := r
        have hne : b ≠ a := fun z => hj (h.one i j _ _ a hi q hv (z ▸ e1))
        refine ⟨b, e1, m, nw, kb.mv (fun o z => ?_) fun _ _ r => r.gw (Gw.wr aB aT)⟩
        rw [upd_ne hne]
        exact z
      | bor db =>
        obtain ⟨v, e1, k⟩ := r
        exact ⟨v, e1, k.wrt (fun b e hr z => h.sep a ⟨i, d, hi, hv⟩ (z ▸ ⟨j, db, q, hr, e ▸ e1⟩)) (Gw.wr aB aT)⟩
  · have back : ∀ {x : Nat} {dx : Ow}, (ρ.set i (.own ⟨d.t, d'⟩))[x]? = some (.own dx) → ∃ dy, ρ[x]? = some (.own dy) := fun {x dx} q => by
      by_cases hj : i = x
      · subst hj
        exact ⟨d, hi⟩
      · rw [List.getElem?_set_ne hj] at q
        exact ⟨dx, q⟩
    obtain ⟨d2, h1⟩ := back h1
    obtain ⟨e2, h2⟩ := back h2
    exact h.one i1 j1 d2 e2 b h1 h2 h3 h4
/-- a local's own object becomes data -/
theorem EnvOk.frz {i : Nat} {d : Ow} (h : EnvOk K B W H σ ρ) (hi : ρ[i]? = some (.own d)) : ∃ a B', σ[i]? = some (some (.ref a)) ∧ (∀ x, x ∈ B' ↔ x ∈ B ∧ x ≠ a) ∧ EnvOk K B' W H σ (ρ.set i (.dat d.d)) := by
  obtain ⟨a, e1, aB, aW, k⟩ := h.sl i _ hi
  have il : i < ρ.length := (List.getElem?_eq_some_iff.mp hi).1
  have mem : ∀ x, x ∈ B.filter (fun x => decide (x ≠ a)) ↔ x ∈ B ∧ x ≠ a := fun x => by
    rw [List.mem_filter, decide_eq_true_iff]
  refine ⟨a, B.filter (fun x => decide (x ≠ a)), e1, mem, ?_⟩
  have e0 : σ.set i (some (.ref a)) = σ := by
    obtain ⟨hl, hv⟩ := List.getElem?_eq_some_iff.mp e1
    have q : σ.set i σ[i] = σ := List.set_getElem_self hl
    rw [hv] at q
    exact q
  have h2 : EnvOk K (B.filter (fun x => decide (x ≠ a))) W H σ (ρ.set i .no) := by
    have z : EnvOk K B W H σ (ρ.set i .no) := by
      have z := h.put (i := i) (o := some (.ref a)) (e := .no) rfl trivial
      rw [e0] at z
      exact z
    refine z.back (fun x m => ((mem x).mp m).1) (fun x m => (mem x).mpr ⟨h.bw.sub x m, fun q => aW (q ▸ m)⟩) fun x o => ?_
    obtain ⟨j, dj, h1, h2⟩ := o
    obtain ⟨zj, h1⟩ := own_set h1 rfl
    refine (mem x).mpr ⟨(h.ownB ⟨j, dj, h1, h2⟩).1, fun q => zj ?_⟩
    subst q
    exact h.one i j _ _ x hi h1 e1 h2
  have z := h2.set (i := i) (v := .ref a) (d := d.d) (k.sg (fun x m => ((mem x).mp m).1) fun m => ((mem a).mp m).2 rfl)
  rw [List.set_set, e0] at z
  exact z
end
def EV (K : PySem.W.Frag) (te : TE) (ρ : List En) (P : D → Prop) : Prop := ∀ (B W : List Addr) (H : Hp) (σ : L2.St), EnvOk K B W H σ ρ → ∀ Q : VK, (∀ v d H', Gs W H H' → Sg K B H' v d → P d → Q v H') → te σ H Q
def EA (K : PySem.W.Frag) (ta : TA) (ρ : List En) (P : List D → Prop) : Prop := ∀ (B W : List Addr) (H : Hp) (σ : L2.St), EnvOk K B W H σ ρ → ∀ Q : List V → Hp → Prop, (∀ vs ds H', Gs W H H' → SgA K B H' vs ds → P ds → Q vs H') → ta σ H Q
def ET (K : PySem.W.Frag) (tt : TT) (ρ : List En) (P : Bool → Prop) : Prop := ∀ (B W : List Addr) (H : Hp) (σ : L2.St), EnvOk K B W H σ ρ → ∀ Q : Bool → Hp → Prop, (∀ b H', Gs W H H' → P b → Q b H') → tt σ H Q
def EO (K : PySem.W.Frag) (to : L2.St → Hp → (Option Int → Hp → Prop) → Prop) (ρ : List En) (P : Option Int → Prop) : Prop := ∀ (B W : List Addr) (H : Hp) (σ : L2.St), EnvOk K B W H σ ρ → ∀ Q : Option Int → Hp → Prop, (∀ b H', Gs W H H' → P b → Q b H') → to σ H Q
/-- an expression whose value is a new object that nothing else holds -/
def EVN (K : PySem.W.Frag) (te : TE) (ρ : List En) (P : D → Prop) : Prop := ∀ (B W : List Addr) (H : Hp) (σ : L2.St), EnvOk K B W H σ ρ → ∀ Q : VK, (∀ a d H', Gs W H H' → H a = none → OwAt K (a :: B) H' a d → P d → Q (.ref a) H') → te σ H Q
/-- an operation on two values; a call on values -/
def RD (K : PySem.W.Frag) (r : R2) (x y : D) (P : D → Prop) : Prop := ∀ (B W : List Addr) (H : Hp) (v u : V), BW B W H → Sg K B H v x → Sg K B H u y → ∀ Q : VK, (∀ z d H', Gs W H H' → Sg K B H' z d → P d → Q z H') → r v u H Q
def RC (K : PySem.W.Frag) (r : List V → Hp → VK → Prop) (ρ : List En) (ds : List D) (P : D → Prop) : Prop := ∀ (B W : List Addr) (H : Hp) (σ : L2.St) (vs : List V), EnvOk K B W H σ ρ → SgA K B H vs ds → ∀ Q : VK, (∀ z d H', Gs W H H' → Sg K B H' z d → P d → Q z H') → r vs H Q
section
variable {K : PySem.W.Frag} {ρ : List En} {P : D → Prop} {PB : Bool → Prop} {te ta tb tc : TE} {tt tu : TT} {r r2 : R2}
theorem EV.var {i : Nat} {d : D} (h : ρ[i]? = some (.dat d)) (p : P d) : EV K (tVar i) ρ P := fun B W H σ e Q q => by
  obtain ⟨v, e1, s⟩ := e.sl i _ h
  exact ⟨v, e1, q v d H Gs.refl s p⟩
theorem EV.bag {i : Nat} {b : Addr} (h : ρ[i]? = some (.bag b)) (p : P (.raw b)) : EV K (tVar i) ρ P := fun B W H σ e Q q => by
  obtain ⟨e1, _⟩ := e.sl i _ h
  exact ⟨_, e1, q _ (.raw b) H Gs.refl (.raw b) p⟩
theorem EV.int {i : Int} (p : P (.int i)) : EV K (tC (.int i)) ρ P := fun B W H σ e Q q => q _ _ H Gs.refl (.int i) p
theorem EV.str {x : Str} (p : P (.str x)) : EV K (tC (.str x)) ρ P := fun B W H σ e Q q => q _ _ H Gs.refl (.str x) p
theorem EV.bl {b : Bool} (p : P (.bl b)) : EV K (tC (.bl b)) ρ P := fun B W H σ e Q q => q _ _ H Gs.refl (.bl b) p
theorem EV.ty {n : String} (p : P (.ty n)) : EV K (tC (.ty n)) ρ P := fun B W H σ e Q q => q _ _ H Gs.refl (.ty n) p
theorem EV.non (p : P .non) : EV K (tC .non) ρ P := fun B W H σ e Q q => q _ _ H Gs.refl .non p
theorem EVN.ev (h : EVN K te ρ P) : EV K te ρ P := fun B W H σ e Q q => h B W H σ e Q fun a d H' g n k p => q _ d H' g (k.sg (fun x m => List.mem_cons_of_mem _ m) fun m => e.bw.kn a m n) p
theorem EVN.imp {P' : D → Prop} (h : EVN K te ρ P') (k : ∀ d, P' d → P d) : EVN K te ρ P := fun B W H σ e Q q => h B W H σ e Q fun a d H' g n o p => q a d H' g n o (k d p)
theorem EV.imp {P' : D → Prop} (h : EV K te ρ P') (k : ∀ d, P' d → P d) : EV K te ρ P := fun B W H σ e Q q => h B W H σ e Q fun v d H' g s p => q v d H' g s (k d p)
theorem EV.un {ru : V → Hp → VK → Prop} (h : EV K ta ρ fun x => ∃ i j, x = .int i ∧ (∀ H Q, Q (.int j) H → ru (.int i) H Q) ∧ P (.int j)) : EV K (tUn ru ta) ρ P := fun B W H σ e Q q =>
  h B W H σ e _ fun v x H1 g1 s1 h1 => by
    obtain ⟨i, j, rfl, h2, p⟩ := h1
    cases s1
    exact h2 _ _ (q _ _ H1 g1 (.int j) p)
theorem EV.chain (h : EV K ta ρ fun x => EV K tb ρ fun y => RD K r x y fun z => ∃ k, z = .bl k ∧ (if k = true then EV K tc ρ (fun w => RD K r2 y w P) else P (.bl false))) : EV K (tChain r r2 ta tb tc) ρ P := fun B W H σ e Q q =>
  h B W H σ e _ fun v x H1 g1 s1 h1 => h1 B W H1 σ (e.gs g1) _ fun u y H2 g2 s2 h2 =>
    h2 B W H2 v u ((e.gs g1).gs g2).bw (s1.gw ((e.gs g1).bw.gw g2)) s2 _ fun z d H3 g3 s3 p => by
      obtain ⟨k, rfl, p⟩ := p
      cases s3
      have e3 := ((e.gs g1).gs g2).gs g3
      refine ⟨k, rfl, ?_⟩
      cases k with
      | true =>
        rw [if_pos rfl] at p ⊢
        exact p B W H3 σ e3 _ fun w d H4 g4 s4 p4 => p4 B W H4 u w (e3.gs g4).bw (s2.gw (((e.gs g1).gs g2).bw.gw (g3.trans g4))) s4 Q fun z d H5 g5 s5 p5 => q z d H5 ((((g1.trans g2).trans g3).trans g4).trans g5) s5 p5
      | false =>
        rw [if_neg Bool.false_ne_true] at p ⊢
        exact q _ _ H3 ((g1.trans g2).trans g3) (.bl false) p
/-- truth values by and, or, not -/
theorem EV.andV (h : EV K ta ρ fun x => ∃ c, x = .bl c ∧ (if c = true then EV K tb ρ P else P (.bl false))) : EV K (tAndV ta tb) ρ P := fun B W H σ e Q q =>
  h B W H σ e _ fun v x H1 g1 s1 h1 => by
    obtain ⟨c, rfl, h2⟩ := h1
    cases s1
    refine ⟨c, rfl, ?_⟩
    cases c with
    | true =>
      rw [if_pos rfl] at h2 ⊢
      exact h2 B W H1 σ (e.gs g1) Q fun z d H2 g2 s2 p => q z d H2 (g1.trans g2) s2 p
    | false =>
      rw [if_neg Bool.false_ne_true] at h2 ⊢
      exact q _ _ H1 g1 (.bl false) h2
theorem ET.b (h : EV K te ρ fun x => ∃ k, x = .bl k ∧ PB k) : ET K (tB te) ρ PB := fun B W H σ e Q q =>
  h B W H σ e _ fun v x H1 g1 s1 h1 => by
    obtain ⟨k, rfl, p⟩ := h1
    cases s1
    exact ⟨k, rfl, q k H1 g1 p⟩
theorem ET.and (h : ET K tt ρ fun c => if c = true then ET K tu ρ PB else PB false) : ET K (tAnd tt tu) ρ PB := fun B W H σ e Q q =>
  h B W H σ e _ fun c H1 g1 h1 => by
    cases c with
    | true =>
      rw [if_pos rfl] at h1 ⊢
      exact h1 B W H1 σ (e.gs g1) Q fun b H2 g2 p => q b H2 (g1.trans g2) p
    | false =>
      rw [if_neg Bool.false_ne_true] at h1 ⊢
      exact q false H1 g1 h1
theorem ET.or (h : ET K tt ρ fun c => if c = true then PB true else ET K tu ρ PB) : ET K (tOr tt tu) ρ PB := fun B W H σ e Q q =>
  h B W H σ e _ fun c H1 g1 h1 => by
    cases c with
    | true =>
      rw [if_pos rfl] at h1 ⊢
      exact q true H1 g1 h1
    | false =>
      rw [if_neg Bool.false_ne_true] at h1 ⊢
      exact h1 B W H1 σ (e.gs g1) Q fun b H2 g2 p => q b H2 (g1.trans g2) p
theorem ET.not (h : ET K tt ρ fun c => PB (!c)) : ET K (tNot tt) ρ PB := fun B W H σ e Q q => h B W H σ e _ fun c H1 g1 h1 => q _ H1 g1 h1
theorem ET.yes (p : PB true) : ET K tYes ρ PB := fun B W H σ e Q q => q true H Gs.refl p
theorem EA.nil {PA : List D → Prop} (p : PA []) : EA K tNil ρ PA := fun B W H σ e Q q => q _ _ H Gs.refl .nil p
theorem EA.cons {PA : List D → Prop} {tr : TA} (h : EV K ta ρ fun x => EA K tr ρ fun xs => PA (x :: xs)) : EA K (tCons ta tr) ρ PA := fun B W H σ e Q q =>
  h B W H σ e _ fun v x H1 g1 s1 h1 => h1 B W H1 σ (e.gs g1) _ fun vs ds H2 g2 s2 p => q _ _ H2 (g1.trans g2) (.cons (s1.gw ((e.gs g1).bw.gw g2)) s2) p
theorem BW.notNew {B W : List Addr} {H : Hp} {p : Addr} (b : BW B W H) (n : H p = none) : p ∉ B := fun m => b.kn p m n
theorem EV.tup {t : TA} (h : EA K t ρ fun ds => ds.length ≤ sizeLine ∧ P (.tup ds)) : EV K (tTup t) ρ P := fun B W H σ e Q q =>
  h B W H σ e _ fun vs ds H1 g1 s1 p => ⟨by rw [s1.length]; exact p.1, fun a n => q _ _ _ (g1.trans (Gs.new n)) (.tup trivial upd_same (s1.gw (Gw.new n))) p.2⟩
theorem EVN.lst {t : TA} (h : EA K t ρ fun ds => ds.length ≤ sizeLine ∧ P (.lst ds)) : EVN K (tLst t) ρ P := fun B W H σ e Q q =>
  h B W H σ e _ fun vs ds H1 g1 s1 p => ⟨by rw [s1.length]; exact p.1, fun l nl => q l (.lst ds) _ (g1.trans (Gs.new nl)) (g1.gw.free l nl) ⟨vs, upd_same, s1.out nl⟩ p.2⟩
theorem EV.lst {t : TA} (h : EA K t ρ fun ds => ds.length ≤ sizeLine ∧ P (.lst ds)) : EV K (tLst t) ρ P := (EVN.lst h).ev
theorem EVN.dnew (p : P (.dic [] [])) : EVN K tDNewK ρ P := fun B W H σ e Q q a na => q a (.dic [] []) _ (Gs.new na) na ⟨[], upd_same, rfl, .nil⟩ p
theorem EO.none {PO : Option Int → Prop} (p : PO none) : EO K tNoPart ρ PO := fun B W H σ e Q q => q _ H Gs.refl p
theorem EO.some {PO : Option Int → Prop} (h : EV K te ρ fun x => ∃ i, x = .int i ∧ PO (some i)) : EO K (tPart te) ρ PO := fun B W H σ e Q q =>
  h B W H σ e _ fun v x H1 g1 s1 h1 => by
    obtain ⟨i, rfl, p⟩ := h1
    cases s1
    exact ⟨i, rfl, q _ H1 g1 p⟩
end
end VB
namespace VB
open PySem PySem.Spec PyProof.Rows L2
/-- a dict's key as data -/
def kD : Key → PyData
  | .inl i => .int i
  | .inr x => .str x
mutual
def D.py : D → PyData
  | .non => .none
  | .bl b => .bool b
  | .int i => .int i
  | .str x => .str x
  | .tup ds => .tuple (D.pyA ds)
  | .lst ds => .list (D.pyA ds)
  | .dic ks ds => .dict ((ks.map kD).zip (D.pyA ds))
  | .ty _ => .none
  | .raw _ => .none
  | .ins _ _ _ => .none
  | .dit _ _ => .none
  | .din _ _ _ _ => .none
  | .etup => .none
def D.pyA : List D → List PyData
  | [] => []
  | d :: ds => D.py d :: D.pyA ds
end
mutual
def D.pu : D → Bool
  | .tup ds => D.puA ds
  | .lst ds => D.puA ds
  | .ty _ => false
  | .raw _ => false
  | .dic _ _ => false
  | .dit _ _ => false
  | .din _ _ _ _ => false
  | .etup => false
  | .ins _ _ _ => false
  | _ => true
def D.puA : List D → Bool
  | [] => true
  | d :: ds => D.pu d && D.puA ds
end
section
variable {K : PySem.W.Frag} {B : List Addr} {H : Hp}
mutual
theorem Sg.dp : ∀ {v : V} {d : D}, Sg K B H v d → d.pu = true → Dp K H v d.py
  | _, _, .non, _ => .non
  | _, _, .bl b, _ => .bl b
  | _, _, .int i, _ => .int i
  | _, _, .str x, _ => .str x
  | _, _, .ty n, p => by simp [D.pu] at p
  | _, _, .raw a, p => by simp [D.pu] at p
  | _, _, .dic _ _ _ _, p => by simp [D.pu] at p
  | _, _, .dit _ _ _ _, p => by simp [D.pu] at p
  | _, _, .din _ _ _ _ _, p => by simp [D.pu] at p
  | _, _, .ins _ _ _ _, p => by simp [D.pu] at p
  | _, _, .tup n h r, p => by
    unfold D.py
    exact .tup (Or.inl (Rd.of h)) (SgA.dp r (by simpa [D.pu] using p))
  | _, _, .etup _, p => by simp [D.pu] at p
  | _, _, .lst n h r, p => by
    unfold D.py
    exact .lst (SqL.of h) (SgA.dp r (by simpa [D.pu] using p))
theorem SgA.dp : ∀ {vs : List V} {ds : List D}, SgA K B H vs ds → D.puA ds = true → DpAll K H vs (D.pyA ds)
  | _, _, .nil, _ => .nil
  | _, _, .cons h r, p => by
    have q := Bool.and_eq_true_iff.mp (show (_ && _) = true from p)
    exact .cons (Sg.dp h q.1) (SgA.dp r q.2)
end
theorem SgA.atI {xs : List V} {ds : List D} {i : Int} {d : D} (r : SgA K B H xs ds) (e : atI ds i = some d) : ∃ v, atI xs i = some v ∧ Sg K B H v d := by
  unfold L2.atI at e ⊢
  rw [r.length]
  cases h : ixN ds.length i with
  | none =>
    rw [h] at e
    cases e
  | some j =>
    rw [h] at e
    exact r.get (show ds[j]? = some d from e)
end
theorem atI_map {α β : Type} {f : α → β} {xs : List α} {i : Int} {x : α} (h : atI xs i = some x) : atI (xs.map f) i = some (f x) := by
  unfold L2.atI at h ⊢
  rw [List.length_map]
  cases e : ixN xs.length i with
  | none =>
    rw [e] at h
    cases h
  | some j =>
    rw [e] at h
    have h2 : xs[j]? = some x := h
    show (xs.map f)[j]? = some (f x)
    rw [List.getElem?_map, h2]
    rfl
/-- a slice of a list -/
def cutG {α : Type} (xs : List α) (lo hi : Option Int) : List α := (xs.drop (HT.sIx xs.length 0 lo)).take (HT.sIx xs.length xs.length hi - HT.sIx xs.length 0 lo)
def SD (K : PySem.W.Frag) (r : V → Option Int → Option Int → Hp → VK → Prop) (x : D) (lo hi : Option Int) (P : D → Prop) : Prop := ∀ (B W : List Addr) (H : Hp) (v : V), BW B W H → Sg K B H v x → ∀ Q : VK, (∀ z d H', Gs W H H' → Sg K B H' z d → P d → Q z H') → r v lo hi H Q
section
variable {K : PySem.W.Frag} {P : D → Prop} {ρ : List En}
theorem EV.sl {r : V → Option Int → Option Int → Hp → VK → Prop} {te : TE} {tl th : L2.St → Hp → (Option Int → Hp → Prop) → Prop} (h : EV K te ρ fun x => EO K tl ρ fun lo => EO K th ρ fun hi => SD K r x lo hi P) : EV K (tSl r te tl th) ρ P := fun B W H σ e Q q =>
  h B W H σ e _ fun v x H1 g1 s1 h1 => h1 B W H1 σ (e.gs g1) _ fun lo H2 g2 h2 => h2 B W H2 σ ((e.gs g1).gs g2) _ fun hi H3 g3 h3 =>
    h3 B W H3 v (((e.gs g1).gs g2).gs g3).bw (s1.gw ((e.gs g1).bw.gw (g2.trans g3))) Q fun z d H4 g4 s4 p => q z d H4 (((g1.trans g2).trans g3).trans g4) s4 p
theorem SgA.cut {B : List Addr} {H : Hp} {xs : List V} {ds : List D} (r : SgA K B H xs ds) (lo hi : Option Int) : SgA K B H (cutV xs lo hi) (cutG ds lo hi) := by
  unfold cutV cutG
  rw [r.length]
  exact (r.drop _).take _
theorem cutG_whole {α : Type} {xs : List α} {lo hi : Option Int} (h : HT.sIx xs.length 0 lo = 0 ∧ HT.sIx xs.length xs.length hi = xs.length) : cutG xs lo hi = xs := by
  unfold cutG
  rw [h.1, h.2]
  simp
theorem SD.slA {ds : List D} {lo hi : Option Int} (p : P (.tup (cutG ds lo hi))) : SD K (rSlA K) (.tup ds) lo hi P := fun B W H v b sv Q q => by
  have go : ∀ {a : Addr}, Sg K B H (.ref a) (.tup ds) → rSlA K (.ref a) lo hi H Q := fun {a} s => by
    obtain ⟨xs, h, r⟩ := s.sqT
    refine ⟨_, _, rfl, h, fun w => ?_, fun w a na => q _ _ _ (Gs.new na) (.tup trivial upd_same ((r.cut lo hi).gw (Gw.new na))) p⟩
    rw [r.length] at w
    rw [cutG_whole w] at p
    exact q _ _ H Gs.refl s p
  cases sv with
  | tup n h r => exact go (.tup n h r)
end
section
variable {K : PySem.W.Frag} {P : D → Prop} {ρ : List En}
theorem EV.neg {ta : TE} (h : EV K ta ρ fun x => ∃ i, x = .int i ∧ P (.int (-i))) : EV K (tUn (rU fun i => .int (-i)) ta) ρ P := EV.un (EV.imp h fun x ⟨i, e, p⟩ => ⟨i, -i, e, fun _ _ q => ⟨i, rfl, q⟩, p⟩)
theorem RC.abs {i : Int} (p : P (.int (if i < 0 then -i else i))) : RC K (fun xs H Q => ∃ i, xs = [.int i] ∧ Q (.int (if i < 0 then -i else i)) H) ρ [.int i] P := fun B W H σ vs e s Q q => by
  cases s with
  | cons s1 s2 =>
    cases s2
    cases s1
    exact ⟨i, rfl, q _ _ H Gs.refl (.int _) p⟩
theorem RC.all {bs : List Bool} (p : P (.bl (bs.all id))) : RC K (rAll K) ρ [.lst (bs.map D.bl)] P := fun B W H σ vs e s Q q => by
  cases s with
  | cons s1 s2 =>
    cases s2
    cases s1 with
    | lst n h r =>
      rw [r.bls] at h
      exact ⟨_, bs, rfl, SqL.of h, q _ _ H Gs.refl (.bl _) p⟩
theorem RC.any {bs : List Bool} (p : P (.bl (bs.any id))) : RC K (rAny K) ρ [.lst (bs.map D.bl)] P := fun B W H σ vs e s Q q => by
  cases s with
  | cons s1 s2 =>
    cases s2
    cases s1 with
    | lst n h r =>
      rw [r.bls] at h
      exact ⟨_, bs, rfl, SqL.of h, q _ _ H Gs.refl (.bl _) p⟩
/-- the name of a built-in type -/
def D.tyn : D → Option String
  | .non => some "NoneType"
  | .bl _ => some "bool"
  | .int _ => some "int"
  | .str _ => some "str"
  | .tup _ => some "tuple"
  | .lst _ => some "list"
  | .dic _ _ => some "dict"
  | .etup => some "tuple"
  | _ => none
theorem Sg.tyx {B : List Addr} {H : Hp} {v : V} {d : D} {n : String} (s : Sg K B H v d) (e : d.tyn = some n) : TyX K H v (.type n) := by
  cases s with
  | non => cases e; exact .base .non
  | bl b => cases e; exact .base (.bl b)
  | int i => cases e; exact .base (.int i)
  | str x => cases e; exact .base (.str x)
  | ty n => cases e
  | raw a => cases e
  | tup n h r =>
    cases e
    exact .base (.tup h)
  | lst n h r => cases e; exact .base (.lst h)
  | dic n h _ r =>
    cases e
    rcases h with h | ⟨o, h⟩
    · exact .base (.dK h)
    · exact .fDict h
  | dit n h _ r => cases e
  | din n h _ q r => cases e
  | etup h =>
    cases e
    rcases h (fun _ => none) with (z | ⟨o, z⟩) | ⟨o, its, n, h1, h2, _⟩
    · cases z
    · cases z
    · exact .kTuple h1 h2
  | ins n h _ r => cases e
theorem RC.isi {d : D} {n c : String} {b : Bool} (e : d.tyn = some n) (hk : kitB n c = some b) (p : P (.bl b)) : RC K (rIsi K) ρ [d, .ty c] P := fun B W H σ vs ev s Q q => by
  cases s with
  | cons s1 s2 =>
    cases s2 with
    | cons s2 s3 =>
      cases s3
      cases s2
      exact ⟨_, _, _, _, b, rfl, .ty c, s1.tyx e, kit_ty hk, q _ _ H Gs.refl (.bl _) p⟩
theorem EV.join {to te : TE} (h : EV K to ρ fun x => ∃ a : Str, x = .str a ∧ EV K te ρ fun y => ∃ ys : List Str, y = .lst (ys.map D.str) ∧ (ys.map (·.length)).sum + ys.length * a.length ≤ 16777216 ∧ P (.str (Txt.join a ys))) :
    EV K (tM1 (rJoinK K) to te) ρ P := fun B W H σ e Q q =>
  h B W H σ e _ fun v x H1 g1 s1 h1 => by
    obtain ⟨a, rfl, h1⟩ := h1
    cases s1
    refine ⟨⟨a, rfl⟩, h1 B W H1 σ (e.gs g1) _ fun u y H2 g2 s2 h2 => ?_⟩
    obtain ⟨ys, rfl, hz, p⟩ := h2
    cases s2 with
    | lst n h r =>
      rw [r.strs] at h
      exact ⟨a, _, ys, rfl, rfl, Or.inl (SqL.of h), hz, q _ _ H2 (g1.trans g2) (.str _) p⟩
theorem EV.split {to te : TE} (h : EV K to ρ fun x => ∃ a : Str, x = .str a ∧ EV K te ρ fun y => ∃ b : Str, y = .str b ∧ (b.length == 0) = false ∧ a.length + 2 ≤ sizeLine ∧ P (.lst ((Txt.split a b).map D.str))) :
    EV K (tM1 rSplitK to te) ρ P := fun B W H σ e Q q =>
  h B W H σ e _ fun v x H1 g1 s1 h1 => by
    obtain ⟨a, rfl, h1⟩ := h1
    cases s1
    refine ⟨⟨a, rfl⟩, h1 B W H1 σ (e.gs g1) _ fun u y H2 g2 s2 h2 => ?_⟩
    obtain ⟨b, rfl, hb, hz, p⟩ := h2
    cases s2
    exact ⟨a, b, rfl, rfl, hb, hz, fun a na => q _ _ _ ((g1.trans g2).trans (Gs.new na)) (.lst (((e.gs g1).gs g2).bw.notNew na) upd_same SgA.ofStrs) p⟩
end
theorem Gs.mut {W : List Addr} {H H1 : Hp} {p : Addr} {o : HO} (g : Gs W H H1) (n : H p = none) : Gs W H (upd H1 p o) :=
  ⟨⟨fun a u na e => by
    rw [upd_ne (ne_of_none e n)]
    exact g.gw.keep a u na e, fun a e => by
    by_cases h : a = p
    · rw [h]
      exact n
    · rw [upd_ne h] at e
      exact g.gw.free a e, fun a xs e => by
    rw [upd_ne (ne_of_none e n)]
    exact g.gw.tups a xs e⟩, fun b m c ns nc h => (g.bag b m c ns nc h).wr (by
    obtain ⟨⟨z, s, i, e, v⟩, _⟩ := h
    exact ne_of_none e n) (ne_of_none h.2.1 n)⟩
/-- the state of a comprehension's block between two turns: Dl the new list, es what it holds -/
def LcI (K : PySem.W.Frag) (B W : List Addr) (H1 : Hp) (Dl : Addr) (σ : L2.St) (ρ : List En) (Rel : Nat → List D → Prop) (i : Nat) (H : Hp) : Prop :=
  ∃ (acc : List V) (es : List D), H Dl = some (.lst acc) ∧ SgA K (Dl :: B) H acc es ∧ es.length ≤ i ∧ Rel i es ∧ EnvOk K (Dl :: B) W H σ ρ ∧ Gs W H1 H
section
variable {K : PySem.W.Frag} {P : D → Prop} {ρ : List En} {te : TE} {tt : TT} {j : Nat}
theorem LcI.start {B W : List Addr} {H1 : Hp} {Dl : Addr} {σ : L2.St} {Rel : Nat → List D → Prop} (e : EnvOk K B W H1 σ ρ) (n : H1 Dl = none) (h0 : Rel 0 []) : LcI K B W H1 Dl (wipe σ [j]) (ρ.set j .no) Rel 0 (upd H1 Dl (.lst [])) :=
  ⟨[], [], upd_same, .nil, Nat.le_refl _, h0, (e.out n).clr, Gs.new n⟩
theorem LcI.done {B W : List Addr} {H1 H : Hp} {Dl : Addr} {σ' : L2.St} {ρ' : List En} {Rel : Nat → List D → Prop} {i : Nat} {Q : VK} (h : LcI K B W H1 Dl σ' ρ' Rel i H) (hP : ∀ es, Rel i es → es.length ≤ i → P (.lst es))
    (q : ∀ d H', Gs W H1 H' → OwAt K (Dl :: B) H' Dl d → P d → Q (.ref Dl) H') : Q (.ref Dl) H := by
  obtain ⟨acc, es, hD, sa, hl, hr, _, g⟩ := h
  exact q (.lst es) H g ⟨acc, hD, sa⟩ (hP es hr hl)
end
mutual
theorem Sg.mv {K : PySem.W.Frag} {B B' : List Addr} {H H' : Hp} (hk : ∀ a o, a ∉ B → H a = some o → H' a = some o) (ht : ∀ a xs, H a = some (.tup xs) → H' a = some (.tup xs)) (hb : ∀ a ∈ B', a ∈ B ∨ H a = none) : ∀ {v : V} {d : D}, Sg K B H v d → Sg K B' H' v d
  | _, _, .non => .non
  | _, _, .bl b => .bl b
  | _, _, .int i => .int i
  | _, _, .str x => .str x
  | _, _, .ty n => .ty n
  | _, _, .raw a => .raw a
  | _, _, .tup m h r => .tup m (ht _ _ h) (SgA.mv hk ht hb r)
  | _, _, .etup h => .etup h
  | _, _, .lst m h r => .lst (fun z => (hb _ z).elim m fun n => ne_of_none h n rfl) (hk _ _ m h) (SgA.mv hk ht hb r)
  | _, _, .dic m h e r => .dic (fun z => (hb _ z).elim m fun n => rd_kn h n rfl) (rd_map h fun _ => hk _ _ m) e (SgA.mv hk ht hb r)
  | _, _, .dit m h e r => .dit (fun z => (hb _ z).elim m fun n => rd_kn h n rfl) (rd_map h fun _ => hk _ _ m) e (SgA.mv hk ht hb r)
  | _, _, .din m h e q r => .din (fun z => (hb _ z).elim m fun n => rd_kn h n rfl) (rd_map h fun _ => hk _ _ m) e (SgA.mv hk ht hb q) (SgA.mv hk ht hb r)
  | _, _, .ins m h e r => .ins (fun z => (hb _ z).elim m fun n => ne_of_none h n rfl) (hk _ _ m h) e (SgA.mv hk ht hb r)
theorem SgA.mv {K : PySem.W.Frag} {B B' : List Addr} {H H' : Hp} (hk : ∀ a o, a ∉ B → H a = some o → H' a = some o) (ht : ∀ a xs, H a = some (.tup xs) → H' a = some (.tup xs)) (hb : ∀ a ∈ B', a ∈ B ∨ H a = none) : ∀ {vs : List V} {ds : List D}, SgA K B H vs ds → SgA K B' H' vs ds
  | _, _, .nil => .nil
  | _, _, .cons h r => .cons (Sg.mv hk ht hb h) (SgA.mv hk ht hb r)
end
/-- heaps between two states of a frame: all stays but W and the frame's own objects U; U' = the own ones behind -/
structure Gu (W : List Addr) (U U' : Addr → Prop) (H H' : Hp) : Prop where
  keep : ∀ a o, a ∉ W → ¬ U a → H a = some o → H' a = some o
  free : ∀ a, H' a = none → H a = none
  bag : ∀ b, b ∈ W → ∀ c ns, c ∉ W → ¬ U c → BagC H b c ns → BagC H' b c ns
  own : ∀ a, U' a → U a ∨ H a = none
  tups : ∀ a xs, H a = some (.tup xs) → H' a = some (.tup xs)
theorem Gu.of {W : List Addr} {U U' : Addr → Prop} {H H' : Hp} (g : Gs W H H') (o : ∀ a, U' a → U a) : Gu W U U' H H' :=
  ⟨fun a u n _ e => g.gw.keep a u n e, g.gw.free, fun b m c ns n _ h => g.bag b m c ns n h, fun a u => .inl (o a u), g.gw.tups⟩
theorem Gu.trans {W : List Addr} {U U1 U2 : Addr → Prop} {H H1 H2 : Hp} (a : Gu W U U1 H H1) (b : Gu W U1 U2 H1 H2) : Gu W U U2 H H2 := by
  have nu : ∀ x o, ¬ U x → H x = some o → ¬ U1 x := fun x o n e u => (a.own x u).elim n fun z => by
    rw [e] at z
    cases z
  refine ⟨fun x o n nx e => b.keep x o n (nu x o nx e) (a.keep x o n nx e), fun x z => a.free x (b.free x z), fun x m c ns n nc h => b.bag x m c ns n (nu c _ nc h.2.1) (a.bag x m c ns n nc h), fun x u => ?_, fun x xs e => b.tups x xs (a.tups x xs e)⟩
  rcases b.own x u with z | z
  · exact a.own x z
  · exact .inr (a.free x z)
theorem Gu.gs {W : List Addr} {U U' : Addr → Prop} {H H' : Hp} (g : Gu W U U' H H') (n : ∀ a, ¬ U a) : Gs W H H' := ⟨⟨fun a o m e => g.keep a o m (n a) e, g.free, g.tups⟩, fun b m c ns q h => g.bag b m c ns q (n c) h⟩
/-- F: what is left out for good; B: that, and the frame's own objects -/
structure Fr (F B W : List Addr) (σ : L2.St) (ρ : List En) : Prop where
  fb : ∀ a ∈ F, a ∈ B
  bf : ∀ a ∈ B, a ∈ F ∨ Own σ ρ a
  no : ∀ a ∈ F, ¬ Own σ ρ a
  wf : ∀ a ∈ W, a ∈ F
section
variable {K : PySem.W.Frag} {F B W : List Addr} {H H' : Hp} {σ σ' : L2.St} {ρ ρ' : List En}
open Classical in
theorem EnvOk.fix (e : EnvOk K B W H σ ρ) (fb : ∀ a ∈ F, a ∈ B) (no : ∀ a ∈ F, ¬ Own σ ρ a) (wf : ∀ a ∈ W, a ∈ F) : ∃ B', EnvOk K B' W H σ ρ ∧ Fr F B' W σ ρ := by
  have mem : ∀ x, x ∈ B.filter (fun x => decide (x ∈ F ∨ Own σ ρ x)) ↔ x ∈ B ∧ (x ∈ F ∨ Own σ ρ x) := fun x => by
    rw [List.mem_filter, decide_eq_true_iff]
  refine ⟨B.filter (fun x => decide (x ∈ F ∨ Own σ ρ x)), e.back (fun x m => ((mem x).mp m).1) (fun x m => (mem x).mpr ⟨e.bw.sub x m, .inl (wf x m)⟩) (fun x o => (mem x).mpr ⟨(e.ownB o).1, .inr o⟩), ?_⟩
  exact ⟨fun x m => (mem x).mpr ⟨fb x m, .inl m⟩, fun x m => ((mem x).mp m).2, no, wf⟩
theorem EnvOk.setF {i : Nat} {v : V} {d : D} (e : EnvOk K B W H σ ρ) (f : Fr F B W σ ρ) (s : Sg K B H v d) : ∃ B', EnvOk K B' W H (σ.set i (some v)) (ρ.set i (.dat d)) ∧ Fr F B' W (σ.set i (some v)) (ρ.set i (.dat d)) :=
  (e.set s).fix f.fb (fun a m o => f.no a m (Own.set o rfl)) f.wf
theorem gu_set {i : Nat} {v : Option V} {d : D} (g : Gs W H H') : Gu W (Own σ ρ) (Own (σ.set i v) (ρ.set i (.dat d))) H H' := .of g fun _ o => Own.set o rfl
theorem Sg.gu {B' : List Addr} {v : V} {d : D} (s : Sg K B H v d) (e : EnvOk K B W H σ ρ) (f : Fr F B W σ ρ) (g : Gu W (Own σ ρ) (Own σ' ρ') H H') (f' : Fr F B' W σ' ρ') : Sg K B' H' v d := by
  refine s.mv (fun a o n h => g.keep a o (fun m => n (e.bw.sub a m)) (fun q => n (e.ownB q).1) h) g.tups fun a m => ?_
  rcases f'.bf a m with z | z
  · exact .inl (f.fb a z)
  · rcases g.own a z with z | z
    · exact .inl (e.ownB z).1
    · exact .inr z
end
/-- how a way on is taken -/
def Cn (K : PySem.W.Frag) (F W : List Addr) (H : Hp) (σ : L2.St) (ρ : List En) (M : List En → Prop) (Q : L2.St → Hp → Prop) : Prop :=
  ∀ (ρ' : List En) (σ' : L2.St) (H' : Hp) (B' : List Addr), Gu W (Own σ ρ) (Own σ' ρ') H H' → EnvOk K B' W H' σ' ρ' → Fr F B' W σ' ρ' → M ρ' → Q σ' H'
/-- what is handed back: data (fr = false), or an object of the frame's own (fr = true) -/
def Rv (K : PySem.W.Frag) (fr : Option Bool) (F : List Addr) (σ : L2.St) (ρ : List En) (H H' : Hp) (v : V) (d : D) : Prop := match fr with
  | some false => Sg K F H' v d
  | some true => ∃ a, v = .ref a ∧ (Own σ ρ a ∨ H a = none) ∧ OwAt K (a :: F) H' a d
  | none => SnP K F (fun a => Own σ ρ a ∨ H a = none) H' v d
def Cr (K : PySem.W.Frag) (fr : Option Bool) (F W : List Addr) (H : Hp) (σ : L2.St) (ρ : List En) (M : D → Prop) (Q : V → Hp → Prop) : Prop :=
  ∀ (v : V) (d : D) (H' : Hp), Gu W (Own σ ρ) (fun _ => False) H H' → Rv K fr F σ ρ H H' v d → M d → Q v H'
section
variable {K : PySem.W.Frag} {F W : List Addr} {H H1 : Hp} {σ σ1 : L2.St} {ρ ρ1 : List En}
theorem Cn.after {M : List En → Prop} {Q : L2.St → Hp → Prop} (c : Cn K F W H σ ρ M Q) (g : Gu W (Own σ ρ) (Own σ1 ρ1) H H1) : Cn K F W H1 σ1 ρ1 M Q := fun ρ' σ' H' B' g' => c ρ' σ' H' B' (g.trans g')
theorem Cr.after {fr : Option Bool} {M : D → Prop} {Q : V → Hp → Prop} (c : Cr K fr F W H σ ρ M Q) (g : Gu W (Own σ ρ) (Own σ1 ρ1) H H1) : Cr K fr F W H1 σ1 ρ1 M Q := fun v d H' g' r => c v d H' (g.trans g') (by
  match fr, r with
  | some false, r => exact r
  | some true, r =>
    obtain ⟨a, e, n, k⟩ := r
    exact ⟨a, e, n.elim (fun o => g.own a o) fun n => .inr (g.free a n), k⟩
  | none, r => exact SnP.imp (fun a n => n.elim (fun o => g.own a o) fun n => .inr (g.free a n)) r)
end
structure Po where
  nx : List En → Prop
  rt : D → Prop
  bk : List En → Prop := fun _ => False
  ct : List En → Prop := fun _ => False
  fr : Option Bool := some false
def ST (K : PySem.W.Frag) (t : TS) (ρ : List En) (P : Po) : Prop := ∀ (F B W : List Addr) (H : Hp) (σ : L2.St), EnvOk K B W H σ ρ → Fr F B W σ ρ → ∀ E : Ends,
  Cn K F W H σ ρ P.nx E.nx → Cr K P.fr F W H σ ρ P.rt E.rt → Cn K F W H σ ρ P.bk E.bk → Cn K F W H σ ρ P.ct E.ct → t E σ H
section
variable {K : PySem.W.Frag} {P : Po} {ρ : List En} {te : TE} {tt : TT} {t u : TS} {ta : TA} {i j : Nat}
theorem ST.seq (h : ST K t ρ { P with nx := fun ρ' => ST K u ρ' P }) : ST K (tSeq t u) ρ P := fun F B W H σ e f E q1 q2 q3 q4 =>
  h F B W H σ e f { E with nx := u E } (fun ρ' σ' H' B' g e' f' p => p F B' W H' σ' e' f' E (q1.after g) (q2.after g) (q3.after g) (q4.after g)) q2 q3 q4
/-- M: what holds between the two -/
theorem ST.cut (M : List En → Prop) (h : ST K t ρ { P with nx := M }) (k : ∀ ρ', M ρ' → ST K u ρ' P) : ST K (Evl.tCut t u) ρ P := fun F B W H σ e f E q1 q2 q3 q4 =>
  ⟨fun σ' H' => ∃ ρ' B', Gu W (Own σ ρ) (Own σ' ρ') H H' ∧ EnvOk K B' W H' σ' ρ' ∧ Fr F B' W σ' ρ' ∧ M ρ',
    h F B W H σ e f { E with nx := fun σ' H' => ∃ ρ' B', Gu W (Own σ ρ) (Own σ' ρ') H H' ∧ EnvOk K B' W H' σ' ρ' ∧ Fr F B' W σ' ρ' ∧ M ρ' } (fun ρ' σ' H' B' g e' f' m => ⟨ρ', B', g, e', f', m⟩) q2 q3 q4,
    fun σ' H' ⟨ρ', B', g, e', f', m⟩ => k ρ' m F B' W H' σ' e' f' E (q1.after g) (q2.after g) (q3.after g) (q4.after g)⟩
theorem ST.next (h : P.nx ρ) : ST K tNext ρ P := fun F B W H σ e f E q1 q2 q3 q4 => q1 ρ σ H B (.of Gs.refl fun _ o => o) e f h
theorem ST.brk (h : P.bk ρ) : ST K tBreak ρ P := fun F B W H σ e f E q1 q2 q3 q4 => q3 ρ σ H B (.of Gs.refl fun _ o => o) e f h
theorem ST.cont (h : P.ct ρ) : ST K tCont ρ P := fun F B W H σ e f E q1 q2 q3 q4 => q4 ρ σ H B (.of Gs.refl fun _ o => o) e f h
theorem ST.asg (h : EV K te ρ fun d => ∀ ρ', ρ' = ρ.set i (.dat d) → P.nx ρ') : ST K (tAsg te (gName i)) ρ P := fun F B W H σ e f E q1 q2 q3 q4 =>
  h B W H σ e _ fun v d H1 g1 s1 p => by
    obtain ⟨B', e2, f2⟩ := (e.gs g1).setF (i := i) f s1
    exact q1 _ _ H1 B' (gu_set g1) e2 f2 (p _ rfl)
theorem ST.ret (h : EV K te ρ P.rt) (hf : P.fr = false := by rfl) : ST K (tRet te) ρ P := fun F B W H σ e f E q1 q2 q3 q4 => h B W H σ e _ fun v d H1 g1 s1 p => q2 v d H1 (.of g1 fun _ z => z.elim) (by rw [hf]; exact s1.less f.fb) p
/-- a new object is handed back -/
theorem ST.retF (h : EVN K te ρ P.rt) (hf : P.fr = true := by rfl) : ST K (tRet te) ρ P := fun F B W H σ e f E q1 q2 q3 q4 => h B W H σ e _ fun a d H1 g1 n k p => q2 (.ref a) d H1 (.of g1 fun _ z => z.elim) (by
  rw [hf]
  exact ⟨a, rfl, .inr n, k.mv (fun _ z => z) fun _ _ r => r.less fun x m => (List.mem_cons.mp m).elim (fun z => z ▸ List.mem_cons_self ..) fun m => List.mem_cons_of_mem _ (f.fb x m)⟩) p
/-- a local's own object is handed back -/
theorem ST.retO {d : Ow} (hi : ρ[i]? = some (.own d)) (p : P.rt d.d) (hf : P.fr = true := by rfl) : ST K (tRet (tVar i)) ρ P := fun F B W H σ e f E q1 q2 q3 q4 => by
  obtain ⟨a, e1, aB, aW, k⟩ := e.sl i _ hi
  refine ⟨.ref a, e1, q2 (.ref a) d.d H (.of Gs.refl fun _ z => z.elim) ?_ p⟩
  rw [hf]
  exact ⟨a, rfl, .inl ⟨i, d, hi, e1⟩, k.2.mv (fun _ z => z) fun _ _ r => r.less fun x m => (List.mem_cons.mp m).elim (fun z => z ▸ aB) fun m => f.fb x m⟩
/-- a local's own object is data from here on -/
theorem ST.frz {d : Ow} (hi : ρ[i]? = some (.own d)) (h : ST K t (ρ.set i (.dat d.d)) P) : ST K t ρ P := fun F B W H σ e f E q1 q2 q3 q4 => by
  obtain ⟨a, B', e1, mem, e2⟩ := e.frz hi
  have e0 : σ.set i (some (.ref a)) = σ := by
    obtain ⟨hl, hv⟩ := List.getElem?_eq_some_iff.mp e1
    have q : σ.set i σ[i] = σ := List.set_getElem_self hl
    rw [hv] at q
    exact q
  have os : ∀ x, Own σ (ρ.set i (.dat d.d)) x → Own σ ρ x := fun x o => by
    have z := Own.set (σ := σ) (ρ := ρ) (i := i) (o := some (.ref a)) (e := .dat d.d) (p := x) (by rw [e0]; exact o) rfl
    exact z
  have fa : a ∉ F := fun m => f.no a m ⟨i, d, hi, e1⟩
  obtain ⟨B2, e3, f3⟩ := e2.fix (F := F) (fun x m => (mem x).mpr ⟨f.fb x m, fun q => fa (q ▸ m)⟩) (fun x m o => f.no x m (os x o)) f.wf
  have g : Gu W (Own σ ρ) (Own σ (ρ.set i (.dat d.d))) H H := .of Gs.refl os
  exact h F B2 W H σ e3 f3 E (q1.after g) (q2.after g) (q3.after g) (q4.after g)
/-- a new object becomes a local's own -/
theorem ST.asgO (h : EVN K te ρ fun d => ∀ ρ', ρ' = ρ.set i (.own ⟨none, d⟩) → P.nx ρ') : ST K (tAsg te (gName i)) ρ P := fun F B W H σ e f E q1 q2 q3 q4 =>
  h B W H σ e _ fun a d H1 g1 n k p => by
    have e2 := e.addO (i := i) g1 n k
    have aF : a ∉ F := fun m => e.bw.kn a (f.fb a m) n
    have os : ∀ x, Own (σ.set i (some (.ref a))) (ρ.set i (.own ⟨none, d⟩)) x → Own σ ρ x ∨ x = a := fun x ⟨j, dj, h1, h2⟩ => by
      by_cases z : i = j
      · subst z
        have hl : i < σ.length := by
          have := (List.getElem?_eq_some_iff.mp h2).1
          rw [List.length_set] at this
          exact this
        rw [List.getElem?_set_self hl] at h2
        cases h2
        exact .inr rfl
      · rw [List.getElem?_set_ne z] at h1 h2
        exact .inl ⟨j, dj, h1, h2⟩
    obtain ⟨B2, e3, f3⟩ := e2.fix (F := F) (fun x m => List.mem_cons_of_mem _ (f.fb x m)) (fun x m o => (os x o).elim (f.no x m) fun z => aF (z ▸ m)) f.wf
    refine q1 _ _ H1 B2 ⟨fun x o nw _ ex => g1.gw.keep x o nw ex, g1.gw.free, fun b m c ns nc _ hb => g1.bag b m c ns nc hb, fun x o => ?_, g1.gw.tups⟩ e3 f3 (p _ rfl)
    rcases os x o with z | z
    · exact .inl z
    · exact .inr (z ▸ n)
theorem ST.drop (h : EV K te ρ fun _ => P.nx ρ) : ST K (tDrop te) ρ P := fun F B W H σ e f E q1 q2 q3 q4 => h B W H σ e _ fun v d H1 g1 s1 p => q1 _ _ H1 B (.of g1 fun _ o => o) (e.gs g1) f p
theorem ST.ifs (h : ET K tt ρ fun b => if b = true then ST K t ρ P else ST K u ρ P) : ST K (tIfS tt t u) ρ P := fun F B W H σ e f E q1 q2 q3 q4 =>
  h B W H σ e _ fun b H1 g1 h1 => by
    have g := Gu.of (U := Own σ ρ) g1 fun _ o => o
    cases b with
    | true =>
      rw [if_pos rfl] at h1 ⊢
      exact h1 F B W H1 σ (e.gs g1) f E (q1.after g) (q2.after g) (q3.after g) (q4.after g)
    | false =>
      rw [if_neg Bool.false_ne_true] at h1 ⊢
      exact h1 F B W H1 σ (e.gs g1) f E (q1.after g) (q2.after g) (q3.after g) (q4.after g)
theorem ET.imp {A A' : Bool → Prop} (h : ET K tt ρ A) (k : ∀ b, A b → A' b) : ET K tt ρ A' := fun B W H σ e Q q => h B W H σ e _ fun b H1 g1 h1 => q b H1 g1 (k b h1)
theorem ST.par (h : EA K ta ρ fun ds => ∃ x y, ds = [x, y] ∧ ∀ ρ', ρ' = (ρ.set i (.dat x)).set j (.dat y) → P.nx ρ') : ST K (tPar i j ta) ρ P := fun F B W H σ e f E q1 q2 q3 q4 =>
  h B W H σ e _ fun vs ds H1 g1 s1 p => by
    obtain ⟨x, y, rfl, p⟩ := p
    cases s1 with
    | cons s1 s2 =>
      cases s2 with
      | cons s2 s3 =>
        cases s3
        obtain ⟨B1, e1, f1⟩ := (((e.gs g1).set (i := i) s1).set (i := j) s2).fix f.fb (fun a m o => f.no a m (Own.set (Own.set o rfl) rfl)) f.wf
        exact ⟨_, _, rfl, q1 _ _ H1 B1 (.of g1 fun _ o => Own.set (Own.set o rfl) rfl) e1 f1 (p _ rfl)⟩
end
/-- an argument as it is handed over: data, or a bag by its address -/
def D.en : D → En
  | .raw b => .bag b
  | d => .dat d
theorem en_no (d : D) : d.en.isOwn = false := by cases d <;> rfl
theorem no_own {ds : List D} {n : Nat} : (ds.map D.en ++ List.replicate n En.no).all (fun e => !e.isOwn) = true := by
  rw [List.all_append, List.all_map, Bool.and_eq_true_iff, List.all_eq_true, List.all_eq_true]
  refine ⟨fun d _ => ?_, fun e m => ?_⟩
  · show (!d.en.isOwn) = true
    rw [en_no]
    rfl
  · rw [(List.mem_replicate.mp m).2]
    rfl
theorem not_own {σ : L2.St} {ρ : List En} (h : ρ.all (fun e => !e.isOwn) = true) (a : Addr) : ¬ Own σ ρ a := fun ⟨i, d, h1, _⟩ => by
  have := List.all_eq_true.mp h _ (List.mem_of_getElem? h1)
  cases this
/-- a promise over data: the arguments are enc x for some x of dom, post tells the answer -/
def spA (K : PySem.W.Frag) {α : Type} (enc : α → List D) (dom : α → Prop) (post : α → D → Prop) : Sp := fun vs H Q _ => ∃ (B W : List Addr) (x : α), EnvOk K B W H (vs.map some) ((enc x).map D.en) ∧ dom x ∧ ∀ v d H', Gs W H H' → Sg K B H' v d → post x d → Q v H'
theorem spA_len {K : PySem.W.Frag} {α : Type} {enc : α → List D} {dom : α → Prop} {post : α → D → Prop} {n : Nat} {vs : List V} {H : Hp} {Q : VK} {E : XK} (h : spA K enc dom post vs H Q E) (hp : ∀ x, (enc x).length = n) : vs.length = n := by
  obtain ⟨B, W, x, e, p, _⟩ := h
  have := e.len
  rw [List.length_map, List.length_map] at this
  rw [this]
  exact hp x
theorem Sg.en {K : PySem.W.Frag} {B W : List Addr} {H : Hp} {σ : L2.St} {ρ : List En} {v : V} {d : D} (e : EnvOk K B W H σ ρ) (s : Sg K B H v d) (hb : ∀ b, d = .raw b → En.bag b ∈ ρ) : EnOk K B W H (some (some v)) d.en := by
  cases d with
  | raw b =>
    cases s
    obtain ⟨i, hi, ei⟩ := List.mem_iff_getElem.mp (hb b rfl)
    have q : ρ[i]? = some (.bag b) := by rw [List.getElem?_eq_getElem hi, ei]
    obtain ⟨_, h2⟩ := e.sl i _ q
    exact ⟨rfl, h2⟩
  | non => exact ⟨v, rfl, s⟩
  | bl b => exact ⟨v, rfl, s⟩
  | int b => exact ⟨v, rfl, s⟩
  | str b => exact ⟨v, rfl, s⟩
  | ty b => exact ⟨v, rfl, s⟩
  | tup b => exact ⟨v, rfl, s⟩
  | lst b => exact ⟨v, rfl, s⟩
  | dic b c => exact ⟨v, rfl, s⟩
  | dit b c => exact ⟨v, rfl, s⟩
  | din _ _ _ _ => exact ⟨v, rfl, s⟩
  | etup => exact ⟨v, rfl, s⟩
  | ins b c d => exact ⟨v, rfl, s⟩
theorem SgA.ens {K : PySem.W.Frag} {B W : List Addr} {H : Hp} {σ : L2.St} {ρ : List En} {vs : List V} {ds : List D} (e : EnvOk K B W H σ ρ) (s : SgA K B H vs ds) (hb : ∀ b, D.raw b ∈ ds → En.bag b ∈ ρ) : EnvOk K B W H (vs.map some) (ds.map D.en) := by
  refine ⟨e.bw, by rw [List.length_map, List.length_map]; exact s.length, fun i q hq => ?_, one_of (by have z := no_own (ds := ds) (n := 0); rwa [List.replicate_zero, List.append_nil] at z), sep_of (by have z := no_own (ds := ds) (n := 0); rwa [List.replicate_zero, List.append_nil] at z)⟩
  rw [List.getElem?_map] at hq
  cases hd : ds[i]? with
  | none =>
    rw [hd] at hq
    cases hq
  | some d =>
    rw [hd] at hq
    cases hq
    obtain ⟨v, hv, sv⟩ := s.get hd
    rw [List.getElem?_map, hv]
    exact sv.en e fun b z => hb b (z ▸ List.mem_of_getElem? hd)
theorem EV.call {K : PySem.W.Frag} {P : D → Prop} {ρ : List En} {α : Type} {enc : α → List D} {dom : α → Prop} {post : α → D → Prop} {E : XK} {ta : TA} (h : EA K ta ρ fun ds => ∃ x, ds = enc x ∧ (∀ b, D.raw b ∈ ds → En.bag b ∈ ρ) ∧ dom x ∧ ∀ d, post x d → P d) : EV K (tCall (spA K enc dom post) [] E ta) ρ P := fun B W H σ e Q q =>
  h B W H σ e _ fun vs ds H1 g1 s1 p => by
    obtain ⟨x, rfl, hb, hd, p⟩ := p
    have e1 := e.gs g1
    refine ⟨B, W, x, ?_, hd, fun v d H2 g2 s2 p2 => q v d H2 (g1.trans g2) s2 (p d p2)⟩
    rw [List.append_nil]
    exact s1.ens e1 hb
/-- the draw's promise -/
abbrev spTake (K : PySem.W.Frag) : Sp := spA K (fun x : Addr × Int => [.raw x.1, .int x.2]) (fun x => 0 < x.2 ∧ x.2 < 2 ^ 200) fun x d => ∃ r, d = .int r ∧ 0 ≤ r ∧ r < x.2
theorem EV.take {K : PySem.W.Frag} {P : D → Prop} {ρ : List En} {E : XK} {te : TE} {i : Nat} {b : Addr} (hi : ρ[i]? = some (.bag b)) (h : EV K te ρ fun x => ∃ n : Int, x = .int n ∧ 0 < n ∧ n < 2 ^ 200 ∧ ∀ r, 0 ≤ r → r < n → P (.int r)) :
    EV K (tCall (spTake K) [] E (tCons (tVar i) (tCons te tNil))) ρ P := by
  refine EV.call (EA.cons (EV.bag hi (EA.cons (EV.imp h fun d hd => ?_))))
  obtain ⟨n, rfl, n0, n1, hr⟩ := hd
  refine EA.nil ⟨(b, n), rfl, fun b' m => ?_, ⟨n0, n1⟩, fun d hd => ?_⟩
  · have : b' = b := by simpa using m
    rw [this]
    exact List.mem_of_getElem? hi
  · obtain ⟨r, rfl, r0, r1⟩ := hd
    exact hr r r0 r1
end VB
namespace VB
open PySem PySem.Spec PyProof.Rows L2
section
variable {K : PySem.W.Frag} {P : Po} {ρ : List En} {te : TE} {ta : TA} {i : Nat} {tg : Option Addr} {ds : List D}
theorem tyV_lst {H : Hp} {a : Addr} {xs : List V} (h : H a = some (.lst xs)) : tyV K "list" (.ref a) H := .inl ⟨rfl, xs, SqL.of h⟩
/-- a local's own list is written: what goes on from there -/
theorem own_go {F B W : List Addr} {H H1 : Hp} {σ : L2.St} {a : Addr} {xs' : List V} {ds' : List D} {M : List En → Prop} {Q : L2.St → Hp → Prop} (e : EnvOk K B W H σ ρ) (f : Fr F B W σ ρ) (g : Gs W H H1) (hi : ρ[i]? = some (.own ⟨tg, .lst ds⟩)) (hv : σ[i]? = some (some (.ref a)))
    (r : SgA K B H1 xs' ds') (q : Cn K F W H σ ρ M Q) (p : M (ρ.set i (.own ⟨tg, .lst ds'⟩))) : Q σ (upd H1 a (.lst xs')) := by
  have e1 := e.gs g
  obtain ⟨aB, aW, aK⟩ := e1.ownB ⟨i, _, hi, hv⟩
  have aT : NoT H1 a := by
    obtain ⟨a0, ea0, _, _, _, ow⟩ := e1.sl i _ hi
    rw [hv] at ea0
    cases ea0
    exact ow.nt
  have e2 : EnvOk K B W (upd H1 a (.lst xs')) σ (ρ.set i (.own ⟨tg, .lst ds'⟩)) := e1.upO hi hv ⟨xs', upd_same, r.gw (Gw.wr aB aT)⟩
  have os : ∀ x, Own σ (ρ.set i (.own ⟨tg, .lst ds'⟩)) x → Own σ ρ x := fun x ⟨j, d, h1, h2⟩ => by
    by_cases z : i = j
    · subst z
      exact ⟨i, _, hi, h2⟩
    · rw [List.getElem?_set_ne z] at h1
      exact ⟨j, d, h1, h2⟩
  obtain ⟨B2, e3, f3⟩ := e2.fix (F := F) f.fb (fun x m o => f.no x m (os x o)) f.wf
  refine q _ _ _ B2 ⟨fun x o nw nu ex => ?_, fun x z => ?_, fun b m c ns nc nu hb => ?_, fun x o => .inl (os x o), fun x ys ex => ?_⟩ e3 f3 p
  · have hne : x ≠ a := fun z => nu (z ▸ ⟨i, _, hi, hv⟩)
    rw [upd_ne hne]
    exact g.gw.keep x o nw ex
  · by_cases hne : x = a
    · rw [hne, upd_same] at z
      cases z
    · rw [upd_ne hne] at z
      exact g.gw.free x z
  · exact (g.bag b m c ns nc hb).wr (fun z => aW (z ▸ m)) fun z => nu (z ▸ ⟨i, _, hi, hv⟩)
  · exact (Gw.wr (List.mem_singleton_self a) aT).tups x ys (g.gw.tups x ys ex)
theorem ST.app (hi : ρ[i]? = some (.own ⟨tg, .lst ds⟩)) (hz : ds.length < 16777216) (h : EV K te ρ fun d => ∀ ρ', ρ' = ρ.set i (.own ⟨tg, .lst (ds ++ [d])⟩) → P.nx ρ') : ST K (tDrop (tBM K "list" rAppend (tVar i) (tCons te tNil))) ρ P := fun F B W H σ e f E q1 q2 q3 q4 => by
  obtain ⟨a, e1, aB, aW, _, xs, hx, _⟩ := e.sl i _ hi
  refine ⟨_, e1, tyV_lst hx, h B W H σ e _ fun v d H1 g1 s1 p => ?_⟩
  obtain ⟨a', e1', _, _, _, xs', hx', r'⟩ := (e.gs g1).sl i _ hi
  rw [e1] at e1'
  cases e1'
  exact ⟨a, xs', v, rfl, rfl, hx', by rw [r'.length, sizeLine_eq]; exact hz, own_go e f g1 hi e1 (r'.append (.cons s1 .nil)) q1 (p _ rfl)⟩
/-- the rule of insert -/
abbrev rInsert : V → List V → Hp → VK → Prop := fun x vs H Q => ∃ (l : Addr) (xs : List V) (i : Int) (y : V), x = .ref l ∧ vs = [.int i, y] ∧ H l = some (.lst xs) ∧ xs.length < sizeLine ∧ 0 ≤ i ∧ i < 2 ^ 63 ∧ Q .non (upd H l (.lst (xs.take i.toNat ++ [y] ++ xs.drop i.toNat)))
theorem ST.ins (hi : ρ[i]? = some (.own ⟨tg, .lst ds⟩)) (hz : ds.length < 16777216) (h : EA K ta ρ fun es => ∃ k d, es = [.int k, d] ∧ 0 ≤ k ∧ k < 2 ^ 63 ∧ ∀ ρ', ρ' = ρ.set i (.own ⟨tg, .lst (ds.take k.toNat ++ [d] ++ ds.drop k.toNat)⟩) → P.nx ρ') : ST K (tDrop (tBM K "list" rInsert (tVar i) ta)) ρ P := fun F B W H σ e f E q1 q2 q3 q4 => by
  obtain ⟨a, e1, aB, aW, _, xs, hx, _⟩ := e.sl i _ hi
  refine ⟨_, e1, tyV_lst hx, h B W H σ e _ fun vs es H1 g1 s1 p => ?_⟩
  obtain ⟨k, d, rfl, k0, k1, p⟩ := p
  cases s1 with
  | cons s1 s2 =>
    cases s2 with
    | cons s2 s3 =>
      cases s3
      cases s1
      obtain ⟨a', e1', _, _, _, xs', hx', r'⟩ := (e.gs g1).sl i _ hi
      rw [e1] at e1'
      cases e1'
      exact ⟨a, xs', k, _, rfl, rfl, hx', by rw [r'.length, sizeLine_eq]; exact hz, k0, k1, own_go e f g1 hi e1 (((r'.take _).append (.cons s2 .nil)).append (r'.drop _)) q1 (p _ rfl)⟩
theorem ST.ext (hi : ρ[i]? = some (.own ⟨tg, .lst ds⟩)) (h : EV K te ρ fun d => ∃ es, d = .lst es ∧ ds.length + es.length ≤ 16777216 ∧ ∀ ρ', ρ' = ρ.set i (.own ⟨tg, .lst (ds ++ es)⟩) → P.nx ρ') : ST K (tDrop (tBM K "list" rExtend (tVar i) (tCons te tNil))) ρ P := fun F B W H σ e f E q1 q2 q3 q4 => by
  obtain ⟨a, e1, aB, aW, _, xs, hx, _⟩ := e.sl i _ hi
  refine ⟨_, e1, tyV_lst hx, h B W H σ e _ fun v d H1 g1 s1 p => ?_⟩
  obtain ⟨es, rfl, hz, p⟩ := p
  obtain ⟨a', e1', _, _, _, xs', hx', r'⟩ := (e.gs g1).sl i _ hi
  rw [e1] at e1'
  cases e1'
  cases s1 with
  | @lst b ys _ nB hb r => exact ⟨a, b, xs', ys, rfl, rfl, hx', hb, by rw [r'.length, r.length, sizeLine_eq]; exact hz, own_go e f g1 hi e1 (r'.append r) q1 (p _ rfl)⟩
theorem ST.clr (hi : ρ[i]? = some (.own ⟨tg, .lst ds⟩)) (h : ∀ ρ', ρ' = ρ.set i (.own ⟨tg, .lst []⟩) → P.nx ρ') : ST K (tDrop (tBM0 K "list" rClear (tVar i))) ρ P := fun F B W H σ e f E q1 q2 q3 q4 => by
  obtain ⟨a, e1, aB, aW, _, xs, hx, r⟩ := e.sl i _ hi
  exact ⟨_, e1, tyV_lst hx, a, xs, rfl, rfl, hx, own_go e f Gs.refl hi e1 .nil q1 (h _ rfl)⟩
theorem SgA.setAt {B : List Addr} {H : Hp} {v : V} {d : D} (s : Sg K B H v d) : ∀ {xs : List V} {ds : List D} (j : Nat), SgA K B H xs ds → SgA K B H (xs.set j v) (ds.set j d)
  | _, _, _, .nil => .nil
  | _, _, 0, .cons _ r => .cons s r
  | _, _, j + 1, .cons h r => .cons h (SgA.setAt s j r)
/-- xs[k] = e -/
theorem ST.item {tk : TE} (hi : ρ[i]? = some (.own ⟨tg, .lst ds⟩)) (h : EV K te ρ fun d => EV K tk ρ fun k => ∃ (z : Int) (j : Nat), k = .int z ∧ ixN ds.length z = some j ∧ ∀ ρ', ρ' = ρ.set i (.own ⟨tg, .lst (ds.set j d)⟩) → P.nx ρ') : ST K (tAsg te (gSub (tVar i) tk rSetL)) ρ P := fun F B W H σ e f E q1 q2 q3 q4 =>
  h B W H σ e _ fun v d H1 g1 s1 p => by
    obtain ⟨a, e1, aB, aW, _, xs, hx, _⟩ := e.sl i _ hi
    refine ⟨_, e1, p B W H1 σ (e.gs g1) _ fun u k H2 g2 s2 p => ?_⟩
    obtain ⟨z, j, rfl, hj, p⟩ := p
    cases s2
    obtain ⟨a', e1', _, _, _, xs', hx', r'⟩ := (e.gs (g1.trans g2)).sl i _ hi
    rw [e1] at e1'
    cases e1'
    exact ⟨a, xs', z, j, rfl, rfl, hx', by rw [r'.length]; exact hj, own_go e f (g1.trans g2) hi e1 (SgA.setAt (s1.gw ((e.gs g1).bw.gw g2)) j r') q1 (p _ rfl)⟩
end
/-- the answer is a new object that nothing else holds -/
def spN (K : PySem.W.Frag) {α : Type} (enc : α → List D) (dom : α → Prop) (post : α → D → Prop) : Sp := fun vs H Q _ => ∃ (B W : List Addr) (x : α), EnvOk K B W H (vs.map some) ((enc x).map D.en) ∧ dom x ∧ ∀ a d H', Gs W H H' → H a = none → OwAt K (a :: B) H' a d → post x d → Q (.ref a) H'
theorem EVN.call {K : PySem.W.Frag} {P : D → Prop} {ρ : List En} {α : Type} {enc : α → List D} {dom : α → Prop} {post : α → D → Prop} {E : XK} {ta : TA} (h : EA K ta ρ fun ds => ∃ x, ds = enc x ∧ (∀ b, D.raw b ∈ ds → En.bag b ∈ ρ) ∧ dom x ∧ ∀ d, post x d → P d) : EVN K (tCall (spN K enc dom post) [] E ta) ρ P := fun B W H σ e Q q =>
  h B W H σ e _ fun vs ds H1 g1 s1 p => by
    obtain ⟨x, rfl, hb, hd, p⟩ := p
    have e1 := e.gs g1
    refine ⟨B, W, x, ?_, hd, fun a d H2 g2 n k p2 => q a d H2 (g1.trans g2) (g1.gw.free a n) k (p d p2)⟩
    rw [List.append_nil]
    exact s1.ens e1 hb
end VB
namespace VB
open PySem PySem.Spec PyProof.Rows L2
abbrev LET : Str := "abcdefghijklmnopqrstuvwxyz"
def Lw (z : Str) : Prop := ∀ c ∈ z.cps.toList, c ∈ LET.cps.toList
def Wd (z : Str) : Prop := 1 ≤ z.length ∧ z.length ≤ 8 ∧ Lw z
def lwB (z : Str) : Bool := z.cps.toList.all fun c => decide (c ∈ LET.cps.toList)
theorem lwB_iff {z : Str} : lwB z = true ↔ Lw z := by
  unfold lwB Lw
  rw [List.all_eq_true]
  exact ⟨fun h c m => of_decide_eq_true (h c m), fun h c m => decide_eq_true (h c m)⟩
instance (z : Str) : Decidable (Wd z) := decidable_of_iff (1 ≤ z.length ∧ z.length ≤ 8 ∧ lwB z = true) (by unfold Wd; rw [lwB_iff])
theorem len_cps (z : Str) : z.cps.toList.length = z.length := by simp [Str.length]
theorem Lw.app {x y : Str} (h : Lw x) (k : Lw y) : Lw (x ++ y) := fun c m => by
  rw [Str.cps_append, Array.toList_append, List.mem_append] at m
  exact m.elim (h c) (k c)
theorem Lw.cut {x : Str} (h : Lw x) (lo hi : Option Int) : Lw (cutS x lo hi) := fun c m => by
  unfold cutS at m
  exact h c (List.mem_of_mem_drop (List.mem_of_mem_take (by simpa using m)))
theorem Lw.empty : Lw Str.empty := fun c m => by
  have : c ∈ ([] : List Nat) := m
  cases this
theorem foldl_mem (p : Nat → Prop) : ∀ (l : List (Array Nat)) (acc : Array Nat), (∀ c ∈ acc.toList, p c) → (∀ x ∈ l, ∀ c ∈ x.toList, p c) → ∀ c ∈ (l.foldl (· ++ ·) acc).toList, p c
  | [], acc, h, _ => h
  | x :: l, acc, h, k => foldl_mem p l (acc ++ x) (fun c m => by
    rw [Array.toList_append, List.mem_append] at m
    exact m.elim (h c) (k x List.mem_cons_self c)) fun y m => k y (List.mem_cons_of_mem _ m)
theorem foldl_len : ∀ (l : List (Array Nat)) (acc : Array Nat), (l.foldl (· ++ ·) acc).size = acc.size + (l.map (·.size)).sum
  | [], acc => by simp
  | x :: l, acc => by
    show (List.foldl (· ++ ·) (acc ++ x) l).size = _
    rw [foldl_len l (acc ++ x), Array.size_append, List.map_cons, List.sum_cons]
    omega
theorem Lw.mul {x : Str} (h : Lw x) (n : Int) : Lw (Txt.mul x n) := by
  unfold Txt.mul
  split
  · exact Lw.empty
  · split
    · exact h
    · exact fun c m => foldl_mem (fun c => c ∈ LET.cps.toList) _ #[] (fun c m => by cases m) (fun y my c mc => by
        rw [(List.mem_replicate.mp my).2] at mc
        exact h c mc) c m
theorem mul_len (x : Str) (n : Int) (h0 : 0 ≤ n) : (Txt.mul x n).length = n.toNat * x.length := by
  unfold Txt.mul
  split
  · have : n.toNat = 0 := by omega
    rw [this]
    simp [Str.empty, Str.length]
  · split
    · rename_i h1 h2
      rw [Bool.or_eq_true] at h2
      rcases h2 with h2 | h2
      · have : n = 1 := by simpa using h2
        rw [this]
        simp
      · have : x.length = 0 := by simpa using h2
        rw [this]
        simp
    · show (List.foldl (· ++ ·) #[] (List.replicate n.toNat x.cps)).size = _
      rw [foldl_len]
      simp [Str.length]
theorem joinR_empty : ∀ l : List Str, (Str.join "" l).cps.toList = (l.map fun z => z.cps.toList).flatten
  | [] => rfl
  | [x] => by simp [Str.join]
  | x :: y :: l => by
    show (x ++ "" ++ Str.join "" (y :: l)).cps.toList = _
    rw [Str.cps_append, Str.cps_append, Array.toList_append, Array.toList_append, joinR_empty (y :: l)]
    simp [show (("" : Str).cps.toList) = [] from by decide]
theorem join_empty (l : List Str) : (Txt.join "" l).cps.toList = (l.map fun z => z.cps.toList).flatten := by
  show (Builtin.Str.glued "" l).cps.toList = _
  rw [StrLaws.glued_eq_join]
  exact joinR_empty l
/-- a text cut in two -/
theorem cut_lo (z : Str) (k : Nat) (hk : k ≤ z.length) : (cutS z none (some (k : Int))).cps.toList = z.cps.toList.take k := by
  unfold cutS
  simp only [HT.sIx_none, HT.sIx_nat]
  rw [Nat.min_eq_left hk]
  simp
theorem cut_hi (z : Str) (k : Nat) (hk : k ≤ z.length) : (cutS z (some (k : Int)) none).cps.toList = z.cps.toList.drop k := by
  unfold cutS
  simp only [HT.sIx_none, HT.sIx_nat]
  rw [Nat.min_eq_left hk, ← len_cps, ← List.length_drop, List.take_length]
theorem cut_lo_len (z : Str) (k : Nat) (hk : k ≤ z.length) : (cutS z none (some (k : Int))).length = k := by
  rw [← len_cps, cut_lo z k hk, List.length_take, len_cps]
  omega
theorem cut_hi_len (z : Str) (k : Nat) (hk : k ≤ z.length) : (cutS z (some (k : Int)) none).length = z.length - k := by
  rw [← len_cps, cut_hi z k hk, List.length_drop, len_cps]
theorem cutG_len {α : Type} (xs : List α) (lo hi : Option Int) : (cutG xs lo hi).length ≤ xs.length := by
  unfold cutG
  rw [List.length_take, List.length_drop]
  omega
theorem cutG_mem {α : Type} {xs : List α} {lo hi : Option Int} {x : α} (h : x ∈ cutG xs lo hi) : x ∈ xs := List.mem_of_mem_drop (List.mem_of_mem_take h)
theorem cutG_map {α β : Type} (f : α → β) (xs : List α) (lo hi : Option Int) : cutG (xs.map f) lo hi = (cutG xs lo hi).map f := by
  unfold cutG
  rw [List.length_map, List.map_take, List.map_drop]
theorem cutG_lo {α : Type} (xs : List α) (k : Nat) : cutG xs none (some (k : Int)) = xs.take k := by
  unfold cutG
  simp only [HT.sIx_none, HT.sIx_nat, List.drop_zero, Nat.sub_zero]
  by_cases h : k ≤ xs.length
  · rw [Nat.min_eq_left h]
  · rw [Nat.min_eq_right (by omega), List.take_length, List.take_of_length_le (by omega)]
theorem cutG_hi {α : Type} (xs : List α) (k : Nat) : cutG xs (some (k : Int)) none = xs.drop k := by
  unfold cutG
  simp only [HT.sIx_none, HT.sIx_nat]
  by_cases h : k ≤ xs.length
  · rw [Nat.min_eq_left h, ← List.length_drop, List.take_length]
  · rw [Nat.min_eq_right (by omega), List.drop_length, List.drop_of_length_le (by omega)]
    simp
/-- an item by a place in bounds -/
theorem atI_of {α : Type} {xs : List α} {i : Int} (h0 : 0 ≤ i) (h1 : i < xs.length) : ∃ x ∈ xs, atI xs i = some x := by
  have hj : i.toNat < xs.length := by omega
  have e : i = ((i.toNat : Nat) : Int) := by omega
  refine ⟨xs[i.toNat], List.getElem_mem hj, ?_⟩
  have z := atI_nat (List.getElem?_eq_getElem hj)
  rw [← e] at z
  exact z
theorem LET_len : LET.cps.toList.length = 26 := by decide
/-- a letter of the alphabet -/
theorem let_at {i : Int} (h0 : 0 ≤ i) (h1 : i < 26) : ∃ c, atI LET.cps.toList i = some c ∧ Lw ⟨#[c]⟩ := by
  obtain ⟨c, hc, e⟩ := atI_of (xs := LET.cps.toList) h0 (by rw [LET_len]; exact h1)
  refine ⟨c, e, fun d m => ?_⟩
  have : d ∈ [c] := m
  rw [List.mem_singleton] at this
  rw [this]
  exact hc
theorem words_ok : (Txt.split ("lists paper anchor notice trust arrive renew back all none any named open shut soft strict ok root" ++ " a b ab zz ask days") " ").length = 24 ∧ ∀ x ∈ Txt.split ("lists paper anchor notice trust arrive renew back all none any named open shut soft strict ok root" ++ " a b ab zz ask days") " ", Wd x := by decide +kernel
theorem sum_ones (ws : List Str) (h : ∀ x ∈ ws, x.length = 1) : (ws.map (·.length)).sum = ws.length := by
  induction ws with
  | nil => rfl
  | cons x r ih =>
    rw [List.map_cons, List.sum_cons, h x List.mem_cons_self, ih fun y m => h y (List.mem_cons_of_mem _ m), List.length_cons]
    omega
theorem join_len (ws : List Str) : (Txt.join "" ws).length = (ws.map (·.length)).sum := by
  rw [← len_cps, join_empty, List.length_flatten, List.map_map]
  exact congrArg List.sum (List.map_congr_left fun z _ => len_cps z)
theorem join_lw (ws : List Str) (h : ∀ x ∈ ws, Lw x) : Lw (Txt.join "" ws) := fun c m => by
  rw [join_empty, List.mem_flatten] at m
  obtain ⟨l, hl, hc⟩ := m
  obtain ⟨z, hz, rfl⟩ := List.mem_map.mp hl
  exact h z hz c hc
theorem rot_mem {α : Type} {xs : List α} {t k : Option Int} {x : α} (h : x ∈ cutG (cutG xs t none ++ cutG xs none t) none k) : x ∈ xs := by
  rcases List.mem_append.mp (cutG_mem h) with m | m
  · exact cutG_mem m
  · exact cutG_mem m
theorem rot_len {α : Type} (xs : List α) (t k : Nat) (ht : t ≤ xs.length) (hk : k ≤ xs.length) : (cutG (cutG xs (some (t : Int)) none ++ cutG xs none (some (t : Int))) none (some (k : Int))).length = k := by
  rw [cutG_lo, cutG_lo, cutG_hi, List.length_take, List.length_append, List.length_drop, List.length_take]
  omega
theorem mul_one_lw {c : Nat} (h : Lw ⟨#[c]⟩) {k : Int} (h1 : 1 ≤ k) (h8 : k ≤ 8) : Wd (Txt.mul ⟨#[c]⟩ k) := by
  have e : (Txt.mul ⟨#[c]⟩ k).length = k.toNat := by
    rw [mul_len _ _ (by omega)]
    show k.toNat * 1 = _
    omega
  exact ⟨by omega, by omega, h.mul k⟩
theorem cutS_len (z : Str) (lo hi : Option Int) : (cutS z lo hi).length ≤ z.length := by
  rw [← len_cps, ← len_cps z]
  unfold cutS
  show (List.take _ (List.drop _ z.cps.toList)).toArray.toList.length ≤ _
  rw [List.length_take, List.length_drop]
  omega
theorem mul_zero' (z : Str) : (Txt.mul z 0).length = 0 := by rw [mul_len _ _ (by decide)]; simp
theorem mul_one' (z : Str) : Txt.mul z 1 = z := by
  unfold Txt.mul
  rw [if_neg (by decide), if_pos (by rfl)]
mutual
/-- data of the kinds that the words' tests meet, its texts and tuples below the line -/
def D.sz : D → Bool
  | .str z => decide (z.length ≤ 16777000)
  | .tup ds => decide (ds.length ≤ 16777000) && D.szA ds
  | .ty _ => false
  | .raw _ => false
  | .ins _ _ _ => false
  | .lst ds => D.szA ds
  | .dic _ ds => D.szA ds
  | .dit _ _ => false
  | .din _ _ _ _ => false
  | .etup => false
  | _ => true
def D.szA : List D → Bool
  | [] => true
  | d :: ds => D.sz d && D.szA ds
end
theorem pyA_strs : ∀ xs : List Str, D.pyA (xs.map D.str) = xs.map PyData.str
  | [] => rfl
  | x :: r => by
    show D.py (.str x) :: D.pyA (r.map D.str) = _
    rw [pyA_strs r]
    rfl
theorem puA_strs : ∀ xs : List Str, D.puA (xs.map D.str) = true
  | [] => rfl
  | x :: r => by
    show (true && D.puA (r.map D.str)) = true
    rw [puA_strs r]
    rfl
theorem wd_ok {x : Str} (h : Lw x) : PyData.strOk x = true := by
  unfold PyData.strOk
  rw [Array.all_eq_true]
  intro i hi
  have m : x.cps[i] ∈ x.cps.toList := by simp
  have c := h _ m
  have all : ∀ c ∈ LET.cps.toList, c < 0x110000 := by decide
  exact decide_eq_true (all _ c)
theorem lay_strs : ∀ xs : List Str, (∀ x ∈ xs, Lw x) → PyData.canLayAll0 (xs.map PyData.str) = true
  | [], _ => rfl
  | x :: r, h => by
    show (PyData.canLay0 (.str x) && PyData.canLayAll0 (r.map PyData.str)) = true
    rw [lay_strs r fun y m => h y (List.mem_cons_of_mem _ m), Bool.and_true]
    show PyData.canLay0 (.str x) = true
    unfold PyData.canLay0
    exact wd_ok (h x List.mem_cons_self)
theorem depth_strs : ∀ xs : List Str, PyData.depthAll (xs.map PyData.str) = 0
  | [] => rfl
  | x :: r => by
    show max (PyData.depth (.str x)) (PyData.depthAll (r.map PyData.str)) = 0
    rw [depth_strs r]
    rfl
theorem strs_shaped {xs ys : List Str} (hx : ∀ x ∈ xs, Wd x) (hy : ∀ x ∈ ys, Wd x) : (D.tup (xs.map D.str)).pu = true ∧ (D.tup (ys.map D.str)).pu = true ∧ SeqAt.shaped (D.tup (xs.map D.str)).py = true ∧ SeqAt.shaped (D.tup (ys.map D.str)).py = true := by
  have one : ∀ zs : List Str, (∀ x ∈ zs, Wd x) → SeqAt.shaped (D.tup (zs.map D.str)).py = true := fun zs hz => by
    unfold D.py SeqAt.shaped
    rw [pyA_strs]
    unfold PyData.canLay0 PyData.depth
    rw [lay_strs zs fun x m => (hz x m).2.2, depth_strs]
    rfl
  exact ⟨by unfold D.pu; exact puA_strs xs, by unfold D.pu; exact puA_strs ys, one xs hx, one ys hy⟩
theorem eqvAll_strs : ∀ xs ys : List Str, PyData.eqvAll (xs.map PyData.str) (ys.map PyData.str) = decide (xs = ys)
  | [], [] => rfl
  | [], _ :: _ => by simp [PyData.eqvAll]
  | _ :: _, [] => by simp [PyData.eqvAll]
  | x :: xs, y :: ys => by
    show (PyData.eqv (.str x) (.str y) && PyData.eqvAll (xs.map PyData.str) (ys.map PyData.str)) = _
    rw [eqvAll_strs xs ys]
    unfold PyData.eqv
    rw [Bool.eq_iff_iff]
    simp
theorem strs_eqv (xs ys : List Str) : PyData.eqv (D.tup (xs.map D.str)).py (D.tup (ys.map D.str)).py = decide (xs = ys) := by
  unfold D.py
  rw [pyA_strs, pyA_strs]
  unfold PyData.eqv
  exact eqvAll_strs xs ys
abbrev nm (xs : List Str) : D := .tup (xs.map D.str)
abbrev spBag (K : PySem.W.Frag) : Sp := fun vs H Q _ => ∃ (a : Addr) (ns : List Int), vs = [.ref a] ∧ SqL K H a (ns.map V.int) ∧ ns.length ≤ 63 ∧ ∀ H' b c ns', BagC H' b c ns' → b ≠ c → Q (.ref b) H'
abbrev spLaw (K : PySem.W.Frag) : Sp := fun vs H Q _ => ∃ (a : Addr) (ns : List Int), vs = [.ref a] ∧ SqL K H a (ns.map V.int) ∧ ns.length ≤ 63 ∧ ∀ H', Q (.bl true) H'
theorem law_start {K : PySem.W.Frag} {H : Hp} {a : Addr} {ns : List Int} {O : Prop} (hl : ns.length ≤ 63) (_ : O) (hS : SqL K H a (ns.map V.int)) : spLaw K [.ref a] H (fun v _ => v = .bl true) fun _ _ _ => False := ⟨a, ns, rfl, hS, hl, fun _ => rfl⟩
theorem law_body {K : PySem.W.Frag} {N : List Str} {u : TS} {vs : List V} {H : Hp} {Q : VK} {E E1 : XK} (h : spLaw K vs H Q E) (hN : 2 ≤ N.length)
    (hb : ∀ b, ∃ ρ, En.no :: En.bag b :: List.replicate (N.length - 2) En.no = ρ ∧ ST K u ρ ⟨fun _ => False, fun d => d = .bl true, fun _ => False, fun _ => False, false⟩) :
    tSeq (tAsg (tCall (spBag K) [] E1 (tCons (tVar 0) tNil)) (gName 1)) u ⟨fun _ H' => Q .non H', Q, fun _ _ => False, fun _ _ => False⟩ (start N vs) H := by
  obtain ⟨a, ns, rfl, hS, hl, q⟩ := h
  refine ⟨_, rfl, a, ns, rfl, hS, hl, fun H' b c ns' hB hbc => ?_⟩
  obtain ⟨ρ, rfl, hs⟩ := hb b
  have nO : (En.no :: En.bag b :: List.replicate (N.length - 2) En.no).all (fun e => !e.isOwn) = true := by
    rw [List.all_cons, List.all_cons, show (List.replicate (N.length - 2) En.no).all (fun e => !e.isOwn) = true from by
      rw [List.all_eq_true]
      intro e m
      rw [(List.mem_replicate.mp m).2]
      rfl]
    rfl
  refine hs [b] [b] [b] H' _ ⟨⟨fun _ m => m, fun x m => ?_⟩, ?_, fun i e hi => ?_, one_of nO, sep_of nO⟩ ⟨fun _ m => m, fun _ m => .inl m, fun a _ => not_own nO a, fun _ m => m⟩ _ (fun _ _ _ _ _ _ _ z => z.elim) (fun v d H2 g s p => ?_) (fun _ _ _ _ _ _ _ z => z.elim) fun _ _ _ _ _ _ _ z => z.elim
  · rw [List.mem_singleton.mp m]
    obtain ⟨⟨z, s, i, hz, _⟩, _, _⟩ := hB
    rw [hz]
    exact fun z => (nomatch z)
  · unfold L2.start
    simp
    omega
  · match i with
    | 0 =>
      cases hi
      trivial
    | 1 =>
      cases hi
      refine ⟨?_, List.mem_singleton_self _, c, ns', fun m => hbc (List.mem_singleton.mp m).symm, hB⟩
      unfold L2.start
      match N, hN with
      | _ :: _ :: _, _ => rfl
    | i + 2 =>
      have : e = .no := by
        have z : (List.replicate (N.length - 2) En.no)[i]? = some e := hi
        rw [List.getElem?_replicate] at z
        split at z
        · exact (Option.some.inj z).symm
        · cases z
      rw [this]
      trivial
  · rw [p] at s
    cases s
    exact q H2
end VB
namespace VB
open PySem PySem.Spec PyProof.Rows L2
section
variable {P : Program} {w : World} {κ : Type} [DecidableEq κ]
/-- the table's rows stand for the keys, in this order -/
inductive KM (knd : KeyKind P w κ) : List (Int × Value) → List κ → Prop
  | nil : KM knd [] []
  | cons {e : Int × Value} {k : κ} {es : List (Int × Value)} {ks : List κ} : knd.is k e.2 = true → e.1 = knd.hash k → e.2.scannable = true → KM knd es ks → KM knd (e :: es) (k :: ks)
variable {knd : KeyKind P w κ}
theorem KM.len : ∀ {es : List (Int × Value)} {ks : List κ}, KM knd es ks → es.length = ks.length
  | _, _, .nil => rfl
  | _, _, .cons _ _ _ r => congrArg (· + 1) (KM.len r)
/-- the set at a holds ks, each once -/
def TabX (knd : KeyKind P w κ) (h : Heap) (a : Addr) (ks : List κ) : Prop :=
  ∃ (o : Obj) (es : Array (Int × Value)) (ep : Nat) (t : SetTable), h.get? a = some o ∧ (o.ExactSet ∧ o.data = .set es ep t) ∧ KM knd es.toList ks ∧ ks.Nodup ∧ (es.size < scanBound ∧ t.fits es.size = true) ∧ Ris t.place.toList ∧ (w.params.followText "set-order" = true ∨ t.led = true)
variable {A : Around} {E : Value → Shared → Prop} {s : Shared} {a : Addr} {ks : List κ}
theorem TabX.keep {h h' : Heap} (R : TabX knd h a ks) (k : ∀ o, h.get? a = some o → h'.get? a = some o) : TabX knd h' a ks := by
  obtain ⟨o, es, ep, t, ho, r⟩ := R
  exact ⟨o, es, ep, t, k o ho, r⟩
/-- a set that holds nothing yet -/
def set0 (w : World) : Obj := { cls := .type "set", dict := none, data := .set #[] 0 (.fresh 0 0 (!w.params.followText "set-order")) }
end
end VB
namespace VB
open PySem PySem.Spec PyProof.Rows L2
section
variable {K : PySem.W.Frag} {B W : List Addr} {H : Hp} {P : D → Prop} {ρ : List En}
theorem fld_get {f : Str} {d : D} : ∀ {fs : List (Str × V)} {ks : List Str} {ds : List D}, fs.map (·.1) = ks → SgA K B H (fs.map (·.2)) ds → (ks.zip ds).lookup f = some d → ∃ v, fs.lookup f = some v ∧ Sg K B H v d
  | [], _, _, e, r, h => by
    subst e
    cases h
  | (g, v) :: fs, _, _, e, r, h => by
    subst e
    cases r with
    | @cons _ _ d0 ds0 s r =>
      rw [List.map_cons, List.zip_cons_cons, List.lookup_cons] at h
      rw [List.lookup_cons]
      cases q : f == g with
      | true =>
        simp only [q] at h ⊢
        cases h
        exact ⟨v, rfl, s⟩
      | false =>
        simp only [q] at h ⊢
        exact fld_get rfl r h
theorem fld_none {f : Str} : ∀ {fs : List (Str × V)} {ks : List Str}, fs.map (·.1) = ks → f ∉ ks → fs.lookup f = none
  | [], _, _, _ => rfl
  | (g, v) :: fs, _, e, n => by
    subst e
    rw [List.lookup_cons]
    have h1 : (f == g) = false := beq_eq_false_iff_ne.mpr fun z => n (z ▸ List.mem_cons_self ..)
    simp only [h1]
    exact fld_none rfl fun m => n (List.mem_cons_of_mem _ m)
theorem putF_new {f : Str} {v : V} : ∀ {fs : List (Str × V)}, f ∉ fs.map (·.1) → putF f v fs = fs ++ [(f, v)]
  | [], _ => rfl
  | (g, x) :: fs, n => by
    have h1 : ¬ g = f := fun z => n (z ▸ List.mem_cons_self ..)
    show (if g = f then _ else _) = _
    rw [if_neg h1, putF_new fun m => n (List.mem_cons_of_mem _ m)]
    rfl
/-- o.f -/
theorem EV.fld {te : TE} {f : Str} (h : EV K te ρ fun x => ∃ C ks ds d, x = .ins C ks ds ∧ Cls K C ∧ NoAttr K C f ∧ (ks.zip ds).lookup f = some d ∧ P d) : EV K (tFld K te f) ρ P := fun B W H σ e Q q =>
  h B W H σ e _ fun v x H1 g1 s1 p => by
    obtain ⟨C, ks, ds, d, rfl, hc, hn, hl, p⟩ := p
    cases s1 with
    | ins n h ek r =>
      obtain ⟨u, lu, su⟩ := fld_get ek r hl
      exact ⟨_, C, _, _, u, rfl, h, hc, hn, lu, q u d H1 g1 su p⟩
/-- o.m(..) -/
theorem EV.meth {ta : TE} {t : TA} {C : Addr} {m : Str} {E : XK} {α : Type} {enc : α → List D} {dom : α → Prop} {post : α → D → Prop} (h : EV K ta ρ fun x => ∃ ks ds, x = .ins C ks ds ∧ m ∉ ks ∧ EA K t ρ fun es => ∃ y, .ins C ks ds :: es = enc y ∧ (∀ b, D.raw b ∈ es → En.bag b ∈ ρ) ∧ dom y ∧ ∀ d, post y d → P d) :
    EV K (tMeth C m (spA K enc dom post) [] E ta t) ρ P := fun B W H σ e Q q =>
  h B W H σ e _ fun v x H1 g1 s1 p => by
    obtain ⟨ks, ds, rfl, nm, p⟩ := p
    have e1 := e.gs g1
    have s1' := s1
    cases s1 with
    | ins n h ek r =>
      refine ⟨_, _, _, rfl, h, fld_none ek nm, p B W H1 σ e1 _ fun vs es H2 g2 s2 p => ?_⟩
      obtain ⟨y, ey, hb, hd, p⟩ := p
      have e2 := e1.gs g2
      refine ⟨B, W, y, ?_, hd, fun u d H3 g3 s3 p3 => q u d H3 ((g1.trans g2).trans g3) s3 (p d p3)⟩
      rw [List.append_nil, ← ey]
      exact (SgA.cons (s1'.gw (e1.bw.gw g2)) s2).ens e2 fun b m => hb b ((List.mem_cons.mp m).elim (fun z => nomatch z) id)
/-- self.f = e, a field not there yet -/
theorem ST.fld {Po : Po} {tv : TE} {f : Str} {i : Nat} {C : Addr} {tg : Option Addr} {ks : List Str} {ds : List D} (hi : ρ[i]? = some (.own ⟨tg, .ins C ks ds⟩)) (hc : Cls K C) (hn : NoAttr K C f) (nf : f ∉ ks) (hz : ks.length < 1000)
    (h : EV K tv ρ fun d => ∀ ρ', ρ' = ρ.set i (.own ⟨tg, .ins C (ks ++ [f]) (ds ++ [d])⟩) → Po.nx ρ') : ST K (sFld K (tVar i) tv f) ρ Po := fun F B W H σ e fr E q1 q2 q3 q4 =>
  h B W H σ e _ fun v d H1 g1 s1 p => by
    have e1 := e.gs g1
    obtain ⟨a, ea, aB, aW, _, dx, fs, ha, ek, r⟩ := e1.sl i _ hi
    have fl : fs.length = ks.length := by
      rw [← ek, List.length_map]
    refine ⟨_, ea, a, C, dx, fs, rfl, ha, hc, hn, by omega, ?_⟩
    rw [putF_new (by rw [ek]; exact nf)]
    have aK : H1 a ≠ none := by
      rw [ha]
      exact fun z => nomatch z
    have e2 : EnvOk K B W (upd H1 a (.ins C dx (fs ++ [(f, v)]))) σ (ρ.set i (.own ⟨tg, .ins C (ks ++ [f]) (ds ++ [d])⟩)) := e1.upO hi ea
      ⟨dx, fs ++ [(f, v)], upd_same, by rw [List.map_append, ek]; rfl, by
        rw [List.map_append]
        exact (r.append (.cons s1 .nil)).gw (Gw.wr aB ⟨_, ha, fun _ z => nomatch z⟩)⟩
    have os : ∀ x, Own σ (ρ.set i (.own ⟨tg, .ins C (ks ++ [f]) (ds ++ [d])⟩)) x → Own σ ρ x := fun x ⟨j, dj, h1, h2⟩ => by
      by_cases z : i = j
      · subst z
        exact ⟨i, _, hi, h2⟩
      · rw [List.getElem?_set_ne z] at h1
        exact ⟨j, dj, h1, h2⟩
    obtain ⟨B2, e3, f3⟩ := e2.fix (F := F) fr.fb (fun x m o => fr.no x m (os x o)) fr.wf
    refine q1 _ _ _ B2 ⟨fun x o nw nu ex => ?_, fun x z => ?_, fun b m c ns nc nu hb => ?_, fun x o => .inl (os x o), fun x ys ex => ?_⟩ e3 f3 (p _ rfl)
    · rw [upd_ne (fun z => nu (by rw [z]; exact ⟨i, _, hi, ea⟩))]
      exact g1.gw.keep x o nw ex
    · by_cases hne : x = a
      · rw [hne, upd_same] at z
        cases z
      · rw [upd_ne hne] at z
        exact g1.gw.free x z
    · exact (g1.bag b m c ns nc hb).wr (fun z => aW (z ▸ m)) fun z => nu (z ▸ ⟨i, _, hi, ea⟩)
    · exact (Gw.wr (List.mem_singleton_self a) ⟨_, ha, fun _ z => nomatch z⟩).tups x ys (g1.gw.tups x ys ex)
end
def tNever : TS := fun _ _ _ => False
theorem ps_never {X : Cx} {st : Stmt} : PS X st tNever := ⟨fun _ _ _ _ _ _ h => h.elim⟩
theorem ST.never {K : PySem.W.Frag} {ρ : List En} {P : Po} (h : False) : ST K tNever ρ P := h.elim
end VB
namespace VB
open PySem PySem.Spec PyProof.Rows L2
def sysOk (K : PySem.W.Frag) : Bool := match K.lookup sysModules with
  | some o => decide (o.cls = .type "dict")
  | none => false
theorem sysOk_at {K : PySem.W.Frag} (h : sysOk K = true) : ∃ o, K.lookup sysModules = some o ∧ o.cls = .type "dict" := by
  unfold sysOk at h
  cases e : K.lookup sysModules with
  | none =>
    rw [e] at h
    cases h
  | some o =>
    rw [e] at h
    exact ⟨o, rfl, of_decide_eq_true h⟩
mutual
inductive Dq (K : PySem.W.Frag) (H : Hp) : V → PyData → Prop
  | non : Dq K H .non .none
  | bl (b : Bool) : Dq K H (.bl b) (.bool b)
  | int (i : Int) : Dq K H (.int i) (.int i)
  | str (x : Str) : Dq K H (.str x) (.str x)
  | lst {a : Addr} {xs : List V} {ds : List PyData} : SqL K H a xs → DqA K H xs ds → Dq K H (.ref a) (.list ds)
  | tup {a : Addr} {xs : List V} {ds : List PyData} : SqT K H a xs → DqA K H xs ds → Dq K H (.ref a) (.tuple ds)
  | dic {a : Addr} {kvs : List (Key × V)} {ks : List Key} {es : List PyData} : Rd H a (.dK kvs) → kvs.map (·.1) = ks → DqA K H (kvs.map (·.2)) es → Dq K H (.ref a) (.dict ((ks.map kD).zip es))
inductive DqA (K : PySem.W.Frag) (H : Hp) : List V → List PyData → Prop
  | nil : DqA K H [] []
  | cons {v : V} {vs : List V} {d : PyData} {ds : List PyData} : Dq K H v d → DqA K H vs ds → DqA K H (v :: vs) (d :: ds)
end
theorem DqA.length {K : PySem.W.Frag} {H : Hp} : ∀ {vs : List V} {ds : List PyData}, DqA K H vs ds → vs.length = ds.length
  | _, _, .nil => rfl
  | _, _, .cons _ r => congrArg (· + 1) (DqA.length r)
theorem reads_keys {h : Heap} {P : Program} {w : World} : ∀ {es : List DictEntry} {vs : List (Key × Value)}, Pairs (mixKind P w) es vs → ReadsAll h (es.map (·.key)) ((vs.map (·.1)).map kD) []
  | _, _, .nil => ReadsAll.nil
  | _, _, @Pairs.cons _ _ _ _ _ e kv es kvs h1 _ r => by
    have one : Reads h e.key (kD kv.1) [] := by
      rcases keyIs_shape h1 with ⟨i, t, e1, e2⟩ | ⟨x, t, e1, e2⟩
      · rw [e1, e2]
        exact Reads.int i t
      · rw [e1, e2]
        exact Reads.str x t
    exact ReadsAll.cons one (reads_keys r)
theorem pairs_vals {P : Program} {w : World} : ∀ {es : List DictEntry} {vs : List (Key × Value)}, Pairs (mixKind P w) es vs → es.map (·.val) = vs.map (·.2)
  | _, _, .nil => rfl
  | _, _, .cons _ h2 r => by
    rw [List.map_cons, List.map_cons, h2, pairs_vals r]
theorem kv_split : ∀ {kvs : List (Key × V)} {vs : List (Key × Value)}, KV kvs vs → kvs.map (·.1) = vs.map (·.1) ∧ Vals (kvs.map (·.2)) (vs.map (·.2)) := by
  intro kvs vs r
  unfold KV at r
  induction r with
  | nil => exact ⟨rfl, .nil⟩
  | @cons p q ps qs h t ih =>
    refine ⟨?_, .cons h.2 ih.2⟩
    rw [List.map_cons, List.map_cons, ih.1, h.1]
section
variable {X : Cx} {pins : List (Addr × Obj)} {σ : L2.St} {H : Hp} {s : Shared}
theorem no_sys (I : Inv X pins σ H s) (hs : sysOk X.K = true) {a : Addr} {o : Obj} (e : s.heap.get? a = some o) (c : o.cls ≠ .type "dict") : a ≠ sysModules := by
  rintro rfl
  obtain ⟨o', e1, e2⟩ := sysOk_at hs
  have := I.kIn _ _ e1
  rw [e] at this
  cases this
  exact c e2
mutual
theorem Dq.reads (I : Inv X pins σ H s) (hs : sysOk X.K = true) : ∀ {v : V} {d : PyData}, Dq X.K H v d → ∀ u, RelV v u → ∃ as, Reads s.heap u d as ∧ sysModules ∉ as
  | _, _, .non, _, r => by
    cases r
    exact ⟨_, Reads.none, by simp⟩
  | _, _, .bl b, _, r => by
    cases r
    exact ⟨_, Reads.bool b, by simp⟩
  | _, _, .int i, _, r => by
    obtain ⟨t, rfl⟩ := r
    exact ⟨_, Reads.int i t, by simp⟩
  | _, _, .str x, _, r => by
    obtain ⟨t, rfl⟩ := r
    exact ⟨_, Reads.str x t, by simp⟩
  | _, _, .lst hl ha, _, r => by
    cases r
    obtain ⟨its, rv, ⟨o, n, ho, hc, _, hd⟩, _⟩ := I.list hl
    obtain ⟨as, hr, na⟩ := DqA.reads I hs ha _ rv
    refine ⟨_, Reads.list ho hc hd hr, fun m => ?_⟩
    rcases List.mem_cons.mp m with m | m
    · exact no_sys I hs ho (by rw [hc]; decide) m.symm
    · exact na m
  | _, _, .tup hl ha, _, r => by
    cases r
    obtain ⟨its, rv, ⟨o, ho, hc, n, hd⟩, _⟩ := I.tuple hl
    obtain ⟨as, hr, na⟩ := DqA.reads I hs ha _ rv
    exact ⟨_, Reads.tuple ho hc hd hr, na⟩
  | _, _, .dic (kvs := kvs) (es := ds) hl ek ha, _, r => by
    cases r
    obtain ⟨_, hn, vs, kv, o, es, ep, ho, hx, hd, _, hp, _⟩ := dk_rd I.hok hl
    obtain ⟨k1, k2⟩ := kv_split kv
    obtain ⟨as, hr, na⟩ := DqA.reads I hs ha _ k2
    have len := ha.length
    rw [List.length_map] at len
    subst ek
    have zl : ((kvs.map (·.1)).map kD).length = ds.length := by
      rw [List.length_map, List.length_map]
      exact len
    have e1 : (((kvs.map (·.1)).map kD).zip ds).map (·.1) = (kvs.map (·.1)).map kD := List.map_fst_zip (Nat.le_of_eq zl)
    have e2 : (((kvs.map (·.1)).map kD).zip ds).map (·.2) = ds := List.map_snd_zip (Nat.le_of_eq zl.symm)
    refine ⟨_, Reads.dict (as := []) (bs := as) ho hx.1 hd ?_ ?_, fun m => ?_⟩
    · rw [e1, k1]
      exact reads_keys hp
    · rw [e2, pairs_vals hp]
      exact hr
    · rcases List.mem_append.mp m with m | m
      · rw [← List.mem_singleton.mp m] at hn
        simp at hn
      · exact na m
theorem DqA.reads (I : Inv X pins σ H s) (hs : sysOk X.K = true) : ∀ {vs : List V} {ds : List PyData}, DqA X.K H vs ds → ∀ us, Vals vs us → ∃ as, ReadsAll s.heap us ds as ∧ sysModules ∉ as
  | _, _, .nil, _, r => by
    cases r
    exact ⟨_, ReadsAll.nil, by simp⟩
  | _, _, .cons h1 h2, _, r => by
    cases r with
    | cons r1 r2 =>
      obtain ⟨as, q1, n1⟩ := Dq.reads I hs h1 _ r1
      obtain ⟨bs, q2, n2⟩ := DqA.reads I hs h2 _ r2
      exact ⟨_, ReadsAll.cons q1 q2, fun m => (List.mem_append.mp m).elim n1 n2⟩
end
end
def rReprX (K : PySem.W.Frag) : List V → Hp → VK → Prop := fun vs H Q => ∃ (x : V) (d : PyData), vs = [x] ∧ Dq K H x d ∧ d.showable = true ∧ d.depth ≤ 60 ∧ d.shown.length ≤ sizeLine ∧ Q (.str d.shown) H
theorem call_reprX {X : Cx} {K : PySem.W.Frag} (hK : X.K = K) (hs : sysOk K = true) (hg : X.A.guards = some []) (hu : X.A.units + 64 < cLine) : CallR X (.builtin "repr") (rReprX K) := by
  subst hK
  intro pins s σ H xs us Q I r h
  obtain ⟨x, d, rfl, hd, h1, h3, h4, q⟩ := h
  cases r with
  | cons r0 rn =>
    cases rn
    obtain ⟨as, hr, na⟩ := Dq.reads I hs hd _ r0
    have leaf : ∀ {h' : Heap} {tk : Nat} {t : Tok}, (∀ b o, s.heap.get? b = some o → h'.get? b = some o) → EP X pins σ Q (.str d.shown t) { s with heap := h', toks := tk } :=
      fun hk => ⟨.str d.shown, H, I.kept hk, ⟨_, rfl⟩, q⟩
    cases hd with
    | non => cases r0; exact P.repr_of_none (leaf fun _ _ e => e)
    | bl b => cases r0; exact P.repr_of_bool (leaf fun _ _ e => e)
    | int i => obtain ⟨_, rfl⟩ := r0; exact P.repr_of_int (by simpa [PyData.showable] using h1) (leaf fun _ _ e => e)
    | str z => obtain ⟨_, rfl⟩ := r0; exact P.repr_of_str (leaf fun _ _ e => e) (hsz := h4)
    | lst hs ha => cases r0; exact repr_of_reads' hr h1 (fun _ => na) hg (by omega) (fun _ _ e => e) (fun h' u tk hk => leaf hk) h4
    | tup hs ha => cases r0; exact repr_of_reads' hr h1 (fun _ => na) hg (by omega) (fun _ _ e => e) (fun h' u tk hk => leaf hk) h4
    | dic hs ek ha => cases r0; exact repr_of_reads' hr h1 (fun _ => na) hg (by omega) (fun _ _ e => e) (fun h' u tk hk => leaf hk) h4
mutual
/-- plain data: no own objects -/
def D.pl : D → Bool
  | .tup ds => D.plA ds
  | .lst ds => D.plA ds
  | .dic _ ds => D.plA ds
  | .ty _ => false
  | .raw _ => false
  | .ins _ _ _ => false
  | .dit _ _ => false
  | .din _ _ _ _ => false
  | .etup => false
  | _ => true
def D.plA : List D → Bool
  | [] => true
  | d :: ds => D.pl d && D.plA ds
end
section
variable {K : PySem.W.Frag} {B : List Addr} {H : Hp}
mutual
theorem Sg.dq : ∀ {v : V} {d : D}, Sg K B H v d → d.pl = true → Dq K H v d.py
  | _, _, .non, _ => .non
  | _, _, .bl b, _ => .bl b
  | _, _, .int i, _ => .int i
  | _, _, .str x, _ => .str x
  | _, _, .ty n, p => by simp [D.pl] at p
  | _, _, .raw a, p => by simp [D.pl] at p
  | _, _, .ins _ _ _ _, p => by simp [D.pl] at p
  | _, _, .tup n h r, p => by
    unfold D.py
    exact .tup (Or.inl (Rd.of h)) (SgA.dq r (by simpa [D.pl] using p))
  | _, _, .etup _, p => by simp [D.pl] at p
  | _, _, .dit _ _ _ _, p => by simp [D.pl] at p
  | _, _, .din _ _ _ _ _, p => by simp [D.pl] at p
  | _, _, .lst n h r, p => by
    unfold D.py
    exact .lst (SqL.of h) (SgA.dq r (by simpa [D.pl] using p))
  | _, _, .dic n h e r, p => by
    unfold D.py
    exact .dic h e (SgA.dq r (by simpa [D.pl] using p))
theorem SgA.dq : ∀ {vs : List V} {ds : List D}, SgA K B H vs ds → D.plA ds = true → DqA K H vs (D.pyA ds)
  | _, _, .nil, _ => .nil
  | _, _, .cons h r, p => by
    have q := Bool.and_eq_true_iff.mp (show (_ && _) = true from p)
    exact .cons (Sg.dq h q.1) (SgA.dq r q.2)
end
end
theorem tup_mulS (l : Addr) (items : Array Value) (n : Nat) (dd : Option Addr) (sl : Array (Option Value)) (x : Int) (u : Tok) (c0 : (decide (x < -(2 ^ 63)) || decide (x ≥ 2 ^ 63)) = false) (c1 : (items.isEmpty || x == 1) = true) :
    Meets (Builtin.«tuple.__mul__» ⟨[.ref l, .int x u], []⟩) (fun _ R s => s.heap.get? l = some { cls := .type "tuple", dict := dd, data := .seq items n, slots := sl } ∧ R (.ok (.ret (Value.ref l))) s) :=
  .of_wp fun prog w A R s h => by
    obtain ⟨hp, g, d, tk, os⟩ := s
    obtain ⟨hl, h⟩ := h
    have f1 := AutoSeq1.idx_int
    wp_walk using wpAny_loadPart' hl
    repeat (first
      | (refine wpAny_ite_false (decide_eq_false (by rw [c0]; exact Bool.false_ne_true)) ?_; wp_walk using wpAny_loadPart' hl)
      | (refine wpAny_ite_true (decide_eq_true (by rw [c1])) ?_; wp_walk using wpAny_loadPart' hl))
    exact ⟨_, rfl, h⟩
theorem tup_mulZ (l : Addr) (items : Array Value) (n : Nat) (dd : Option Addr) (sl : Array (Option Value)) (x : Int) (u : Tok) (c0 : (decide (x < -(2 ^ 63)) || decide (x ≥ 2 ^ 63)) = false) (c1 : (items.isEmpty || x == 1) = false) (c2 : (decide (x ≤ 0) || items.isEmpty) = true) :
    Meets (Builtin.«tuple.__mul__» ⟨[.ref l, .int x u], []⟩) (fun _ R s => s.heap.get? l = some { cls := .type "tuple", dict := dd, data := .seq items n, slots := sl } ∧
      R (.ok (.ret (Value.ref s.heap.objs.size))) { s with heap := s.heap.push { cls := Value.type "tuple", data := Data.seq #[] }, toks := s.toks }) :=
  .of_wp fun prog w A R s h => by
    obtain ⟨hp, g, d, tk, os⟩ := s
    obtain ⟨hl, h⟩ := h
    have f1 := AutoSeq1.idx_int
    wp_walk using wpAny_loadPart' hl
    repeat (first
      | (refine wpAny_ite_false (decide_eq_false (by rw [c0]; exact Bool.false_ne_true)) ?_; wp_walk using wpAny_loadPart' hl)
      | (refine wpAny_ite_false (decide_eq_false (by rw [c1]; exact Bool.false_ne_true)) ?_; wp_walk using wpAny_loadPart' hl)
      | (refine wpAny_ite_true (decide_eq_true (by rw [c2])) ?_; wp_walk using wpAny_loadPart' hl))
    exact ⟨_, rfl, h⟩
def rRepA (K : PySem.W.Frag) : R2 := fun x y H Q => ∃ l k xs, x = .ref l ∧ y = .int k ∧ SqT K H l xs ∧ xs ≠ [] ∧ 0 ≤ k ∧ k ≤ 1000 ∧ xs.length ≤ 1000 ∧ (k = 1 → Q (.ref l) H) ∧ (k ≠ 1 → ∀ p, H p = none → Q (.ref p) (upd H p (.tup (List.replicate k.toNat xs).flatten)))
theorem op_repA {X : Cx} {K : PySem.W.Frag} (hK : X.K = K) : OpR X (binaryOp .Mult) (rRepA K) := by
  subst hK
  intro pins s σ H x y v u Q I rx ry h
  obtain ⟨l, k, xs, rfl, rfl, hT, hne, h1, h2, hz, q1, q2⟩ := h
  by_cases hk : 2 ≤ k
  · exact op_repT pins s σ H _ _ v u Q I rx ry ⟨l, k, xs, rfl, rfl, hT, hne, hk, h2, hz, q2 (by omega)⟩
  · cases rx
    obtain ⟨t, rfl⟩ := ry
    obtain ⟨its, r, ⟨⟨cls, dd, data, sl⟩, ho, hc, n, hd⟩, hs⟩ := I.tuple hT
    simp only at hc hd
    subst hc hd
    have hle : its.length = xs.length := r.length.symm
    have hn : its ≠ [] := fun e => hne (List.eq_nil_of_length_eq_zero (by rw [← hle, e]; rfl))
    have hi : its.toArray.isEmpty = false := by
      cases its with
      | nil => exact absurd rfl hn
      | cons a b => rfl
    have c0 : (decide (k < -(2 ^ 63)) || decide (k ≥ 2 ^ 63)) = false := by
      rw [decide_eq_false (by omega), decide_eq_false (by omega)]
      rfl
    have go : ∀ {R : Prop}, R → R := fun r => r
    by_cases h1k : k = 1
    · have c1 : (its.toArray.isEmpty || k == 1) = true := by
        rw [h1k, hi]
        rfl
      refine wpAny_binaryOp_repeat_ref (T := "tuple") (U := "int") (by decide) ⟨_, ho, rfl⟩ (fun s' => typeIs_int s' k t) noFill_tuple_mul F.fills_int_mul F.slot_int_rmul repeat_tuple F.slot_int_index.lookup
        (call_meets F.slot_int_rmul (typeIs_int s k t) F.entry_int_rmul (F.args_int_rmul_2 _ _) (int_rmul_tuple k t l its.toArray n dd sl)
          ⟨ho, rfl, ⟨_, ho, rfl⟩, call_meets F.slot_tuple_mul ⟨_, ho, rfl⟩ F.entry_tuple_mul (F.args_tuple_mul_2 _ _) (tup_mulS l its.toArray n dd sl k t c0 c1) ⟨ho, ?_⟩⟩)
      exact ⟨.ref l, H, I, rfl, q1 h1k⟩
    · have k0 : k = 0 := by omega
      have c1 : (its.toArray.isEmpty || k == 1) = false := by
        rw [k0, hi]
        rfl
      have c2 : (decide (k ≤ 0) || its.toArray.isEmpty) = true := by
        rw [k0]
        rfl
      refine wpAny_binaryOp_repeat_ref (T := "tuple") (U := "int") (by decide) ⟨_, ho, rfl⟩ (fun s' => typeIs_int s' k t) noFill_tuple_mul F.fills_int_mul F.slot_int_rmul repeat_tuple F.slot_int_index.lookup
        (call_meets F.slot_int_rmul (typeIs_int s k t) F.entry_int_rmul (F.args_int_rmul_2 _ _) (int_rmul_tuple k t l its.toArray n dd sl)
          ⟨ho, rfl, ⟨_, ho, rfl⟩, call_meets F.slot_tuple_mul ⟨_, ho, rfl⟩ F.entry_tuple_mul (F.args_tuple_mul_2 _ _) (tup_mulZ l its.toArray n dd sl k t c0 c1 c2) ⟨ho, ?_⟩⟩)
      have qq := q2 h1k
      rw [k0] at qq
      refine ⟨.ref s.heap.objs.size, _, I.laid (t' := s.toks) (o := .tup []) (fun b ob q => Heap.get?_push_of_some _ q) (Nat.le_refl _) ?_, rfl, qq _ (I.hok.fresh (Nat.le_refl _))⟩
      exact ⟨Nat.zero_le _, [], .nil, IsTup.new _ _⟩
theorem SgA.rep {K : PySem.W.Frag} {B : List Addr} {H : Hp} {xs : List V} {ds : List D} (r : SgA K B H xs ds) : ∀ n : Nat, SgA K B H (List.replicate n xs).flatten (List.replicate n ds).flatten
  | 0 => .nil
  | n + 1 => by
    rw [List.replicate_succ, List.replicate_succ, List.flatten_cons, List.flatten_cons]
    exact r.append (SgA.rep r n)
def rEqNil : R2 := fun x y H Q => ∃ a b xs, x = .ref a ∧ y = .ref b ∧ H a = some (.lst xs) ∧ H b = some (.lst []) ∧ Q (.bl xs.isEmpty) H
theorem op_eqNil {X : Cx} (hu : X.A.units + 64 < cLine) : OpR X (compareOp .Eq) rEqNil := by
  intro pins s σ H x y v u Q I rx ry h
  obtain ⟨a, b, xs, rfl, rfl, h1, h2, q⟩ := h
  cases rx
  cases ry
  cases xs with
  | nil =>
    refine op_eqD hu pins s σ H (.ref a) (.ref b) _ _ Q I rfl rfl ⟨.list [], .list [], .lst (SqL.of h1) .nil, .lst (SqL.of h2) .nil, by decide +kernel, by decide +kernel, q⟩
  | cons x r =>
    obtain ⟨z, its, n, r1, hl, e⟩ := I.lstM h1
    obtain ⟨z2, its2, n2, r2, hl2, e2⟩ := I.lstM h2
    refine P.eq_list_lengths e e2 ?_ (by omega) ⟨.bl false, H, I, rfl, q⟩
    rw [List.size_toArray, List.size_toArray, ← hl, ← hl2]
    simp
end VB
namespace VB
open PySem PySem.Spec PyProof.Rows L2
def Sm (z : Str) : Prop := ∀ c ∈ z.cps.toList, c < 65536
def smB (z : Str) : Bool := decide (z.length ≤ 5000) && z.cps.toList.all fun c => decide (c < 65536)
def kft : Key → Bool
  | .inl i => decide (i.natAbs < 10 ^ 45)
  | .inr z => smB z
mutual
def D.ft : D → Bool
  | .non => true
  | .bl _ => true
  | .int i => decide (i.natAbs < 10 ^ 45)
  | .str z => smB z
  | .tup ds => decide (ds.length ≤ 100000) && D.ftA ds
  | .lst ds => D.ftA ds
  | .dic ks ds => ks.all kft && D.ftA ds
  | .ty _ => false
  | .raw _ => false
  | .ins _ _ _ => false
  | .dit _ _ => false
  | .din _ _ _ _ => false
  | .etup => false
def D.ftA : List D → Bool
  | [] => true
  | d :: ds => D.ft d && D.ftA ds
end
theorem smB_iff {z : Str} : smB z = true ↔ z.length ≤ 5000 ∧ Sm z := by
  unfold smB Sm
  rw [Bool.and_eq_true_iff, decide_eq_true_iff, List.all_eq_true]
  constructor
  · rintro ⟨h1, h2⟩
    exact ⟨h1, fun c m => of_decide_eq_true (h2 c m)⟩
  · rintro ⟨h1, h2⟩
    exact ⟨h1, fun c m => decide_eq_true (h2 c m)⟩
theorem int_short {i : Int} (h : i.natAbs < 10 ^ 45) : (PyData.shown (.int i)).length ≤ 60 := by
  have e := PySem.int_text_length_le10 (k := 45) (by decide) h
  show (Str.ofString (toString i)).length ≤ 60
  rw [PySem.ofString_length]
  omega
theorem nat_log {n : Nat} (h : n < 10 ^ 45) : n.log2 < 150 := by
  by_cases h0 : n = 0
  · rw [h0]
    decide
  · rw [Nat.log2_lt h0]
    exact Nat.lt_of_lt_of_le h (by decide +kernel)
theorem sm_short {z : Str} (h : Sm z) : (PyData.str z).leavesShort 60 = true := by
  show (z.cps.toList.all fun c => decide (c < 16 ^ 8)) = true
  rw [List.all_eq_true]
  intro c m
  exact decide_eq_true (Nat.lt_trans (h c m) (by decide))
theorem kD_ok {k : Key} (h : kft k = true) : (kD k).showable = true ∧ (kD k).leavesShort 60 = true := by
  cases k with
  | inl i =>
    have hi : i.natAbs < 10 ^ 45 := of_decide_eq_true h
    exact ⟨decide_eq_true (Nat.lt_trans (nat_log hi) (by decide)), decide_eq_true (int_short hi)⟩
  | inr z => exact ⟨rfl, sm_short (smB_iff.mp h).2⟩
mutual
theorem D.ft_ok : ∀ {d : D}, d.ft = true → d.sz = true ∧ d.pl = true ∧ d.py.showable = true ∧ d.py.leavesShort 60 = true
  | .non, _ => ⟨rfl, rfl, rfl, rfl⟩
  | .bl _, _ => ⟨rfl, rfl, rfl, rfl⟩
  | .int i, h => by
    have hi : i.natAbs < 10 ^ 45 := of_decide_eq_true h
    exact ⟨rfl, rfl, decide_eq_true (Nat.lt_trans (nat_log hi) (by decide)), decide_eq_true (int_short hi)⟩
  | .str z, h => by
    obtain ⟨h1, h2⟩ := smB_iff.mp (show smB z = true from h)
    exact ⟨decide_eq_true (by omega), rfl, rfl, sm_short h2⟩
  | .tup ds, h => by
    obtain ⟨h1, h2⟩ := Bool.and_eq_true_iff.mp (show (decide (ds.length ≤ 100000) && D.ftA ds) = true from h)
    obtain ⟨a, b, c, e⟩ := D.ftA_ok h2
    have h1 := of_decide_eq_true h1
    refine ⟨?_, b, c, e⟩
    show (decide (ds.length ≤ 16777000) && D.szA ds) = true
    rw [a, decide_eq_true (by omega)]
    rfl
  | .lst ds, h => D.ftA_ok (show D.ftA ds = true from h)
  | .dic ks ds, h => by
    obtain ⟨h1, h2⟩ := Bool.and_eq_true_iff.mp (show (ks.all kft && D.ftA ds) = true from h)
    obtain ⟨a, b, c, e⟩ := D.ftA_ok h2
    have go : ∀ (ks : List Key) (es : List PyData), ks.all kft = true → PyData.showableAll es = true → PyData.leavesShortAll 60 es = true → PyData.showableKv ((ks.map kD).zip es) = true ∧ PyData.leavesShortKv 60 ((ks.map kD).zip es) = true := by
      intro ks
      induction ks with
      | nil => exact fun _ _ _ _ => ⟨rfl, rfl⟩
      | cons k r ih =>
        intro es hk hs hl
        cases es with
        | nil => exact ⟨rfl, rfl⟩
        | cons y q =>
          rw [List.all_cons] at hk
          obtain ⟨k1, k2⟩ := Bool.and_eq_true_iff.mp hk
          obtain ⟨s1, s2⟩ := Bool.and_eq_true_iff.mp (show (PyData.showable y && PyData.showableAll q) = true from hs)
          obtain ⟨l1, l2⟩ := Bool.and_eq_true_iff.mp (show (PyData.leavesShort 60 y && PyData.leavesShortAll 60 q) = true from hl)
          obtain ⟨i1, i2⟩ := ih q k2 s2 l2
          obtain ⟨q1, q2⟩ := kD_ok k1
          constructor
          · show (PyData.showable (kD k) && PyData.showable y && PyData.showableKv ((r.map kD).zip q)) = true
            rw [q1, s1, i1]
            rfl
          · show (PyData.leavesShort 60 (kD k) && PyData.leavesShort 60 y && PyData.leavesShortKv 60 ((r.map kD).zip q)) = true
            rw [q2, l1, i2]
            rfl
    obtain ⟨g1, g2⟩ := go ks (D.pyA ds) h1 c e
    exact ⟨a, b, g1, g2⟩
  | .ty _, h => by cases h
  | .raw _, h => by cases h
  | .ins _ _ _, h => by cases h
theorem D.ftA_ok : ∀ {ds : List D}, D.ftA ds = true → D.szA ds = true ∧ D.plA ds = true ∧ PyData.showableAll (D.pyA ds) = true ∧ PyData.leavesShortAll 60 (D.pyA ds) = true
  | [], _ => ⟨rfl, rfl, rfl, rfl⟩
  | d :: ds, h => by
    obtain ⟨h1, h2⟩ := Bool.and_eq_true_iff.mp (show (D.ft d && D.ftA ds) = true from h)
    obtain ⟨a1, b1, c1, e1⟩ := D.ft_ok h1
    obtain ⟨a2, b2, c2, e2⟩ := D.ftA_ok h2
    refine ⟨?_, ?_, ?_, ?_⟩
    · show (_ && _) = true
      rw [a1, a2]
      rfl
    · show (_ && _) = true
      rw [b1, b2]
      rfl
    · show (PyData.showable _ && PyData.showableAll _) = true
      rw [c1, c2]
      rfl
    · show (PyData.leavesShort _ _ && PyData.leavesShortAll _ _) = true
      rw [e1, e2]
      rfl
end
structure Fit (w k : Nat) (d : D) : Prop where
  ft : d.ft = true
  wt : d.py.weight ≤ w
  dp : d.py.depth ≤ k
theorem Fit.mono {w k w' k' : Nat} {d : D} (h : Fit w k d) (hw : w ≤ w') (hk : k ≤ k') : Fit w' k' d := ⟨h.ft, Nat.le_trans h.wt hw, Nat.le_trans h.dp hk⟩
theorem fitA {w k : Nat} : ∀ {ds : List D}, (∀ d ∈ ds, Fit w k d) → D.ftA ds = true ∧ PyData.weightAll (D.pyA ds) ≤ ds.length * (w + 1) ∧ PyData.depthAll (D.pyA ds) ≤ k
  | [], _ => ⟨rfl, Nat.zero_le _, Nat.zero_le _⟩
  | d :: ds, h => by
    have h1 := h d (List.mem_cons_self ..)
    obtain ⟨a, b, c⟩ := fitA (ds := ds) fun x m => h x (List.mem_cons_of_mem _ m)
    refine ⟨?_, ?_, ?_⟩
    · show (_ && _) = true
      rw [h1.ft, a]
      rfl
    · show PyData.weight _ + 1 + PyData.weightAll _ ≤ (ds.length + 1) * (w + 1)
      have := h1.wt
      rw [Nat.succ_mul]
      omega
    · show max (PyData.depth _) (PyData.depthAll _) ≤ k
      have := h1.dp
      omega
theorem Fit.tup {w k l : Nat} {ds : List D} (h : ∀ d ∈ ds, Fit w k d) (hl : ds.length ≤ l) (hs : l ≤ 100000) : Fit (l * (w + 1)) (k + 1) (.tup ds) := by
  obtain ⟨a, b, c⟩ := fitA h
  refine ⟨?_, Nat.le_trans b (Nat.mul_le_mul_right _ hl), Nat.succ_le_succ c⟩
  show (decide (ds.length ≤ 100000) && D.ftA ds) = true
  rw [a, decide_eq_true (by omega)]
  rfl
theorem Fit.lst {w k l : Nat} {ds : List D} (h : ∀ d ∈ ds, Fit w k d) (hl : ds.length ≤ l) : Fit (l * (w + 1)) (k + 1) (.lst ds) := by
  obtain ⟨a, b, c⟩ := fitA h
  exact ⟨a, Nat.le_trans b (Nat.mul_le_mul_right _ hl), Nat.succ_le_succ c⟩
theorem Fit.str {n : Nat} {z : Str} (h : z.length ≤ n) (hn : n ≤ 5000) (s : Sm z) : Fit n 0 (.str z) := ⟨smB_iff.mpr ⟨Nat.le_trans h hn, s⟩, h, Nat.le_refl _⟩
theorem Fit.int {i : Int} (h : i.natAbs < 10 ^ 45) : Fit 150 0 (.int i) := by
  refine ⟨decide_eq_true h, ?_, Nat.le_refl _⟩
  show (if (i == 0) = true then 0 else i.natAbs.log2 + 1) ≤ 150
  have := nat_log h
  split <;> omega
theorem Fit.sz {w k : Nat} {d : D} (h : Fit w k d) : d.sz = true := (D.ft_ok h.ft).1
theorem Fit.rp {d : D} (h : Fit 200000 20 d) : d.pl = true ∧ d.py.showable = true ∧ d.py.depth ≤ 60 ∧ d.py.shown.length ≤ sizeLine := by
  obtain ⟨_, b, c, e⟩ := D.ft_ok h.ft
  refine ⟨b, c, Nat.le_trans h.dp (by decide), ?_⟩
  have := PyData.shown_le 60 (by decide) _ e
  have := h.wt
  rw [sizeLine_eq]
  omega
theorem Sm.app {x y : Str} (h : Sm x) (k : Sm y) : Sm (x ++ y) := fun c m => by
  rw [Str.cps_append, Array.toList_append, List.mem_append] at m
  exact m.elim (h c) (k c)
theorem Sm.cut {x : Str} (h : Sm x) (lo hi : Option Int) : Sm (cutS x lo hi) := fun c m => by
  unfold cutS at m
  exact h c (List.mem_of_mem_drop (List.mem_of_mem_take (by simpa using m)))
theorem Lw.sm {x : Str} (h : Lw x) : Sm x := fun c m => by
  have : ∀ c ∈ LET.cps.toList, c < 65536 := by decide +kernel
  exact this c (h c m)
end VB
namespace VB
open PySem PySem.Spec PyProof.Rows L2
inductive M (α : Type) where
  | ret (a : α) | fail | exc (e : D) | draw (n : Int) (k : Int → M α)
namespace M
variable {α β γ : Type}
def bind : M α → (α → M β) → M β
  | .ret a, f => f a
  | .fail, _ => .fail
  | .exc e, _ => .exc e
  | .draw n k, f => .draw n fun r => (k r).bind f
theorem ret_bind (a : α) (f : α → M β) : (M.ret a).bind f = f a := rfl
theorem assoc (m : M α) (f : α → M β) (g : β → M γ) : (m.bind f).bind g = m.bind fun a => (f a).bind g := by
  induction m with
  | ret a => rfl
  | fail => rfl
  | exc e => rfl
  | draw n k ih =>
    show M.draw n _ = M.draw n _
    congr 1
    funext r
    exact ih r
end M
def wp {α : Type} : M α → (α → Prop) → Prop
  | .ret a, P => P a
  | .fail, _ => False
  | .exc _, _ => False
  | .draw n k, P => 0 < n ∧ ∀ r, 0 ≤ r → r < n → wp (k r) P
section
variable {α β : Type}
theorem wp_mono {P P' : α → Prop} : ∀ {m : M α}, wp m P → (∀ a, P a → P' a) → wp m P'
  | .ret _, h, k => k _ h
  | .fail, h, _ => h.elim
  | .exc _, h, _ => h.elim
  | .draw _ _, h, k => ⟨h.1, fun r h0 h1 => wp_mono (h.2 r h0 h1) k⟩
theorem wp_bind {f : α → M β} {P : β → Prop} : ∀ {m : M α}, wp (m.bind f) P ↔ wp m fun a => wp (f a) P
  | .ret _ => Iff.rfl
  | .fail => Iff.rfl
  | .exc _ => Iff.rfl
  | .draw _ _ => ⟨fun h => ⟨h.1, fun r h0 h1 => wp_bind.mp (h.2 r h0 h1)⟩, fun h => ⟨h.1, fun r h0 h1 => wp_bind.mpr (h.2 r h0 h1)⟩⟩
theorem wp_bind_of {f : α → M β} {P : β → Prop} {Q : α → Prop} {m : M α} (h : wp m Q) (k : ∀ a, Q a → wp (f a) P) : wp (m.bind f) P := wp_bind.mpr (wp_mono h k)
theorem wp_false : ∀ {m : M α}, wp m (fun _ => False) → False
  | .ret _, h => h
  | .fail, h => h
  | .exc _, h => h
  | .draw _ _, h => wp_false (h.2 0 (Int.le_refl _) h.1)
end
/-- what is read: the root may be a place left out -/
def ER (K : PySem.W.Frag) (te : TE) (ρ : List En) (P : D → Prop) : Prop := ∀ (B W : List Addr) (H : Hp) (σ : L2.St), EnvOk K B W H σ ρ → ∀ Q : VK, (∀ v d H', Gs W H H' → Sr K B W H' v d → P d → Q v H') → te σ H Q
inductive SrA (K : PySem.W.Frag) (B W : List Addr) (H : Hp) : List V → List D → Prop
  | nil : SrA K B W H [] []
  | cons {v : V} {vs : List V} {d : D} {ds : List D} : Sr K B W H v d → SrA K B W H vs ds → SrA K B W H (v :: vs) (d :: ds)
theorem SrA.gs {K : PySem.W.Frag} {B W : List Addr} {H H' : Hp} (w : ∀ a ∈ W, a ∈ B) (g : Gs W H H') : ∀ {vs ds}, SrA K B W H vs ds → SrA K B W H' vs ds
  | _, _, .nil => .nil
  | _, _, .cons h r => .cons (h.gs w g) (SrA.gs w g r)
def EAr (K : PySem.W.Frag) (ta : TA) (ρ : List En) (P : List D → Prop) : Prop := ∀ (B W : List Addr) (H : Hp) (σ : L2.St), EnvOk K B W H σ ρ → ∀ Q : List V → Hp → Prop, (∀ vs ds H', Gs W H H' → SrA K B W H' vs ds → P ds → Q vs H') → ta σ H Q
section
variable {K : PySem.W.Frag} {ρ : List En} {te : TE} {P P' : D → Prop}
theorem EV.er (h : EV K te ρ P) : ER K te ρ P := fun B W H σ e Q q => h B W H σ e Q fun v d H' g s p => q v d H' g (s.sr e.bw.sub) p
theorem ER.imp (h : ER K te ρ P) (k : ∀ d, P d → P' d) : ER K te ρ P' := fun B W H σ e Q q => h B W H σ e Q fun v d H' g s p => q v d H' g s (k d p)
end
/-- te is worth what m says: as data, as what is read, as a new object -/
def RE (K : PySem.W.Frag) (te : TE) (ρ : List En) (m : M D) : Prop := ∀ P, wp m P → EV K te ρ P
def RR (K : PySem.W.Frag) (te : TE) (ρ : List En) (m : M D) : Prop := ∀ P, wp m P → ER K te ρ P
def RN (K : PySem.W.Frag) (te : TE) (ρ : List En) (m : M D) : Prop := ∀ P, wp m P → EVN K te ρ P
def RT (K : PySem.W.Frag) (tt : TT) (ρ : List En) (m : M Bool) : Prop := ∀ P, wp m P → ET K tt ρ P
/-- arguments: what goes on with them is handed in -/
abbrev MA := (α : Type) → (List D → M α) → M α
def RAs (K : PySem.W.Frag) (ta : TA) (ρ : List En) (A : MA) : Prop := ∀ (α : Type) (k : List D → M α) (P : α → Prop), wp (A α k) P → EA K ta ρ fun ds => wp (k ds) P
def RAr (K : PySem.W.Frag) (ta : TA) (ρ : List En) (A : MA) : Prop := ∀ (α : Type) (k : List D → M α) (P : α → Prop), wp (A α k) P → EAr K ta ρ fun ds => wp (k ds) P
/-- an operation by values -/
def OpD (K : PySem.W.Frag) (r : R2) (f : D → D → M D) : Prop := ∀ (x y : D) (P : D → Prop), wp (f x y) P → ∀ (B W : List Addr) (H : Hp) (v u : V), BW B W H → Sr K B W H v x → Sr K B W H u y →
  ∀ Q : VK, (∀ z d H', Gs W H H' → Sg K B H' z d → P d → Q z H') → r v u H Q
/-- a call on values -/
def CaD (K : PySem.W.Frag) (r : List V → Hp → VK → Prop) (f : List D → M D) : Prop := ∀ (ds : List D) (P : D → Prop), wp (f ds) P → ∀ (B W : List Addr) (H : Hp) (vs : List V), BW B W H → SrA K B W H vs ds →
  ∀ Q : VK, (∀ z d H', Gs W H H' → Sg K B H' z d → P d → Q z H') → r vs H Q
/-- the same, the answer a new object -/
def CaN (K : PySem.W.Frag) (r : List V → Hp → VK → Prop) (f : List D → M D) : Prop := ∀ (ds : List D) (P : D → Prop), wp (f ds) P → ∀ (B W : List Addr) (H : Hp) (vs : List V), BW B W H → SrA K B W H vs ds →
  ∀ Q : VK, (∀ a d H', Gs W H H' → H a = none → OwAt K (a :: B) H' a d → P d → Q (.ref a) H') → r vs H Q
theorem CaN.ca {K : PySem.W.Frag} {r : List V → Hp → VK → Prop} {f : List D → M D} (h : CaN K r f) : CaD K r f := fun ds P w B W H vs b s Q q => h ds P w B W H vs b s Q fun a d H' g n k p => q _ d H' g (k.sg (fun x m => List.mem_cons_of_mem _ m) fun m => b.kn a m n) p
section
variable {K : PySem.W.Frag} {ρ : List En} {te ta tb tc : TE} {tt tu : TT} {m ma mb mc : M D} {mt mu : M Bool} {i : Nat} {d : D}
theorem RE.rr (h : RE K te ρ m) : RR K te ρ m := fun P w => (h P w).er
theorem RN.re (h : RN K te ρ m) : RE K te ρ m := fun P w => (h P w).ev
theorem RN.rr (h : RN K te ρ m) : RR K te ρ m := h.re.rr
theorem RE.var (h : ρ[i]? = some (.dat d)) : RE K (tVar i) ρ (.ret d) := fun P p => EV.var h p
theorem RR.var (h : ρ[i]? = some (.dat d)) : RR K (tVar i) ρ (.ret d) := (RE.var h).rr
theorem RR.bor (h : ρ[i]? = some (.bor d)) : RR K (tVar i) ρ (.ret d) := fun P p B W H σ e Q q => by
  obtain ⟨v, e1, s⟩ := e.sl i _ h
  exact ⟨v, e1, q v d H Gs.refl s p⟩
theorem OwAt.sr {B W : List Addr} {H : Hp} {a : Addr} (n : a ∉ W) (h : OwAt K B H a d) : Sr K B W H (.ref a) d := by
  cases d with
  | lst ds =>
    obtain ⟨xs, h, r⟩ := h
    exact ⟨a, xs, rfl, n, h, r⟩
  | dic ks ds =>
    obtain ⟨xs, h, k, r⟩ := h
    exact ⟨a, xs, rfl, n, Rd.of h, k, r⟩
  | dit ks ds =>
    obtain ⟨xs, h, k, r⟩ := h
    exact ⟨a, xs, rfl, n, Rd.of h, k, r⟩
  | din w kk ks ds =>
    obtain ⟨xs, h, k, q, r⟩ := h
    exact ⟨a, xs, rfl, n, Rd.of h, k, q, r⟩
  | ins C ks ds =>
    obtain ⟨dx, xs, h, k, r⟩ := h
    exact ⟨a, dx, xs, rfl, n, h, k, r⟩
  | _ => exact h.elim
theorem RR.own {t : Option Addr} (h : ρ[i]? = some (.own ⟨t, d⟩)) : RR K (tVar i) ρ (.ret d) := fun P p B W H σ e Q q => by
  obtain ⟨a, e1, _, aW, _, k⟩ := e.sl i _ h
  exact ⟨_, e1, q _ d H Gs.refl (OwAt.sr aW k) p⟩
theorem RE.int {i : Int} : RE K (tC (.int i)) ρ (.ret (.int i)) := fun P p => EV.int p
theorem RE.str {x : Str} : RE K (tC (.str x)) ρ (.ret (.str x)) := fun P p => EV.str p
theorem RE.bl {b : Bool} : RE K (tC (.bl b)) ρ (.ret (.bl b)) := fun P p => EV.bl p
theorem RE.ty {n : String} : RE K (tC (.ty n)) ρ (.ret (.ty n)) := fun P p => EV.ty p
theorem RE.non : RE K (tC .non) ρ (.ret .non) := fun P p => EV.non p
theorem RE.op {r : R2} {f : D → D → M D} (o : OpD K r f) (ha : RR K ta ρ ma) (hb : RR K tb ρ mb) : RE K (tOp r ta tb) ρ (ma.bind fun x => mb.bind fun y => f x y) := fun P w B W H σ e Q q =>
  ha _ (wp_bind.mp w) B W H σ e _ fun v x H1 g1 s1 w1 => hb _ (wp_bind.mp w1) B W H1 σ (e.gs g1) _ fun u y H2 g2 s2 w2 =>
    o x y P w2 B W H2 v u ((e.gs g1).gs g2).bw (s1.gs e.bw.sub g2) s2 Q fun z d H3 g3 s3 p => q z d H3 ((g1.trans g2).trans g3) s3 p
theorem RE.cb {rc : List V → Hp → VK → Prop} {f : List D → M D} {t : TA} {mA : MA} (c : CaD K rc f) (h : RAr K t ρ mA) : RE K (tCB rc t) ρ (mA D f) := fun P w B W H σ e Q q =>
  h _ _ _ w B W H σ e _ fun vs ds H1 g1 s1 w1 => c ds P w1 B W H1 vs (e.gs g1).bw s1 Q fun z d H2 g2 s2 p => q z d H2 (g1.trans g2) s2 p
theorem RN.cb {rc : List V → Hp → VK → Prop} {f : List D → M D} {t : TA} {mA : MA} (c : CaN K rc f) (h : RAr K t ρ mA) : RN K (tCB rc t) ρ (mA D f) := fun P w B W H σ e Q q =>
  h _ _ _ w B W H σ e _ fun vs ds H1 g1 s1 w1 => c ds P w1 B W H1 vs (e.gs g1).bw s1 Q fun a d H2 g2 n k p => q a d H2 (g1.trans g2) (g1.gw.free a n) k p
theorem RAs.nil : RAs K tNil ρ fun _ k => k [] := fun α k P p => EA.nil p
theorem RAs.cons {tr : TA} {mr : MA} (ha : RE K ta ρ ma) (hr : RAs K tr ρ mr) : RAs K (tCons ta tr) ρ fun α k => ma.bind fun x => mr α fun xs => k (x :: xs) := fun α k P w =>
  EA.cons (EV.imp (ha _ (wp_bind.mp w)) fun x w1 => hr α _ P w1)
theorem RAr.nil : RAr K tNil ρ fun _ k => k [] := fun α k P p B W H σ e Q q => q _ _ H Gs.refl .nil p
theorem RAr.cons {tr : TA} {mr : MA} (ha : RR K ta ρ ma) (hr : RAr K tr ρ mr) : RAr K (tCons ta tr) ρ fun α k => ma.bind fun x => mr α fun xs => k (x :: xs) := fun α k P w B W H σ e Q q =>
  ha _ (wp_bind.mp w) B W H σ e _ fun v x H1 g1 s1 w1 => hr α _ P w1 B W H1 σ (e.gs g1) _ fun vs ds H2 g2 s2 w2 => q _ _ H2 (g1.trans g2) (.cons (s1.gs e.bw.sub g2) s2) w2
/-- displays -/
def D.tupM (ds : List D) : M D := if ds.length ≤ 16777216 then .ret (.tup ds) else .fail
def D.lstM (ds : List D) : M D := if ds.length ≤ 16777216 then .ret (.lst ds) else .fail
theorem wp_ite {α : Type} {c : Prop} [Decidable c] {m : M α} {P : α → Prop} (w : wp (if c then m else .fail) P) : c ∧ wp m P := by
  by_cases h : c
  · rw [if_pos h] at w
    exact ⟨h, w⟩
  · rw [if_neg h] at w
    exact w.elim
theorem RE.tup {t : TA} {mA : MA} (h : RAs K t ρ mA) : RE K (tTup t) ρ (mA D D.tupM) := fun P w => EV.tup fun B W H σ e Q q => h _ _ _ w B W H σ e Q fun vs ds H' g s w1 => q vs ds H' g s (by
  obtain ⟨h1, h2⟩ := wp_ite w1
  exact ⟨by rw [sizeLine_eq]; exact h1, h2⟩)
theorem RN.lst {t : TA} {mA : MA} (h : RAs K t ρ mA) : RN K (tLst t) ρ (mA D D.lstM) := fun P w => EVN.lst fun B W H σ e Q q => h _ _ _ w B W H σ e Q fun vs ds H' g s w1 => q vs ds H' g s (by
  obtain ⟨h1, h2⟩ := wp_ite w1
  exact ⟨by rw [sizeLine_eq]; exact h1, h2⟩)
theorem RN.dnew : RN K tDNewK ρ (.ret (.dic [] [])) := fun P p => EVN.dnew p
def D.truth : D → M Bool
  | .non => .ret false
  | .bl b => .ret b
  | .int i => .ret (i != 0)
  | .str z => if z.length ≤ 16777216 then .ret (z.length != 0) else .fail
  | .lst ds => .ret (!ds.isEmpty)
  | .tup ds => .ret (!ds.isEmpty)
  | _ => .fail
theorem SgA.isEmpty {B : List Addr} {H : Hp} {xs : List V} {ds : List D} (r : SgA K B H xs ds) : xs.isEmpty = ds.isEmpty := by
  cases r <;> rfl
theorem truth_ok {B W : List Addr} {H : Hp} {v : V} {d : D} {P : Bool → Prop} (w : wp d.truth P) (s : Sr K B W H v d) : ∃ k, TruV K v H k ∧ P k := by
  cases d with
  | non => cases s; exact ⟨_, rfl, w⟩
  | bl b => cases s; exact ⟨_, rfl, w⟩
  | int i => cases s; exact ⟨_, rfl, w⟩
  | str z =>
    cases s
    obtain ⟨h1, h2⟩ := wp_ite w
    refine ⟨_, ⟨by rw [sizeLine_eq]; exact h1, rfl⟩, ?_⟩
    have e : ((z.length : Int) != 0) = (z.length != 0) := by
      rw [Bool.eq_iff_iff]
      simp
    rw [e]
    exact h2
  | lst ds =>
    obtain ⟨a, xs, rfl, _, h, r⟩ := s
    exact ⟨_, .inl ⟨xs, SqL.of h, rfl⟩, by rw [r.isEmpty]; exact w⟩
  | tup ds =>
    have go : ∀ {a : Addr}, Sg K B H (.ref a) (.tup ds) → ∃ k, TruV K (.ref a) H k ∧ P k := fun {a} s => by
      obtain ⟨xs, h, r⟩ := s.sqT
      exact ⟨_, .inr (.inl ⟨xs, h, rfl⟩), by rw [r.isEmpty]; exact w⟩
    cases s with
    | tup n h r => exact go (.tup n h r)
  | dic ks ds => exact w.elim
  | dit ks ds => exact w.elim
  | din _ _ _ _ => exact w.elim
  | etup => exact w.elim
  | ty n => exact w.elim
  | raw a => exact w.elim
  | ins C ks ds => exact w.elim
theorem RE.notT (ha : RR K ta ρ ma) : RE K (tNotT K ta) ρ (ma.bind fun x => x.truth.bind fun k => .ret (.bl (!k))) := fun P w B W H σ e Q q =>
  ha _ (wp_bind.mp w) B W H σ e _ fun v x H1 g1 s1 w1 => by
    obtain ⟨k, hk, w2⟩ := truth_ok (wp_bind.mp w1) s1
    exact ⟨k, hk, q _ _ H1 g1 (.bl _) w2⟩
/-- the reading of a test by truth -/
def tTruth (K : PySem.W.Frag) (ta : TE) : TT := fun σ H Q => ta σ H fun x H' => ∃ k, TruV K x H' k ∧ Q k H'
theorem RT.truth (ha : RR K ta ρ ma) : RT K (tTruth K ta) ρ (ma.bind D.truth) := fun P w B W H σ e Q q =>
  ha _ (wp_bind.mp w) B W H σ e _ fun v x H1 g1 s1 w1 => by
    obtain ⟨k, hk, p⟩ := truth_ok w1 s1
    exact ⟨k, hk, q k H1 g1 p⟩
/-- a value that is a truth -/
def D.asB : D → M Bool
  | .bl b => .ret b
  | _ => .fail
theorem asB_at {d : D} {P : Bool → Prop} (w : wp d.asB P) : ∃ b, d = .bl b ∧ P b := by
  cases d with
  | bl b => exact ⟨b, rfl, w⟩
  | _ => exact w.elim
theorem RT.test (ha : RR K ta ρ ma) : RT K (tTest ta) ρ (ma.bind D.asB) := fun P w B W H σ e Q q =>
  ha _ (wp_bind.mp w) B W H σ e _ fun v x H1 g1 s1 w1 => by
    obtain ⟨b, rfl, p⟩ := asB_at w1
    cases s1
    exact ⟨b, rfl, q b H1 g1 p⟩
theorem RT.b (ha : RR K ta ρ ma) : RT K (tB ta) ρ (ma.bind D.asB) := fun P w B W H σ e Q q =>
  ha _ (wp_bind.mp w) B W H σ e _ fun v x H1 g1 s1 w1 => by
    obtain ⟨b, rfl, p⟩ := asB_at w1
    cases s1
    exact ⟨b, rfl, q b H1 g1 p⟩
def M.and2 (mt mu : M Bool) : M Bool := mt.bind fun k => if k = true then mu else .ret false
def M.or2 (mt mu : M Bool) : M Bool := mt.bind fun k => if k = true then .ret true else mu
def M.not1 (mt : M Bool) : M Bool := mt.bind fun k => .ret (!k)
theorem RT.and (h : RT K tt ρ mt) (k : RT K tu ρ mu) : RT K (tAnd tt tu) ρ (M.and2 mt mu) := fun P w => ET.and (ET.imp (h _ (wp_bind.mp w)) fun b w1 => by
  cases b with
  | true => exact k P w1
  | false => exact w1)
theorem RT.or (h : RT K tt ρ mt) (k : RT K tu ρ mu) : RT K (tOr tt tu) ρ (M.or2 mt mu) := fun P w => ET.or (ET.imp (h _ (wp_bind.mp w)) fun b w1 => by
  cases b with
  | true => exact w1
  | false => exact k P w1)
theorem RT.not (h : RT K tt ρ mt) : RT K (tNot tt) ρ (M.not1 mt) := fun P w => ET.not (h _ (wp_bind.mp w))
theorem RT.yes : RT K tYes ρ (.ret true) := fun P p => ET.yes p
/-- a < b < c -/
def M.chain (f g : D → D → M D) (ma mb mc : M D) : M D := ma.bind fun x => mb.bind fun y => (f x y).bind fun z => z.asB.bind fun k => if k = true then mc.bind fun w => g y w else .ret (.bl false)
theorem RE.chain {r r2 : R2} {f g : D → D → M D} (o : OpD K r f) (o2 : OpD K r2 g) (ha : RR K ta ρ ma) (hb : RR K tb ρ mb) (hc : RR K tc ρ mc) : RE K (tChain r r2 ta tb tc) ρ (M.chain f g ma mb mc) := fun P w B W H σ e Q q =>
  ha _ (wp_bind.mp w) B W H σ e _ fun v x H1 g1 s1 w1 => hb _ (wp_bind.mp w1) B W H1 σ (e.gs g1) _ fun u y H2 g2 s2 w2 =>
    o x y _ (wp_bind.mp w2) B W H2 v u ((e.gs g1).gs g2).bw (s1.gs e.bw.sub g2) s2 _ fun z d H3 g3 s3 w3 => by
      obtain ⟨k, rfl, w4⟩ := asB_at (wp_bind.mp w3)
      cases s3
      have e3 := ((e.gs g1).gs g2).gs g3
      refine ⟨k, rfl, ?_⟩
      cases k with
      | true => exact hc _ (wp_bind.mp w4) B W H3 σ e3 _ fun t d H4 g4 s4 w5 => o2 y d P w5 B W H4 u t (e3.gs g4).bw (s2.gs e.bw.sub (g3.trans g4)) s4 Q fun z d H5 g5 s5 p => q z d H5 ((((g1.trans g2).trans g3).trans g4).trans g5) s5 p
      | false => exact q _ _ H3 ((g1.trans g2).trans g3) (.bl false) w4
/-- own truths by and, or, not (all but the last one truths) -/
def M.andB (ma mb : M D) : M D := ma.bind fun x => x.asB.bind fun k => if k = true then mb else .ret (.bl false)
theorem RE.andV (ha : RE K ta ρ ma) (hb : RE K tb ρ mb) : RE K (tAndV ta tb) ρ (M.andB ma mb) := fun P w => EV.andV (EV.imp (ha _ (wp_bind.mp w)) fun x w1 => by
  obtain ⟨k, rfl, w2⟩ := asB_at (wp_bind.mp w1)
  refine ⟨k, rfl, ?_⟩
  cases k with
  | true => exact hb P w2
  | false => exact w2)
/-- parts of a slice -/
def RO (K : PySem.W.Frag) (to : L2.St → Hp → (Option Int → Hp → Prop) → Prop) (ρ : List En) (m : M (Option Int)) : Prop := ∀ P, wp m P → EO K to ρ P
def D.asI : D → M Int
  | .int i => .ret i
  | _ => .fail
theorem asI_at {d : D} {P : Int → Prop} (w : wp d.asI P) : ∃ i, d = .int i ∧ P i := by
  cases d with
  | int i => exact ⟨i, rfl, w⟩
  | _ => exact w.elim
theorem RO.none : RO K tNoPart ρ (.ret none) := fun P p => EO.none p
theorem RO.some (ha : RE K ta ρ ma) : RO K (tPart ta) ρ (ma.bind fun x => x.asI.bind fun i => .ret (some i)) := fun P w => EO.some (EV.imp (ha _ (wp_bind.mp w)) fun x w1 => asI_at (wp_bind.mp w1))
/-- a slice by values -/
def SlD (K : PySem.W.Frag) (r : V → Option Int → Option Int → Hp → VK → Prop) (f : D → Option Int → Option Int → M D) : Prop := ∀ (x : D) (lo hi : Option Int) (P : D → Prop), wp (f x lo hi) P → ∀ (B W : List Addr) (H : Hp) (v : V), BW B W H → Sr K B W H v x →
  ∀ Q : VK, (∀ z d H', Gs W H H' → Sg K B H' z d → P d → Q z H') → r v lo hi H Q
theorem RE.sl {r : V → Option Int → Option Int → Hp → VK → Prop} {f : D → Option Int → Option Int → M D} {tl th : L2.St → Hp → (Option Int → Hp → Prop) → Prop} {ml mh : M (Option Int)} (o : SlD K r f) (ha : RR K ta ρ ma) (hl : RO K tl ρ ml) (hh : RO K th ρ mh) :
    RE K (tSl r ta tl th) ρ (ma.bind fun x => ml.bind fun lo => mh.bind fun hi => f x lo hi) := fun P w B W H σ e Q q =>
  ha _ (wp_bind.mp w) B W H σ e _ fun v x H1 g1 s1 w1 => hl _ (wp_bind.mp w1) B W H1 σ (e.gs g1) _ fun lo H2 g2 w2 => hh _ (wp_bind.mp w2) B W H2 σ ((e.gs g1).gs g2) _ fun hi H3 g3 w3 =>
    o x lo hi P w3 B W H3 v (((e.gs g1).gs g2).gs g3).bw (s1.gs e.bw.sub (g2.trans g3)) Q fun z d H4 g4 s4 p => q z d H4 (((g1.trans g2).trans g3).trans g4) s4 p
end
end VB
namespace VB
open PySem PySem.Spec PyProof.Rows L2
section
variable {X : Cx} {K : PySem.W.Frag} {r1 r2 : R2}
def rOr (r1 r2 : R2) : R2 := fun x y H Q => r1 x y H Q ∨ r2 x y H Q
theorem opr_or {f : Value → Value → Sem Value} (h1 : OpR X f r1) (h2 : OpR X f r2) : OpR X f (rOr r1 r2) := by
  intro pins s σ H x y v u Q I rx ry h
  rcases h with h | h
  · exact h1 pins s σ H x y v u Q I rx ry h
  · exact h2 pins s σ H x y v u Q I rx ry h
theorem ixr_or (h1 : IxR X r1) (h2 : IxR X r2) : IxR X (rOr r1 r2) := by
  intro value slice pins s σ H x y v u Q I rx ry h
  rcases h with h | h
  · exact h1 value slice pins s σ H x y v u Q I rx ry h
  · exact h2 value slice pins s σ H x y v u Q I rx ry h
def rOr3 (r1 r2 : V → Option Int → Option Int → Hp → VK → Prop) : V → Option Int → Option Int → Hp → VK → Prop := fun x a b H Q => r1 x a b H Q ∨ r2 x a b H Q
theorem slr_or {r1 r2 : V → Option Int → Option Int → Hp → VK → Prop} (h1 : SlR X r1) (h2 : SlR X r2) : SlR X (rOr3 r1 r2) := h1.or h2
def rOrC (r1 r2 : List V → Hp → VK → Prop) : List V → Hp → VK → Prop := fun xs H Q => r1 xs H Q ∨ r2 xs H Q
theorem cr_or {f : Value} {r1 r2 : List V → Hp → VK → Prop} (h1 : CallR X f r1) (h2 : CallR X f r2) : CallR X f (rOrC r1 r2) := by
  intro pins s σ H xs us Q I r h
  rcases h with h | h
  · exact h1 pins s σ H xs us Q I r h
  · exact h2 pins s σ H xs us Q I r h
end
section
variable {K : PySem.W.Frag}
theorem Sr.sqT {B W : List Addr} {H : Hp} {v : V} {ds : List D} (s : Sr K B W H v (.tup ds)) : ∃ a xs, v = .ref a ∧ SqT K H a xs ∧ SgA K B H xs ds ∧ Sg K B H (.ref a) (.tup ds) := by
  cases (show Sg K B H v (.tup ds) from s) with
  | tup n h r => exact ⟨_, _, rfl, Or.inl (Rd.of h), r, .tup n h r⟩
/-- + -/
abbrev rAdd (K : PySem.W.Frag) : R2 := rOr (rI0 fun i j => .int (i + j)) (rOr (fun x y H Q => ∃ i j, x = .str i ∧ y = .str j ∧ i.length + j.length ≤ sizeLine ∧ Q (.str (i ++ j)) H) (rOr rCat (rCatA K)))
theorem op_addX {X : Cx} (h : X.K = K) : OpR X (binaryOp .Add) (rAdd K) := by
  subst h
  exact opr_or op_add (opr_or op_add_str (opr_or op_cat op_catA))
def D.add : D → D → M D
  | .int i, .int j => .ret (.int (i + j))
  | .str x, .str y => if x.length + y.length ≤ 16777216 then .ret (.str (x ++ y)) else .fail
  | .lst xs, .lst ys => if xs.length + ys.length ≤ 16777216 then .ret (.lst (xs ++ ys)) else .fail
  | .tup xs, .tup ys => if xs.length + ys.length ≤ 16777216 then .ret (.tup (xs ++ ys)) else .fail
  | _, _ => .fail
theorem add_d : OpD K (rAdd K) D.add := by
  intro x y P w B W H v u b sv su Q q
  cases x with
  | int i =>
    cases y with
    | int j =>
      cases sv
      cases su
      exact .inl ⟨i, j, rfl, rfl, q _ _ H Gs.refl (.int _) w⟩
    | _ => exact w.elim
  | str i =>
    cases y with
    | str j =>
      cases sv
      cases su
      obtain ⟨h1, h2⟩ := wp_ite w
      exact .inr (.inl ⟨i, j, rfl, rfl, by rw [sizeLine_eq]; exact h1, q _ _ H Gs.refl (.str _) h2⟩)
    | _ => exact w.elim
  | lst xs =>
    cases y with
    | lst ys =>
      obtain ⟨a, vs, rfl, _, h, r⟩ := sv
      obtain ⟨c, us, rfl, _, h', r'⟩ := su
      obtain ⟨h1, h2⟩ := wp_ite w
      exact .inr (.inr (.inl ⟨a, c, vs, us, rfl, rfl, h, h', by rw [r.length, r'.length, sizeLine_eq]; exact h1, fun p n => q _ _ _ (Gs.new n) (.lst (b.notNew n) upd_same ((r.append r').gw (Gw.new n))) h2⟩))
    | _ => exact w.elim
  | tup xs =>
    cases y with
    | tup ys =>
      obtain ⟨a, vs, rfl, h, r, s1⟩ := sv.sqT
      obtain ⟨c, us, rfl, h', r', s2⟩ := su.sqT
      obtain ⟨h1, h2⟩ := wp_ite w
      refine .inr (.inr (.inr ⟨a, c, vs, us, rfl, rfl, h, h', by rw [r.length, r'.length, sizeLine_eq]; exact h1, fun e => ?_, fun _ e => ?_, fun _ _ p n => ?_⟩))
      · subst e
        cases r
        exact q _ _ H Gs.refl s2 h2
      · subst e
        cases r'
        rw [List.append_nil] at h2
        exact q _ _ H Gs.refl s1 h2
      · exact q _ _ _ (Gs.new n) (.tup trivial upd_same ((r.append r').gw (Gw.new n))) h2
    | _ => exact w.elim
  | _ => exact w.elim
/-- an operation on two ints, with a condition -/
theorem OpD.int {C : Int → Int → Prop} {g : Int → Int → Int} {f : D → D → M D} (h : ∀ x y P, wp (f x y) P → ∃ i j, x = .int i ∧ y = .int j ∧ C i j ∧ P (.int (g i j))) : OpD K (rI C fun i j => .int (g i j)) f := by
  intro x y P w B W H v u b sv su Q q
  obtain ⟨i, j, rfl, rfl, c, p⟩ := h x y P w
  cases sv
  cases su
  exact ⟨i, j, rfl, rfl, c, q _ _ H Gs.refl (.int _) p⟩
/-- two ints -/
def D.int2 (x y : D) (k : Int → Int → M D) : M D := match x, y with
  | .int i, .int j => k i j
  | _, _ => .fail
theorem int2_at {x y : D} {k : Int → Int → M D} {P : D → Prop} (w : wp (D.int2 x y k) P) : ∃ i j, x = .int i ∧ y = .int j ∧ wp (k i j) P := by
  cases x with
  | int i =>
    cases y with
    | int j => exact ⟨i, j, rfl, rfl, w⟩
    | _ => exact w.elim
  | _ => exact w.elim
def D.sub (x y : D) : M D := D.int2 x y fun i j => .ret (.int (i - j))
def D.fdiv (x y : D) : M D := D.int2 x y fun i j => if 0 < j ∧ j.natAbs.log2 < 9000 then .ret (.int (i / j)) else .fail
theorem fdiv_d : OpD K (rI CDivW fun i j => .int (i / j)) D.fdiv := .int fun x y P w => by
  obtain ⟨i, j, h1, h2, w⟩ := int2_at w
  obtain ⟨h, w⟩ := wp_ite w
  exact ⟨i, j, h1, h2, h, w⟩
def D.mod (x y : D) : M D := D.int2 x y fun i j => if 0 < j then .ret (.int (i % j)) else .fail
theorem mod_d : OpD K (rI (fun _ j => 0 < j) fun i j => .int (i % j)) D.mod := .int fun x y P w => by
  obtain ⟨i, j, h1, h2, w⟩ := int2_at w
  obtain ⟨h, w⟩ := wp_ite w
  exact ⟨i, j, h1, h2, h, w⟩
/-- * -/
abbrev rMul (K : PySem.W.Frag) : R2 := rOr (rI CMulW fun i j => .int (i * j)) (rOr rMulS (rOr rRep (rRepA K)))
theorem op_mulX {X : Cx} (h : X.K = K) : OpR X (binaryOp .Mult) (rMul K) := by
  subst h
  exact opr_or op_mulW (opr_or op_mul_str (opr_or op_rep (op_repA rfl)))
def D.mul : D → D → M D
  | .int i, .int j => if i.natAbs.log2 + j.natAbs.log2 < 1000000 then .ret (.int (i * j)) else .fail
  | .str z, .int k => if 0 ≤ k ∧ k ≤ 5000 ∧ z.length ≤ 1000 then .ret (.str (Txt.mul z k)) else .fail
  | .lst xs, .int k => if 0 ≤ k ∧ k ≤ 100000 ∧ xs.length ≤ 100 then .ret (.lst (List.replicate k.toNat xs).flatten) else .fail
  | .tup xs, .int k => if (!xs.isEmpty) = true ∧ 0 ≤ k ∧ k ≤ 1000 ∧ xs.length ≤ 1000 then .ret (.tup (List.replicate k.toNat xs).flatten) else .fail
  | _, _ => .fail
theorem mul_d : OpD K (rMul K) D.mul := by
  intro x y P w B W H v u b sv su Q q
  cases y with
  | int k =>
    cases su
    cases x with
    | int i =>
      cases sv
      obtain ⟨h1, h2⟩ := wp_ite w
      exact .inl ⟨i, k, rfl, rfl, h1, q _ _ H Gs.refl (.int _) h2⟩
    | str z =>
      cases sv
      obtain ⟨h1, h2⟩ := wp_ite w
      exact .inr (.inl ⟨z, k, rfl, rfl, h1.1, h1.2.1, h1.2.2, q _ _ H Gs.refl (.str _) h2⟩)
    | lst xs =>
      obtain ⟨a, vs, rfl, _, h, r⟩ := sv
      obtain ⟨h1, h2⟩ := wp_ite w
      refine .inr (.inr (.inl ⟨a, k, vs, rfl, rfl, h, by omega, by omega, ?_, fun p n => q _ _ _ (Gs.new n) (.lst (b.notNew n) upd_same ((r.rep _).gw (Gw.new n))) h2⟩))
      rw [r.length, sizeLine_eq]
      have : xs.length * k.toNat ≤ 100 * 100000 := Nat.mul_le_mul h1.2.2 (by omega)
      omega
    | tup xs =>
      obtain ⟨a, vs, rfl, h, r, s1⟩ := sv.sqT
      obtain ⟨h1, h2⟩ := wp_ite w
      have hl := r.length
      refine .inr (.inr (.inr ⟨a, k, vs, rfl, rfl, h, fun z => ?_, h1.2.1, h1.2.2.1, by rw [hl]; exact h1.2.2.2, fun k1 => ?_, fun _ p n => q _ _ _ (Gs.new n) (.tup trivial upd_same ((r.rep _).gw (Gw.new n))) h2⟩))
      · subst z
        cases r
        cases h1.1
      · have e : (List.replicate k.toNat xs).flatten = xs := by
          rw [k1]
          show (List.replicate 1 xs).flatten = xs
          simp
        rw [e] at h2
        exact q _ _ H Gs.refl s1 h2
    | _ => exact w.elim
  | _ => cases x <;> exact w.elim
abbrev rStrB (f : Str → Str → Bool) : R2 := fun x y H Q => ∃ i j, x = .str i ∧ y = .str j ∧ Q (.bl (f i j)) H
def D.cmpM (f : Int → Int → Bool) (g : Str → Str → Bool) : D → D → M D
  | .int i, .int j => .ret (.bl (f i j))
  | .str i, .str j => .ret (.bl (g i j))
  | _, _ => .fail
theorem cmp_d {f : Int → Int → Bool} {g : Str → Str → Bool} : OpD K (rOr (rI0 fun i j => .bl (f i j)) (rStrB g)) (D.cmpM f g) := by
  intro x y P w B W H v u b sv su Q q
  cases x with
  | int i =>
    cases y with
    | int j =>
      cases sv
      cases su
      exact .inl ⟨i, j, rfl, rfl, q _ _ H Gs.refl (.bl _) w⟩
    | _ => exact w.elim
  | str i =>
    cases y with
    | str j =>
      cases sv
      cases su
      exact .inr ⟨i, j, rfl, rfl, q _ _ H Gs.refl (.bl _) w⟩
    | _ => exact w.elim
  | _ => exact w.elim
abbrev rLt : R2 := rOr (rI0 fun i j => .bl (decide (i < j))) (rStrB fun i j => decide (i.cps.toList < j.cps.toList))
abbrev rLe : R2 := rOr (rI0 fun i j => .bl (decide (i ≤ j))) (rStrB fun i j => !decide (j.cps.toList < i.cps.toList))
abbrev rGt : R2 := rOr (rI0 fun i j => .bl (decide (j < i))) (rStrB fun i j => decide (j.cps.toList < i.cps.toList))
theorem op_ltX {X : Cx} : OpR X (compareOp .Lt) rLt := opr_or op_lt op_lt_str
theorem op_leX {X : Cx} : OpR X (compareOp .LtE) rLe := opr_or op_le op_le_str
theorem op_gtX {X : Cx} : OpR X (compareOp .Gt) rGt := opr_or op_gt op_gt_str
abbrev D.lt : D → D → M D := D.cmpM (fun i j => decide (i < j)) fun i j => decide (i.cps.toList < j.cps.toList)
abbrev D.le : D → D → M D := D.cmpM (fun i j => decide (i ≤ j)) fun i j => !decide (j.cps.toList < i.cps.toList)
abbrev D.gt : D → D → M D := D.cmpM (fun i j => decide (j < i)) fun i j => decide (j.cps.toList < i.cps.toList)
theorem lt_d : OpD K rLt D.lt := cmp_d
theorem le_d : OpD K rLe D.le := cmp_d
theorem gt_d : OpD K rGt D.gt := cmp_d
/-- what == tells: of scalars, else of shaped data -/
def D.eqb (x y : D) : Option Bool :=
  match x, y with
  | .int i, .int j => some (decide (i = j))
  | .str i, .str j => some (decide (i = j))
  | .bl i, .bl j => some (decide (i = j))
  | .non, .non => some true
  | .non, .int _ => some false
  | .int _, .non => some false
  | .non, .bl _ => some false
  | .bl _, .non => some false
  | .non, .str _ => some false
  | .str _, .non => some false
  | .int _, .str _ => some false
  | .str _, .int _ => some false
  | .bl _, .str _ => some false
  | .str _, .bl _ => some false
  | .lst xs, .lst [] => some xs.isEmpty
  | x, y => if (x.pu && y.pu && (SeqAt.shaped x.py && SeqAt.shaped y.py)) = true then some (PyData.eqv x.py y.py) else none
def M.ofO : Option Bool → M D
  | some b => .ret (.bl b)
  | none => .fail
def M.ofOn : Option Bool → M D
  | some b => .ret (.bl (!b))
  | none => .fail
def D.eq (x y : D) : M D := M.ofO (x.eqb y)
def D.ne (x y : D) : M D := M.ofOn (x.eqb y)
theorem Sr.dp {B W : List Addr} {H : Hp} {v : V} {d : D} (s : Sr K B W H v d) (p : d.pu = true) : Dp K H v d.py := by
  cases d with
  | lst ds =>
    obtain ⟨a, xs, rfl, _, h, r⟩ := s
    unfold D.py
    exact .lst (SqL.of h) (SgA.dp r (by simpa [D.pu] using p))
  | dic ks ds => simp [D.pu] at p
  | dit ks ds => simp [D.pu] at p
  | din _ _ _ _ => simp [D.pu] at p
  | etup => simp [D.pu] at p
  | ins C ks ds => simp [D.pu] at p
  | non => exact Sg.dp s p
  | bl b => exact Sg.dp s p
  | int b => exact Sg.dp s p
  | str b => exact Sg.dp s p
  | ty b => exact Sg.dp s p
  | raw b => exact Sg.dp s p
  | tup b => exact Sg.dp s p
/-- what eqb says, by values -/
def eqCase (K : PySem.W.Frag) (v u : V) (H : Hp) (b : Bool) : Prop := (scal v u = true ∧ decide (v = u) = b) ∨ (∃ d e, Dp K H v d ∧ Dp K H u e ∧ SeqAt.shaped d = true ∧ SeqAt.shaped e = true ∧ PyData.eqv d e = b) ∨
  ∃ a c xs, v = .ref a ∧ u = .ref c ∧ H a = some (.lst xs) ∧ H c = some (.lst []) ∧ xs.isEmpty = b
theorem eqb_case {B W : List Addr} {H : Hp} {v u : V} {x y : D} {b : Bool} (e : x.eqb y = some b) (sv : Sr K B W H v x) (su : Sr K B W H u y) : eqCase K v u H b := by
  have gen : (if (x.pu && y.pu && (SeqAt.shaped x.py && SeqAt.shaped y.py)) = true then some (PyData.eqv x.py y.py) else none) = some b → eqCase K v u H b := fun e => by
    by_cases h : (x.pu && y.pu && (SeqAt.shaped x.py && SeqAt.shaped y.py)) = true
    · rw [if_pos h] at e
      simp only [Bool.and_eq_true] at h
      exact .inr (.inl ⟨_, _, sv.dp h.1.1, su.dp h.1.2, h.2.1, h.2.2, Option.some.inj e⟩)
    · rw [if_neg h] at e
      cases e
  unfold D.eqb at e
  split at e <;> first
    | (cases sv; cases su; cases e; exact .inl ⟨rfl, by simp⟩)
    | (obtain ⟨a, xs, rfl, _, h, r⟩ := sv
       obtain ⟨c, ys, rfl, _, h', r'⟩ := su
       cases r'
       cases e
       exact .inr (.inr ⟨a, c, xs, rfl, rfl, h, h', r.isEmpty⟩))
    | exact gen e
abbrev rEqX (K : PySem.W.Frag) : R2 := rOr rEq (rOr (rEqD K) rEqNil)
theorem op_eqX {X : Cx} (h : X.K = K) (hu : X.A.units + 64 < cLine) : OpR X (compareOp .Eq) (rEqX K) := by
  subst h
  exact opr_or op_eq (opr_or (op_eqD hu) (op_eqNil hu))
theorem eq_d : OpD K (rEqX K) D.eq := by
  intro x y P w B W H v u b sv su Q q
  unfold D.eq at w
  cases e : x.eqb y with
  | none =>
    rw [e] at w
    exact w.elim
  | some k =>
    rw [e] at w
    have q1 : Q (.bl k) H := q _ _ H Gs.refl (.bl _) w
    rcases eqb_case e sv su with ⟨h1, h2⟩ | ⟨d1, d2, h1, h2, h3, h4, h5⟩ | ⟨a, c, xs, h1, h2, h3, h4, h5⟩
    · exact .inl ⟨h1, by rw [h2]; exact q1⟩
    · exact .inr (.inl ⟨d1, d2, h1, h2, h3, h4, by rw [h5]; exact q1⟩)
    · exact .inr (.inr ⟨a, c, xs, h1, h2, h3, h4, by rw [h5]; exact q1⟩)
/-- list != [] -/
def rNeNil : R2 := fun x y H Q => ∃ a b xs, x = .ref a ∧ y = .ref b ∧ H a = some (.lst xs) ∧ H b = some (.lst []) ∧ Q (.bl (!xs.isEmpty)) H
theorem op_neNil {X : Cx} (hu : X.A.units + 64 < cLine) : OpR X (compareOp .NotEq) rNeNil := by
  intro pins s σ H x y v u Q I rx ry h
  obtain ⟨a, b, xs, rfl, rfl, h1, h2, q⟩ := h
  cases rx
  cases ry
  cases xs with
  | nil => exact op_neD hu pins s σ H (.ref a) (.ref b) _ _ Q I rfl rfl ⟨.list [], .list [], .lst (SqL.of h1) .nil, .lst (SqL.of h2) .nil, by decide +kernel, by decide +kernel, q⟩
  | cons x r =>
    obtain ⟨z, its, n, r1, hl, e⟩ := I.lstM h1
    obtain ⟨z2, its2, n2, r2, hl2, e2⟩ := I.lstM h2
    refine PySem.SeqAt.RcNeAt.lists_lengths ⟨_, e, rfl, _, rfl⟩ ⟨_, e2, rfl, _, rfl⟩ ?_ (by omega) X.prog X.w X.xe _ ⟨.bl true, H, I, rfl, q⟩
    rw [List.size_toArray, List.size_toArray, ← hl, ← hl2]
    simp
abbrev rNeX (K : PySem.W.Frag) : R2 := rOr rNe (rOr (rNeD K) rNeNil)
theorem op_neX {X : Cx} (h : X.K = K) (hu : X.A.units + 64 < cLine) : OpR X (compareOp .NotEq) (rNeX K) := by
  subst h
  exact opr_or op_ne (opr_or (op_neD hu) (op_neNil hu))
theorem ne_d : OpD K (rNeX K) D.ne := by
  intro x y P w B W H v u b sv su Q q
  unfold D.ne at w
  cases e : x.eqb y with
  | none =>
    rw [e] at w
    exact w.elim
  | some k =>
    rw [e] at w
    have q1 : Q (.bl (!k)) H := q _ _ H Gs.refl (.bl _) w
    rcases eqb_case e sv su with ⟨h1, h2⟩ | ⟨d1, d2, h1, h2, h3, h4, h5⟩ | ⟨a, c, xs, h1, h2, h3, h4, h5⟩
    · exact .inl ⟨h1, by rw [h2]; exact q1⟩
    · exact .inr (.inl ⟨d1, d2, h1, h2, h3, h4, by rw [h5]; exact q1⟩)
    · exact .inr (.inr ⟨a, c, xs, h1, h2, h3, h4, by rw [h5]; exact q1⟩)
/-- a sign in a text, data in a list of data -/
def D.inb (x y : D) : Option Bool := match y with
  | .str z => match x with
    | .str c => match c.cps.toList with
      | [c] => some (decide (c ∈ z.cps.toList))
      | _ => none
    | _ => none
  | .lst ds => if (x.pu && D.puA ds && (SeqAt.shaped x.py && SeqAt.shaped (D.lst ds).py)) = true then some ((D.pyA ds).any fun z => PyData.eqv z x.py) else none
  | _ => none
abbrev rInSg : R2 := fun x y H Q => ∃ (c : Nat) (z : Str), x = .str ⟨#[c]⟩ ∧ y = .str z ∧ Q (.bl (decide (c ∈ z.cps.toList))) H
abbrev rNinSg : R2 := fun x y H Q => ∃ (c : Nat) (z : Str), x = .str ⟨#[c]⟩ ∧ y = .str z ∧ Q (.bl (!decide (c ∈ z.cps.toList))) H
abbrev rInX (K : PySem.W.Frag) : R2 := rOr rInSg (rInD K)
abbrev rNinX (K : PySem.W.Frag) : R2 := rOr rNinSg (rNotInD K)
theorem op_inX {X : Cx} (h : X.K = K) (hu : X.A.units + 65 < cLine) : OpR X (compareOp .In) (rInX K) := by
  subst h
  exact opr_or op_in_sign (op_inD hu)
theorem op_ninX {X : Cx} (h : X.K = K) (hu : X.A.units + 65 < cLine) : OpR X (compareOp .NotIn) (rNinX K) := by
  subst h
  exact opr_or op_notIn_sign (op_notInD hu)
theorem inb_case {B W : List Addr} {H : Hp} {v u : V} {x y : D} {b : Bool} (e : x.inb y = some b) (sv : Sr K B W H v x) (su : Sr K B W H u y) : (∃ (c : Nat) (z : Str), v = .str ⟨#[c]⟩ ∧ u = .str z ∧ decide (c ∈ z.cps.toList) = b) ∨
    ∃ d ds, Dp K H v d ∧ Dp K H u (.list ds) ∧ SeqAt.shaped d = true ∧ SeqAt.shaped (.list ds) = true ∧ (ds.any fun z => PyData.eqv z d) = b := by
  cases y with
  | str z =>
    cases x with
    | str c =>
      have e : (match c.cps.toList with | [c] => some (decide (c ∈ z.cps.toList)) | _ => none) = some b := e
      split at e
      · rename_i c' ec
        cases sv
        cases su
        refine .inl ⟨c', z, ?_, rfl, Option.some.inj e⟩
        have : c = ⟨#[c']⟩ := by
          cases c
          congr 1
          exact Array.toList_inj.mp ec
        rw [this]
      · cases e
    | _ => cases e
  | lst ds =>
    have e : (if (x.pu && D.puA ds && (SeqAt.shaped x.py && SeqAt.shaped (D.lst ds).py)) = true then some ((D.pyA ds).any fun z => PyData.eqv z x.py) else none) = some b := e
    by_cases h : (x.pu && D.puA ds && (SeqAt.shaped x.py && SeqAt.shaped (D.lst ds).py)) = true
    · rw [if_pos h] at e
      simp only [Bool.and_eq_true] at h
      have z := su.dp (show (D.lst ds).pu = true from h.1.2)
      exact .inr ⟨x.py, D.pyA ds, sv.dp h.1.1, z, h.2.1, h.2.2, Option.some.inj e⟩
    · rw [if_neg h] at e
      cases e
  | _ => cases e
def D.inM (x y : D) : M D := M.ofO (x.inb y)
def D.ninM (x y : D) : M D := M.ofOn (x.inb y)
theorem in_d : OpD K (rInX K) D.inM := by
  intro x y P w B W H v u b sv su Q q
  unfold D.inM at w
  cases e : x.inb y with
  | none =>
    rw [e] at w
    exact w.elim
  | some k =>
    rw [e] at w
    have q1 : Q (.bl k) H := q _ _ H Gs.refl (.bl _) w
    rcases inb_case e sv su with ⟨c, z, h1, h2, h3⟩ | ⟨d1, d2, h1, h2, h3, h4, h5⟩
    · exact .inl ⟨c, z, h1, h2, by rw [h3]; exact q1⟩
    · exact .inr ⟨d1, d2, h1, h2, h3, h4, by rw [h5]; exact q1⟩
theorem nin_d : OpD K (rNinX K) D.ninM := by
  intro x y P w B W H v u b sv su Q q
  unfold D.ninM at w
  cases e : x.inb y with
  | none =>
    rw [e] at w
    exact w.elim
  | some k =>
    rw [e] at w
    have q1 : Q (.bl (!k)) H := q _ _ H Gs.refl (.bl _) w
    rcases inb_case e sv su with ⟨c, z, h1, h2, h3⟩ | ⟨d1, d2, h1, h2, h3, h4, h5⟩
    · exact .inl ⟨c, z, h1, h2, by rw [h3]; exact q1⟩
    · exact .inr ⟨d1, d2, h1, h2, h3, h4, by rw [h5]; exact q1⟩
abbrev rIx (K : PySem.W.Frag) : R2 := rOr (rIxL K) (rOr (rIxT K) rIxS)
theorem ixX {X : Cx} (h : X.K = K) : IxR X (rIx K) := by
  subst h
  exact ixr_or ix_list (ixr_or ix_tup ix_str)
def M.ofD : Option D → M D
  | some d => .ret d
  | none => .fail
def D.ix (x y : D) : M D := match x, y with
  | .lst ds, .int i => M.ofD (atI ds i)
  | .tup ds, .int i => M.ofD (atI ds i)
  | .str z, .int i => if z.length ≤ 16777216 then M.ofD ((atI z.cps.toList i).map fun c => .str ⟨#[c]⟩) else .fail
  | _, _ => .fail
theorem ofD_at {o : Option D} {P : D → Prop} (w : wp (M.ofD o) P) : ∃ d, o = some d ∧ P d := by
  cases o with
  | none => exact w.elim
  | some d => exact ⟨d, rfl, w⟩
theorem ix_d : OpD K (rIx K) D.ix := by
  intro x y P w B W H v u b sv su Q q
  cases y with
  | int i =>
    cases su
    cases x with
    | lst ds =>
      obtain ⟨a, xs, rfl, _, h, r⟩ := sv
      obtain ⟨d, e, p⟩ := ofD_at w
      obtain ⟨z, e1, s⟩ := r.atI e
      exact .inl ⟨a, xs, i, z, rfl, rfl, SqL.of h, e1, q _ _ H Gs.refl s p⟩
    | tup ds =>
      obtain ⟨a, xs, rfl, h, r, _⟩ := sv.sqT
      obtain ⟨d, e, p⟩ := ofD_at w
      obtain ⟨z, e1, s⟩ := r.atI e
      exact .inr (.inl ⟨a, xs, i, z, rfl, rfl, h, e1, q _ _ H Gs.refl s p⟩)
    | str z =>
      cases sv
      obtain ⟨h1, w⟩ := wp_ite w
      obtain ⟨d, e, p⟩ := ofD_at w
      cases ea : atI z.cps.toList i with
      | none =>
        rw [ea] at e
        cases e
      | some c =>
        rw [ea] at e
        cases e
        exact .inr (.inr ⟨z, i, c, rfl, rfl, by rw [sizeLine_eq]; exact h1, ea, q _ _ H Gs.refl (.str _) p⟩)
    | _ => exact w.elim
  | _ => cases x <;> exact w.elim
abbrev rSl (K : PySem.W.Frag) : V → Option Int → Option Int → Hp → VK → Prop := rOr3 (rSlL K) (rOr3 (rSlA K) rSlS)
theorem slX {X : Cx} (h : X.K = K) : SlR X (rSl K) := by
  subst h
  exact slr_or sl_list (slr_or sl_tupA sl_str)
def D.sl (x : D) (lo hi : Option Int) : M D := match x with
  | .lst ds => .ret (.lst (cutG ds lo hi))
  | .tup ds => .ret (.tup (cutG ds lo hi))
  | .str z => if z.length ≤ 16777216 then .ret (.str (cutS z lo hi)) else .fail
  | _ => .fail
theorem sl_d : SlD K (rSl K) D.sl := by
  intro x lo hi P w B W H v b sv Q q
  cases x with
  | lst ds =>
    obtain ⟨a, xs, rfl, _, h, r⟩ := sv
    exact .inl ⟨_, _, rfl, SqL.of h, fun a na => q _ _ _ (Gs.new na) (.lst (b.notNew na) upd_same ((r.cut lo hi).gw (Gw.new na))) w⟩
  | tup ds => exact .inr (.inl (SD.slA (P := P) w B W H v b sv Q q))
  | str z =>
    cases sv
    obtain ⟨h1, w⟩ := wp_ite w
    exact .inr (.inr ⟨z, rfl, by rw [sizeLine_eq]; exact h1, q _ _ H Gs.refl (.str _) w⟩)
  | _ => exact w.elim
def M.one (k : D → M D) : List D → M D
  | [x] => k x
  | _ => .fail
def M.two (k : D → D → M D) : List D → M D
  | [x, y] => k x y
  | _ => .fail
theorem one_at {k : D → M D} {ds : List D} {P : D → Prop} (w : wp (M.one k ds) P) : ∃ x, ds = [x] ∧ wp (k x) P := by
  match ds, w with
  | [x], w => exact ⟨x, rfl, w⟩
theorem two_at {k : D → D → M D} {ds : List D} {P : D → Prop} (w : wp (M.two k ds) P) : ∃ x y, ds = [x, y] ∧ wp (k x y) P := by
  match ds, w with
  | [x, y], w => exact ⟨x, y, rfl, w⟩
theorem CaD.one {r : List V → Hp → VK → Prop} {k : D → M D} (h : ∀ (x : D) (P : D → Prop), wp (k x) P → ∀ (B W : List Addr) (H : Hp) (v : V), BW B W H → Sr K B W H v x → ∀ Q : VK, (∀ z d H', Gs W H H' → Sg K B H' z d → P d → Q z H') → r [v] H Q) : CaD K r (M.one k) := by
  intro ds P w B W H vs b s Q q
  obtain ⟨x, rfl, w⟩ := one_at w
  cases s with
  | cons s1 s2 =>
    cases s2
    exact h x P w B W H _ b s1 Q q
theorem CaN.one {r : List V → Hp → VK → Prop} {k : D → M D} (h : ∀ (x : D) (P : D → Prop), wp (k x) P → ∀ (B W : List Addr) (H : Hp) (v : V), BW B W H → Sr K B W H v x → ∀ Q : VK, (∀ a d H', Gs W H H' → H a = none → OwAt K (a :: B) H' a d → P d → Q (.ref a) H') → r [v] H Q) : CaN K r (M.one k) := by
  intro ds P w B W H vs b s Q q
  obtain ⟨x, rfl, w⟩ := one_at w
  cases s with
  | cons s1 s2 =>
    cases s2
    exact h x P w B W H _ b s1 Q q
def D.len : D → M D
  | .lst ds => .ret (.int ds.length)
  | .tup ds => .ret (.int ds.length)
  | .str z => if z.length ≤ 16777216 then .ret (.int z.length) else .fail
  | _ => .fail
theorem len_c : CaD K (rLenK K) (M.one D.len) := .one fun x P w B W H v b s Q q => by
  cases x with
  | lst ds =>
    obtain ⟨a, xs, rfl, _, h, r⟩ := s
    refine ⟨_, _, rfl, Or.inl ⟨_, SqL.of h, rfl⟩, ?_⟩
    rw [r.length]
    exact q _ _ H Gs.refl (.int _) w
  | tup ds =>
    obtain ⟨a, xs, rfl, h, r, _⟩ := s.sqT
    refine ⟨_, _, rfl, Or.inr ⟨_, h, rfl⟩, ?_⟩
    rw [r.length]
    exact q _ _ H Gs.refl (.int _) w
  | str z =>
    cases s
    obtain ⟨h1, w⟩ := wp_ite w
    exact ⟨_, _, rfl, ⟨by rw [sizeLine_eq]; exact h1, rfl⟩, q _ _ H Gs.refl (.int _) w⟩
  | _ => exact w.elim
def D.abs : D → M D
  | .int i => .ret (.int (if i < 0 then -i else i))
  | _ => .fail
def D.toInt : D → M D
  | .int i => .ret (.int i)
  | .bl k => .ret (.int (if k then 1 else 0))
  | _ => .fail
theorem int_c : CaD K (fun xs H Q => (∃ i, xs = [.int i] ∧ Q (.int i) H) ∨ ∃ k, xs = [.bl k] ∧ Q (.int (if k then 1 else 0)) H) (M.one D.toInt) := .one fun x P w B W H v b s Q q => by
  cases x with
  | int i =>
    cases s
    exact .inl ⟨i, rfl, q _ _ H Gs.refl (.int _) w⟩
  | bl k =>
    cases s
    exact .inr ⟨k, rfl, q _ _ H Gs.refl (.int _) w⟩
  | _ => exact w.elim
/-- all truths -/
def D.bls : List D → Option (List Bool)
  | [] => some []
  | .bl b :: ds => (D.bls ds).map fun bs => b :: bs
  | _ :: _ => none
theorem bls_at : ∀ {ds : List D} {bs : List Bool}, D.bls ds = some bs → ds = bs.map D.bl
  | [], _, e => by cases e; rfl
  | .bl b :: ds, bs, e => by
    unfold D.bls at e
    cases h : D.bls ds with
    | none =>
      rw [h] at e
      cases e
    | some cs =>
      rw [h] at e
      cases e
      rw [bls_at h]
      rfl
theorem bls_map (bs : List Bool) : D.bls (bs.map D.bl) = some bs := by
  induction bs with
  | nil => rfl
  | cons b bs ih =>
    show (D.bls (bs.map D.bl)).map _ = _
    rw [ih]
    rfl
def D.all : D → M D
  | .lst ds => match D.bls ds with
    | some bs => .ret (.bl (bs.all id))
    | none => .fail
  | _ => .fail
def D.any : D → M D
  | .lst ds => match D.bls ds with
    | some bs => .ret (.bl (bs.any id))
    | none => .fail
  | _ => .fail
theorem all_c : CaD K (rAll K) (M.one D.all) := .one fun x P w B W H v b s Q q => by
  cases x with
  | lst ds =>
    obtain ⟨a, xs, rfl, _, h, r⟩ := s
    have w : wp (match D.bls ds with | some bs => .ret (.bl (bs.all id)) | none => .fail) P := w
    cases e : D.bls ds with
    | none =>
      rw [e] at w
      exact w.elim
    | some bs =>
      rw [e] at w
      rw [bls_at e] at r
      rw [r.bls] at h
      exact ⟨a, bs, rfl, SqL.of h, q _ _ H Gs.refl (.bl _) w⟩
  | _ => exact w.elim
def D.toTup : D → M D
  | .lst ds => .ret (.tup ds)
  | .tup ds => .ret (.tup ds)
  | _ => .fail
theorem tup_c : CaD K (rTupK K) (M.one D.toTup) := .one fun x P w B W H v b s Q q => by
  cases x with
  | lst ds =>
    obtain ⟨a, xs, rfl, _, h, r⟩ := s
    exact ⟨_, _, rfl, Or.inl ⟨SqL.of h, fun a na => q _ _ _ (Gs.new na) (.tup trivial upd_same (r.gw (Gw.new na))) w⟩⟩
  | tup ds =>
    obtain ⟨a, xs, rfl, h, r, s1⟩ := s.sqT
    exact ⟨_, _, rfl, Or.inr ⟨h, q _ _ H Gs.refl s1 w⟩⟩
  | _ => exact w.elim
def D.toLst : D → M D
  | .lst ds => .ret (.lst ds)
  | .tup ds => .ret (.lst ds)
  | _ => .fail
theorem lst_c : CaN K (rLstK K) (M.one D.toLst) := .one fun x P w B W H v b s Q q => by
  cases x with
  | lst ds =>
    obtain ⟨a, xs, rfl, _, h, r⟩ := s
    exact ⟨_, _, rfl, Or.inl (SqL.of h), fun a na => q a (.lst ds) _ (Gs.new na) na ⟨xs, upd_same, r.out na⟩ w⟩
  | tup ds =>
    obtain ⟨a, xs, rfl, h, r, s1⟩ := s.sqT
    exact ⟨_, _, rfl, Or.inr h, fun a na => q a (.lst ds) _ (Gs.new na) na ⟨xs, upd_same, r.out na⟩ w⟩
  | _ => exact w.elim
/-- repr of plain data of bounded size -/
def D.reprM (d : D) : M D := if (d.pl && d.py.showable && (decide (d.py.depth ≤ 60) && decide (d.py.shown.length ≤ 16777216))) = true then .ret (.str d.py.shown) else .fail
theorem Sr.dq {B W : List Addr} {H : Hp} {v : V} {d : D} (s : Sr K B W H v d) (p : d.pl = true) : Dq K H v d.py := by
  cases d with
  | lst ds =>
    obtain ⟨a, xs, rfl, _, h, r⟩ := s
    unfold D.py
    exact .lst (SqL.of h) (SgA.dq r (by simpa [D.pl] using p))
  | dic ks ds =>
    obtain ⟨a, xs, rfl, _, h, e, r⟩ := s
    unfold D.py
    exact .dic h e (SgA.dq r (by simpa [D.pl] using p))
  | dit ks ds => simp [D.pl] at p
  | din _ _ _ _ => simp [D.pl] at p
  | etup => simp [D.pl] at p
  | ins C ks ds => simp [D.pl] at p
  | non => exact Sg.dq s p
  | bl b => exact Sg.dq s p
  | int b => exact Sg.dq s p
  | str b => exact Sg.dq s p
  | ty b => exact Sg.dq s p
  | raw b => exact Sg.dq s p
  | tup b => exact Sg.dq s p
theorem repr_c : CaD K (rReprX K) (M.one D.reprM) := .one fun x P w B W H v b s Q q => by
  obtain ⟨h, w⟩ := wp_ite w
  simp only [Bool.and_eq_true, decide_eq_true_eq] at h
  exact ⟨_, _, rfl, s.dq h.1.1, h.1.2, h.2.1, by rw [sizeLine_eq]; exact h.2.2, q _ _ H Gs.refl (.str _) w⟩
/-- isinstance of data and a built-in type -/
theorem Sr.tyx {B W : List Addr} {H : Hp} {v : V} {d : D} {n : String} (s : Sr K B W H v d) (e : d.tyn = some n) : TyX K H v (.type n) := by
  cases d with
  | lst ds =>
    cases e
    obtain ⟨a, xs, rfl, _, h, r⟩ := s
    exact .base (.lst h)
  | dic ks ds =>
    cases e
    obtain ⟨a, xs, rfl, _, h, _, r⟩ := s
    rcases h with h | ⟨o, h⟩
    · exact .base (.dK h)
    · exact .fDict h
  | dit ks ds => cases e
  | din _ _ _ _ => cases e
  | ins C ks ds => cases e
  | non => exact Sg.tyx s e
  | bl b => exact Sg.tyx s e
  | int b => exact Sg.tyx s e
  | str b => exact Sg.tyx s e
  | ty b => exact Sg.tyx s e
  | raw b => exact Sg.tyx s e
  | tup b => exact Sg.tyx s e
  | etup => exact Sg.tyx s e
def D.isi (x y : D) : M D := match y with
  | .ty c => match x.tyn.bind fun n => kitB n c with
    | some b => .ret (.bl b)
    | none => .fail
  | _ => .fail
theorem CaD.two {r : List V → Hp → VK → Prop} {k : D → D → M D} (h : ∀ (x y : D) (P : D → Prop), wp (k x y) P → ∀ (B W : List Addr) (H : Hp) (v u : V), BW B W H → Sr K B W H v x → Sr K B W H u y → ∀ Q : VK, (∀ z d H', Gs W H H' → Sg K B H' z d → P d → Q z H') → r [v, u] H Q) : CaD K r (M.two k) := by
  intro ds P w B W H vs b s Q q
  obtain ⟨x, y, rfl, w⟩ := two_at w
  cases s with
  | cons s1 s2 =>
    cases s2 with
    | cons s2 s3 =>
      cases s3
      exact h x y P w B W H _ _ b s1 s2 Q q
theorem isi_c : CaD K (rIsi K) (M.two D.isi) := .two fun x y P w B W H v u b sv su Q q => by
  cases y with
  | ty c =>
    cases su
    have w : wp (match x.tyn.bind fun n => kitB n c with | some b => .ret (.bl b) | none => .fail) P := w
    cases e : x.tyn with
    | none =>
      rw [e] at w
      exact w.elim
    | some n =>
      rw [e] at w
      have w : wp (match kitB n c with | some b => .ret (.bl b) | none => .fail) P := w
      cases e2 : kitB n c with
      | none =>
        rw [e2] at w
        exact w.elim
      | some k =>
        rw [e2] at w
        exact ⟨_, _, _, _, k, rfl, .ty c, sv.tyx e, kit_ty e2, q _ _ H Gs.refl (.bl _) w⟩
  | _ => exact w.elim
end
end VB
namespace VB
open PySem PySem.Spec PyProof.Rows L2
def Bd (K : PySem.W.Frag) (H : Hp) : Prop := ∀ a xs, (SqL K H a xs ∨ SqT K H a xs) → xs.length ≤ 16777216
theorem bd_of {X : Cx} {pins : List (Addr × Obj)} {σ : L2.St} {H : Hp} {s : Shared} (I : Inv X pins σ H s) : Bd X.K H := fun a xs h => by
  rw [← sizeLine_eq]
  rcases h with h | h
  · obtain ⟨_, _, _, z⟩ := I.list h
    exact z
  · obtain ⟨_, _, _, z⟩ := I.tuple h
    exact z
/-- a list, a tuple, a text, walked -/
def iVal (K : PySem.W.Frag) (x : V) (H : Hp) (R : It → Hp → Prop) : Prop := (∃ a, x = .ref a ∧ (∃ xs, SqL K H a xs) ∧ R (Itl K a) H) ∨ (∃ a, x = .ref a ∧ (∃ xs, SqT K H a xs) ∧ R (Itt K a) H) ∨ ∃ z, x = .str z ∧ R (Its z) H
def iDat (K : PySem.W.Frag) (te : TE) : TI := fun σ H R => te σ H fun x H1 => Bd K H1 → iVal K x H1 R
theorem pi_dat {X : Cx} {K : PySem.W.Frag} {tg e : Expr} {te : TE} (hK : X.K = K) (he : PE X e te) : PI X tg e (iDat K te) := by
  subst hK
  refine ⟨fun pins s σ H R I h => thn (he.run pins s σ H _ I h) fun v s1 ⟨x, H1, I1, r1, q1⟩ => ?_⟩
  rcases q1 (bd_of I1) with ⟨a, rfl, ⟨xs, hq⟩, q⟩ | ⟨a, rfl, ⟨xs, hq⟩, q⟩ | ⟨z, rfl, q⟩
  · cases r1
    obtain ⟨its, rv, p, _⟩ := I1.list hq
    exact wpAny_pyIter_list p.isList (pi_one (tk := s1.toks) I1 _ (turn_list a _) ⟨_, Heap.get?_push_size _ rfl, rfl, rfl⟩ q)
  · cases r1
    obtain ⟨its, rv, p, _⟩ := I1.tuple hq
    exact wpAny_pyIter_tuple (show s1.heap.IsTuple a its.toArray from p) (pi_one (tk := s1.toks) I1 _ (turn_tuple a _) ⟨_, Heap.get?_push_size _ rfl, rfl, rfl⟩ q)
  · obtain ⟨t, rfl⟩ := r1
    cases ha : z.cps.all (· < 128)
    · exact wpAny_pyIter_wide ha (pi_one (tk := s1.toks) I1 _ (turn_str _ z t "str_iterator" (.inr rfl)) ⟨_, Heap.get?_push_size _ rfl, rfl, rfl⟩ q)
    · exact wpAny_pyIter_ascii ha (pi_one (tk := s1.toks) I1 _ (turn_str _ z t "str_ascii_iterator" (.inl rfl)) ⟨_, Heap.get?_push_size _ rfl, rfl, rfl⟩ q)
/-- any walk, with the bound -/
def iBd (K : PySem.W.Frag) (wi : TI) : TI := fun σ H R => wi σ H fun J H1 => Bd K H1 → R J H1
structure Kp (W : List Addr) (U : Addr → Prop) (H H' : Hp) : Prop where
  kp : ∀ a o, a ∉ W → ¬ U a → H a = some o → H' a = some o
  tups : ∀ a xs, H a = some (.tup xs) → H' a = some (.tup xs)
structure WalkD (K : PySem.W.Frag) (B W : List Addr) (U : Addr → Prop) (H1 : Hp) (J : It) (ds : List D) : Prop where
  len : ds.length ≤ 16777216
  goes : ∀ i H', i < ds.length → Kp W U H1 H' → J.go i H'
  stops : ∀ H', Kp W U H1 H' → J.stop ds.length H'
  yields : ∀ i H' x H'', i < ds.length → Kp W U H1 H' → J.yld i H' x H'' → Gs W H' H'' ∧ ∀ B' : List Addr, (∀ a ∈ B', H' a ≠ none) → (∀ v d, Sg K B H1 v d → Sg K B' H' v d) → ∃ d, ds[i]? = some d ∧ Sg K B' H'' x d
section
variable {K : PySem.W.Frag} {B W : List Addr} {U : Addr → Prop} {H1 : Hp} {a : Addr} {xs ys : List V} {ds es : List D}
theorem Gs.of_eq {H H' : Hp} (e : H' = H) : Gs W H H' := by
  rw [e]
  exact Gs.refl
theorem walkd_list (r : SgA K B H1 xs ds) (hk : ∀ H', Kp W U H1 H' → SqL K H' a xs) (hz : xs.length ≤ 16777216) : WalkD K B W U H1 (Itl K a) ds where
  len := by rw [← r.length]; exact hz
  goes := fun i H' hi k => walk_list.goes i H' (by rw [r.length]; exact hi) (hk H' k)
  stops := fun H' k => by
    have z := walk_list.stops H' (hk H' k)
    rw [r.length] at z
    exact z
  yields := fun i H' x H'' hi k y => by
    obtain ⟨e, hx⟩ := walk_list.yields i H' x H'' (by rw [r.length]; exact hi) (hk H' k) y
    obtain ⟨d, hd, s⟩ := r.getV hx
    exact ⟨Gs.of_eq e, fun B' _ t => ⟨d, hd, by rw [e]; exact t _ _ s⟩⟩
theorem walkd_tup (r : SgA K B H1 xs ds) (hk : ∀ H', Kp W U H1 H' → SqT K H' a xs) (hz : xs.length ≤ 16777216) : WalkD K B W U H1 (Itt K a) ds where
  len := by rw [← r.length]; exact hz
  goes := fun i H' hi k => walk_tup.goes i H' (by rw [r.length]; exact hi) (hk H' k)
  stops := fun H' k => by
    have z := walk_tup.stops H' (hk H' k)
    rw [r.length] at z
    exact z
  yields := fun i H' x H'' hi k y => by
    obtain ⟨e, hx⟩ := walk_tup.yields i H' x H'' (by rw [r.length]; exact hi) (hk H' k) y
    obtain ⟨d, hd, s⟩ := r.getV hx
    exact ⟨Gs.of_eq e, fun B' _ t => ⟨d, hd, by rw [e]; exact t _ _ s⟩⟩
def D.signs (z : Str) : List D := z.cps.toList.map fun c => .str ⟨#[c]⟩
theorem walkd_str {z : Str} (hz : z.length ≤ 16777216) : WalkD K B W U H1 (Its z) (D.signs z) where
  len := by unfold D.signs; rw [List.length_map, len_cps]; exact hz
  goes := fun i H' hi k => walk_str.goes i H' (by unfold D.signs at hi; simpa using hi) trivial
  stops := fun H' k => by
    have z1 := (walk_str (z := z)).stops H' trivial
    have e : (D.signs z).length = z.cps.size := by unfold D.signs; simp
    rw [e]
    exact z1
  yields := fun i H' x H'' hi k y => by
    obtain ⟨e, c, hc, rfl⟩ := walk_str.yields i H' x H'' (by unfold D.signs at hi; simpa using hi) trivial y
    refine ⟨Gs.of_eq e, fun B' _ t => ⟨.str ⟨#[c]⟩, ?_, .str _⟩⟩
    unfold D.signs
    rw [List.getElem?_map, Array.getElem?_toList, hc]
    rfl
def D.ints (lo : Int) (n : Nat) : List D := (List.range n).map fun i => .int (lo + (i : Nat))
theorem ints_len {lo : Int} {n : Nat} : (D.ints lo n).length = n := by
  unfold D.ints
  rw [List.length_map, List.length_range]
theorem walkd_range {lo : Int} {n : Nat} (hz : n ≤ 16777216) : WalkD K B W U H1 (Itr lo n) (D.ints lo n) where
  len := by rw [ints_len]; exact hz
  goes := fun i H' hi k => by
    rw [ints_len] at hi
    exact hi
  stops := fun H' k => by
    rw [ints_len]
    exact Nat.le_refl n
  yields := fun i H' x H'' hi k y => by
    rw [ints_len] at hi
    obtain ⟨e, rfl⟩ := y
    refine ⟨Gs.of_eq e, fun B' _ t => ⟨.int (lo + (i : Nat)), ?_, .int _⟩⟩
    unfold D.ints
    rw [List.getElem?_map, List.getElem?_range hi]
    rfl
/-- a new pair at each turn -/
theorem sg_pair {B' : List Addr} {H' : Hp} {T : Addr} {x y : V} {d e : D} (n : H' T = none) (kn : ∀ a ∈ B', H' a ≠ none) (s1 : Sg K B' H' x d) (s2 : Sg K B' H' y e) : Sg K B' (upd H' T (.tup [x, y])) (.ref T) (.tup [d, e]) :=
  .tup trivial upd_same (.cons (s1.gw (Gw.new n)) (.cons (s2.gw (Gw.new n)) .nil))
def D.zip (ds es : List D) : List D := ds.zipWith (fun d e => .tup [d, e]) es
theorem walkd_zip {b : Addr} (r : SgA K B H1 xs ds) (r2 : SgA K B H1 ys es) (hk : ∀ H', Kp W U H1 H' → SqL K H' a xs) (hk2 : ∀ H', Kp W U H1 H' → SqL K H' b ys) (hz : xs.length ≤ 16777216) : WalkD K B W U H1 (Itz K a b) (D.zip ds es) := by
  have hl : (D.zip ds es).length = min xs.length ys.length := by
    unfold D.zip
    rw [List.length_zipWith, r.length, r2.length]
  refine ⟨by rw [hl]; omega, fun i H' hi k => ?_, fun H' k => ?_, fun i H' x H'' hi k y => ?_⟩
  · exact (walk_zip hl).goes i H' hi ⟨hk H' k, hk2 H' k⟩
  · exact (walk_zip hl).stops H' ⟨hk H' k, hk2 H' k⟩
  · obtain ⟨T, x1, y1, rfl, hT, rfl, e1, e2⟩ := (walk_zip hl).yields i H' x H'' hi ⟨hk H' k, hk2 H' k⟩ y
    obtain ⟨d, hd, s⟩ := r.getV e1
    obtain ⟨e, he, s2⟩ := r2.getV e2
    refine ⟨Gs.new hT, fun B' kn t => ⟨.tup [d, e], ?_, sg_pair hT kn (t _ _ s) (t _ _ s2)⟩⟩
    unfold D.zip
    rw [List.getElem?_zipWith, hd, he]
end
/-- what is walked: lp = a for, whose body may change the frame's own objects -/
def EI (K : PySem.W.Frag) (lp : Bool) (wi : TI) (ρ : List En) (P : List D → Prop) : Prop := ∀ (B W : List Addr) (H : Hp) (σ : L2.St), EnvOk K B W H σ ρ → ∀ R : It → Hp → Prop,
  (∀ J ds H1, Gs W H H1 → WalkD K B W (fun a => lp = true ∧ Own σ ρ a) H1 J ds → P ds → R J H1) → wi σ H R
def RI (K : PySem.W.Frag) (lp : Bool) (wi : TI) (ρ : List En) (m : M (List D)) : Prop := ∀ P, wp m P → EI K lp wi ρ P
def D.items : D → M (List D)
  | .lst ds => .ret ds
  | .tup ds => .ret ds
  | .str z => if z.length ≤ 16777216 then .ret (D.signs z) else .fail
  | .etup => .ret []
  | _ => .fail
section
variable {K : PySem.W.Frag} {ρ : List En} {te : TE} {ta : TA} {m : M D} {mA : MA} {lp : Bool} {P : List D → Prop}
theorem iVal_of {B W : List Addr} {H : Hp} {v : V} {d : D} {U : Addr → Prop} {R : It → Hp → Prop} (bd : Bd K H) (w : wp d.items P) (s : Sr K B W H v d) (nU : ∀ a, v = .ref a → d.isRoot = true → ¬ U a) (q : ∀ J ds, WalkD K B W U H J ds → P ds → R J H) : iVal K v H R := by
  cases d with
  | lst ds =>
    obtain ⟨a, xs, rfl, aW, h, r⟩ := s
    exact .inl ⟨a, rfl, ⟨xs, SqL.of h⟩, q _ _ (walkd_list r (fun H' k => SqL.of (k.kp a _ aW (nU a rfl rfl) h)) (bd a xs (.inl (SqL.of h)))) w⟩
  | tup ds =>
    cases (show Sg K B H v (.tup ds) from s) with
    | @tup a xs _ nB h r =>
      exact .inr (.inl ⟨a, rfl, ⟨xs, Or.inl (Rd.of h)⟩, q _ _ (walkd_tup r (fun H' k => Or.inl (Rd.of (k.tups a _ h))) (bd a xs (.inr (Or.inl (Rd.of h))))) w⟩)
  | etup =>
    cases (show Sg K B H v .etup from s) with
    | @etup a h => exact .inr (.inl ⟨a, rfl, ⟨[], h H⟩, q _ _ (walkd_tup .nil (fun H' _ => h H') (bd a [] (.inr (h H)))) w⟩)
  | str z =>
    cases (show Sg K B H v (.str z) from s)
    obtain ⟨h1, w⟩ := wp_ite w
    exact .inr (.inr ⟨z, rfl, q _ _ (walkd_str h1) w⟩)
  | _ => exact w.elim
theorem RI.dat (h : RE K te ρ m) : RI K lp (iDat K te) ρ (m.bind D.items) := fun P w B W H σ e R q => h _ (wp_bind.mp w) B W H σ e _ fun v d H1 g s w1 bd => by
  have e1 := e.gs g
  refine iVal_of bd w1 (s.sr e.bw.sub) (fun a ea hr u => ?_) fun J ds wk p => q J ds H1 g wk p
  subst ea
  have o := (e1.ownB u.2).1
  cases s with
  | lst n _ _ => exact n o
  | dic n _ _ _ => exact n o
  | dit n _ _ _ => exact n o
  | din n _ _ _ _ => exact n o
  | ins n _ _ _ => exact n o
  | _ => cases hr
theorem RI.rd (h : RR K te ρ m) : RI K false (iDat K te) ρ (m.bind D.items) := fun P w B W H σ e R q => h _ (wp_bind.mp w) B W H σ e _ fun v d H1 g s w1 bd =>
  iVal_of bd w1 s (fun a _ _ u => nomatch u.1) fun J ds wk p => q J ds H1 g wk p
/-- a for over an argument that is only read -/
theorem RI.bor {i : Nat} {d : D} (h : ρ[i]? = some (.bor d)) : RI K lp (iDat K (tVar i)) ρ (D.items d) := fun P w B W H σ e R q => by
  obtain ⟨v, e1, s⟩ := e.sl i _ h
  refine ⟨v, e1, fun bd => iVal_of bd w s (fun a ea hr u => e.sep a u.2 ⟨i, d, h, hr, ea ▸ e1⟩) fun J ds wk p => q J ds H Gs.refl wk p⟩
/-- ranges -/
def D.rng1 : List D → M (List D)
  | [.int n] => if -4611686018427387904 ≤ n ∧ n ≤ 16777216 then .ret (D.ints 0 n.toNat) else .fail
  | _ => .fail
theorem RI.rng1 (h : RAr K ta ρ mA) : RI K lp (iRng1 ta) ρ (mA _ D.rng1) := fun P w B W H σ e R q => h _ _ _ w B W H σ e _ fun vs ds H1 g s w1 => by
  match ds, s, w1 with
  | [.int n], .cons s1 .nil, w1 =>
    cases s1
    obtain ⟨h1, w2⟩ := wp_ite w1
    exact ⟨n, rfl, by omega, by omega, q _ _ H1 g (walkd_range (by omega)) w2⟩
end
mutual
inductive Pt where
  | nm (j : Nat) | tp (ps : Pts)
inductive Pts where
  | nil | cons (p : Pt) (ps : Pts)
end
def Pts.len : Pts → Nat
  | .nil => 0
  | .cons _ ps => ps.len + 1
mutual
def Pt.g (K : PySem.W.Frag) : Pt → TG
  | .nm j => gName j
  | .tp ps => gTup K ps.len (ps.gs K)
def Pts.gs (K : PySem.W.Frag) : Pts → TGs
  | .nil => gNil
  | .cons p ps => gCons (p.g K) (ps.gs K)
end
mutual
def Pt.bd : Pt → D → List En → Option (List En)
  | .nm j, d, ρ => some (ρ.set j (.dat d))
  | .tp ps, .tup ds, ρ => ps.bd ds ρ
  | .tp _, _, _ => none
def Pts.bd : Pts → List D → List En → Option (List En)
  | .nil, [], ρ => some ρ
  | .cons p ps, d :: ds, ρ => (p.bd d ρ).bind fun ρ' => ps.bd ds ρ'
  | _, _, _ => none
end
mutual
def Pt.sl : Pt → List Nat
  | .nm j => [j]
  | .tp ps => ps.sl
def Pts.sl : Pts → List Nat
  | .nil => []
  | .cons p ps => p.sl ++ ps.sl
end
theorem wipe_get {σ : L2.St} : ∀ (js : List Nat) (i : Nat), (wipe σ js)[i]? = if i ∈ js then (if i < σ.length then some none else none) else σ[i]?
  | [], i => by simp [wipe]
  | j :: js, i => by
    unfold wipe
    rw [List.getElem?_set, wipe_length, wipe_get js i]
    by_cases h : j = i
    · subst h
      simp
    · have h2 : ¬ i = j := fun z => h z.symm
      simp [h, h2]
theorem wipe_set {σ : L2.St} {j : Nat} {o : Option V} {js : List Nat} (m : j ∈ js) : wipe (σ.set j o) js = wipe σ js := by
  apply List.ext_getElem?
  intro i
  rw [wipe_get, wipe_get, List.length_set]
  by_cases h : i ∈ js
  · rw [if_pos h, if_pos h]
  · rw [if_neg h, if_neg h, List.getElem?_set_ne fun z => h (by rw [← z]; exact m)]
/-- what is known behind a target -/
structure PtAft (K : PySem.W.Frag) (B W : List Addr) (H : Hp) (σ σ' : L2.St) (ρ ρ' : List En) (sl : List Nat) : Prop where
  en : EnvOk K B W H σ' ρ'
  wi : ∀ js : List Nat, (∀ j ∈ sl, j ∈ js) → wipe σ' js = wipe σ js
  ow : ∀ a, Own σ' ρ' a → Own σ ρ a
section
variable {K : PySem.W.Frag} {B W : List Addr} {H : Hp}
theorem PtAft.trans {σ σ1 σ2 : L2.St} {ρ ρ1 ρ2 : List En} {s1 s2 : List Nat} (a : PtAft K B W H σ σ1 ρ ρ1 s1) (b : PtAft K B W H σ1 σ2 ρ1 ρ2 s2) : PtAft K B W H σ σ2 ρ ρ2 (s1 ++ s2) :=
  ⟨b.en, fun js h => (b.wi js fun j m => h j (List.mem_append_right _ m)).trans (a.wi js fun j m => h j (List.mem_append_left _ m)), fun x o => a.ow x (b.ow x o)⟩
mutual
theorem Pt.ok : ∀ (p : Pt) {v : V} {d : D} {σ : L2.St} {ρ ρ' : List En} {Q : L2.St → Hp → Prop}, EnvOk K B W H σ ρ → Sg K B H v d → p.bd d ρ = some ρ' → (∀ σ', PtAft K B W H σ σ' ρ ρ' p.sl → Q σ' H) → p.g K v σ H Q
  | .nm j, v, d, σ, ρ, ρ', Q, e, s, h, q => by
    cases h
    exact q _ ⟨e.set s, fun js hj => wipe_set (hj j (List.mem_singleton_self _)), fun a o => o.set rfl⟩
  | .tp ps, v, .tup ds, σ, ρ, ρ', Q, e, s, h, q => by
    have go : ∀ {a : Addr} {xs : List V}, SqT K H a xs → SgA K B H xs ds → (Pt.tp ps).g K (.ref a) σ H Q := fun {a xs} hT r => ⟨a, xs, rfl, hT, by rw [r.length]; exact Pts.blen ps h, Pts.ok ps e r h q⟩
    cases s with
    | tup n h r => exact go (Or.inl (Rd.of h)) r
theorem Pts.ok : ∀ (ps : Pts) {xs : List V} {ds : List D} {σ : L2.St} {ρ ρ' : List En} {Q : L2.St → Hp → Prop}, EnvOk K B W H σ ρ → SgA K B H xs ds → ps.bd ds ρ = some ρ' → (∀ σ', PtAft K B W H σ σ' ρ ρ' ps.sl → Q σ' H) → ps.gs K xs σ H Q
  | .nil, xs, [], σ, ρ, ρ', Q, e, r, h, q => by
    cases h
    cases r
    exact ⟨rfl, q _ ⟨e, fun _ _ => rfl, fun _ o => o⟩⟩
  | .cons p ps, xs, d :: ds, σ, ρ, ρ', Q, e, r, h, q => by
    cases r with
    | cons s r =>
      have h : ((p.bd d ρ).bind fun ρ' => ps.bd ds ρ') = some ρ' := h
      cases h1 : p.bd d ρ with
      | none =>
        rw [h1] at h
        cases h
      | some ρ1 =>
        rw [h1] at h
        exact ⟨_, _, rfl, Pt.ok p e s h1 fun σ1 a1 => Pts.ok ps a1.en r h fun σ2 a2 => q σ2 (a1.trans a2)⟩
theorem Pts.blen : ∀ (ps : Pts) {ds : List D} {ρ ρ' : List En}, ps.bd ds ρ = some ρ' → ds.length = ps.len
  | .nil, [], _, _, _ => rfl
  | .nil, _ :: _, _, _, h => by cases h
  | .cons p ps, [], _, _, h => by cases h
  | .cons p ps, d :: ds, ρ, ρ', h => by
    have h : ((p.bd d ρ).bind fun ρ' => ps.bd ds ρ') = some ρ' := h
    cases h1 : p.bd d ρ with
    | none =>
      rw [h1] at h
      cases h
    | some ρ1 =>
      rw [h1] at h
      show ds.length + 1 = ps.len + 1
      rw [Pts.blen ps h]
end
end
/-- a tuple of two, of three -/
def D.un2 {α : Type} (x : D) (k : D → D → M α) : M α := match x with
  | .tup [a, b] => k a b
  | _ => .fail
section
variable {α : Type} {P : α → Prop} {x : D}
theorem un2_at {k : D → D → M α} (w : wp (D.un2 x k) P) : ∃ a b, x = .tup [a, b] ∧ wp (k a b) P := by
  unfold D.un2 at w
  split at w
  · exact ⟨_, _, rfl, w⟩
  · exact w.elim
end
abbrev Pt.two (i j : Nat) : Pt := .tp (.cons (.nm i) (.cons (.nm j) .nil))
/-- what is bound by a target: by the data x, k tells what goes on -/
def PB (p : Pt) (ρ : List En) {α : Type} (k : D → M α) (C : (α → Prop) → List En → Prop) : Prop := ∀ x P, wp (k x) P → ∃ ρ', p.bd x ρ = some ρ' ∧ C P ρ'
section
variable {ρ : List En} {α : Type} {C : (α → Prop) → List En → Prop}
theorem PB.nm {j : Nat} {k : D → M α} (h : ∀ x P, wp (k x) P → C P (ρ.set j (.dat x))) : PB (.nm j) ρ k C := fun x P w => ⟨_, rfl, h x P w⟩
theorem PB.two {i j : Nat} {k : D → D → M α} (h : ∀ a b P, wp (k a b) P → C P ((ρ.set i (.dat a)).set j (.dat b))) : PB (Pt.two i j) ρ (fun x => D.un2 x k) C := fun x P w => by
  obtain ⟨a, b, rfl, w⟩ := un2_at w
  exact ⟨_, rfl, h a b P w⟩
end
def M.cm (k : D → M (Option D)) : List D → M (List D)
  | [] => .ret []
  | x :: xs => (k x).bind fun o => (M.cm k xs).bind fun r => .ret (match o with | some y => y :: r | none => r)
/-- without a test -/
def M.map (k : D → M D) : List D → M (List D)
  | [] => .ret []
  | x :: xs => (k x).bind fun y => (M.map k xs).bind fun r => .ret (y :: r)
theorem cm_map {k : D → M D} : ∀ xs, M.cm (fun x => (k x).bind fun y => .ret (some y)) xs = M.map k xs
  | [] => rfl
  | x :: xs => by
    unfold M.cm M.map
    rw [M.assoc, cm_map xs]
    rfl
def clrL (ρ : List En) : List Nat → List En
  | [] => ρ
  | j :: js => (clrL ρ js).set j .no
theorem EnvOk.clrs {K : PySem.W.Frag} {B W : List Addr} {H : Hp} {σ : L2.St} {ρ : List En} (h : EnvOk K B W H σ ρ) : ∀ js, EnvOk K B W H (wipe σ js) (clrL ρ js) ∧ (∀ a, Own (wipe σ js) (clrL ρ js) a → Own σ ρ a) ∧ ∀ a, Bor (wipe σ js) (clrL ρ js) a → Bor σ ρ a
  | [] => ⟨h, fun _ o => o, fun _ o => o⟩
  | j :: js => by
    obtain ⟨a, b, c⟩ := h.clrs js
    exact ⟨EnvOk.clr (i := j) a, fun x o => b x (Own.set (i := j) (o := none) (e := .no) o rfl), fun x o => c x (Bor.set (i := j) (o := none) (e := .no) o rfl)⟩
/-- one turn of a comprehension's block -/
def CT (K : PySem.W.Frag) (tt : TT) (te : TE) (P : Option D → Prop) (ρ : List En) : Prop := ET K tt ρ fun b => if b = true then EV K te ρ fun y => P (some y) else P none
section
variable {K : PySem.W.Frag} {ρ : List En} {te : TE} {tt : TT} {p : Pt} {js : List Nat} {wi : TI} {mi : M (List D)}
theorem CT.plain {m : M D} (h : RE K te ρ m) {P : Option D → Prop} (w : wp (m.bind fun y => .ret (some y)) P) : CT K tYes te P ρ := ET.yes (by
  rw [if_pos rfl]
  exact h _ (wp_bind.mp w))
theorem CT.test {mt : M Bool} {m : M D} (ht : RT K tt ρ mt) (h : RE K te ρ m) {P : Option D → Prop} (w : wp (mt.bind fun b => if b = true then m.bind fun y => .ret (some y) else .ret none) P) : CT K tt te P ρ := ET.imp (ht _ (wp_bind.mp w)) fun b w1 => by
  cases b with
  | true =>
    rw [if_pos rfl] at w1 ⊢
    exact h _ (wp_bind.mp w1)
  | false =>
    rw [if_neg Bool.false_ne_true] at w1 ⊢
    exact w1
/-- the state between two turns -/
def CS (K : PySem.W.Frag) (B W : List Addr) (H1 : Hp) (Dl : Addr) (σ : L2.St) (ρ : List En) (k : D → M (Option D)) (ds : List D) (P : List D → Prop) (i : Nat) (H : Hp) : Prop :=
  ∃ (acc : List V) (es : List D), H Dl = some (.lst acc) ∧ SgA K (Dl :: B) H acc es ∧ es.length ≤ i ∧ wp (M.cm k (ds.drop i)) (fun r => P (es ++ r)) ∧ EnvOk K (Dl :: B) W H σ ρ ∧ Gs W H1 H
theorem RN.lc {k : D → M (Option D)} (hi : RI K false wi ρ mi) (hs : ∀ j ∈ p.sl, j ∈ js) (hk : PB p (clrL ρ js) k (CT K tt te)) : RN K (tLc wi (p.g K) tt te js) ρ (mi.bind fun ds => (M.cm k ds).bind fun es => .ret (.lst es)) := fun P w B W H σ e Q q =>
  hi _ (wp_bind.mp w) B W H σ e _ fun J ds H1 g1 wk w1 Dl nD => by
    have e1 := e.gs g1
    have dB : Dl ∉ B := e1.bw.notNew nD
    have dW : Dl ∉ W := fun m => dB (e1.bw.sub _ m)
    obtain ⟨e2, o2, b2⟩ := e1.clrs js
    have kp : ∀ {H' : Hp}, Gs W H1 H' → Kp W (fun a => false = true ∧ Own σ ρ a) H1 H' := fun g => ⟨fun a o nW _ h => g.gw.keep a o nW h, g.gw.tups⟩
    have nO : ¬ Own (wipe σ js) (clrL ρ js) Dl := fun o => (e1.ownB (o2 _ o)).2.2 nD
    have nB : ¬ Bor (wipe σ js) (clrL ρ js) Dl := fun o => e1.borK (b2 _ o) nD
    refine ⟨fun i m H' => m = ds.length - i ∧ i ≤ ds.length ∧ CS K B W H1 Dl (wipe σ js) (clrL ρ js) k ds (fun es => P (.lst es)) i H', ⟨ds.length, by simp, Nat.zero_le _, [], [], upd_same, .nil, Nat.le_refl _, wp_bind.mp w1, e2.out nD, Gs.new nD⟩, ?_⟩
    rintro i m H2 ⟨rfl, hle, acc, es, hD, sa, hl, w2, en, g⟩
    by_cases hlt : i < ds.length
    · refine .inr ⟨wk.goes i H2 hlt (kp g), fun H' => i + 1 ≤ ds.length ∧ CS K B W H1 Dl (wipe σ js) (clrL ρ js) k ds (fun es => P (.lst es)) (i + 1) H', fun H' z => ⟨ds.length - (i + 1), by omega, rfl, z⟩, fun x H3 hy => ?_⟩
      obtain ⟨g3, hy⟩ := wk.yields i H2 x H3 hlt (kp g) hy
      obtain ⟨d, hd, s⟩ := hy (Dl :: B) (fun a m => en.bw.kn a m) fun v d s => by
        refine (s.out (u := .lst acc) nD).gw ⟨fun b o nb eb => ?_, fun b eb => ?_, fun b xs eb => ?_⟩
        · have hb : b ≠ Dl := fun q => nb (q ▸ List.mem_cons_self ..)
          rw [upd_ne hb] at eb
          exact g.gw.keep b o (fun m => nb (List.mem_cons_of_mem _ (e1.bw.sub _ m))) eb
        · have hb : b ≠ Dl := fun q => by
            rw [q, hD] at eb
            cases eb
          rw [upd_ne hb]
          exact g.gw.free b eb
        · have hb : b ≠ Dl := fun q => by
            rw [q, upd_same] at eb
            cases eb
          rw [upd_ne hb] at eb
          exact g.gw.tups b xs eb
      rw [List.drop_eq_getElem_cons hlt, show ds[i] = d from Option.some.inj (by rw [← hd, List.getElem?_eq_getElem hlt])] at w2
      have w3 := wp_bind.mp (show wp ((k d).bind fun o => (M.cm k (ds.drop (i + 1))).bind fun r => .ret (match o with | some y => y :: r | none => r)) (fun r => P (.lst (es ++ r))) from w2)
      obtain ⟨ρ', hb, hC⟩ := hk d _ w3
      have en3 := en.gs g3
      refine Pt.ok p en3 s hb fun σ4 a4 => ⟨a4.wi js hs |>.trans ?_, hC (Dl :: B) W H3 σ4 a4.en _ fun b H5 g5 c5 => ?_⟩
      · apply List.ext_getElem?
        intro z
        rw [wipe_get, wipe_get, wipe_length]
        by_cases hz : z ∈ js
        · simp only [if_pos hz]
        · simp only [if_neg hz]
      · cases b with
        | true =>
          rw [if_pos rfl] at c5 ⊢
          refine c5 (Dl :: B) W H5 σ4 (a4.en.gs g5) _ fun y dy H6 g6 s6 w6 => ?_
          have g36 := (g3.trans g5).trans g6
          have hD6 : H6 Dl = some (.lst acc) := g36.gw.keep _ _ dW hD
          have en6 := en.gs g36
          refine ⟨acc, hD6, ?_, by omega, acc ++ [y], es ++ [dy], upd_same, ?_, ?_, ?_, en6.wr ⟨_, hD6, fun _ z => nomatch z⟩ (List.mem_cons_self ..) dW nO nB, (g.trans g36).mut nD⟩
          · rw [sa.length, sizeLine_eq]
            have := wk.len
            omega
          · exact ((sa.gw (en.bw.gw g36)).append (.cons s6 .nil)).gw (Gw.wr (List.mem_cons_self ..) ⟨_, hD6, fun _ z => nomatch z⟩)
          · rw [List.length_append, List.length_singleton]
            omega
          · refine wp_mono (wp_bind.mp w6) fun r z => ?_
            rw [List.append_assoc]
            exact z
        | false =>
          rw [if_neg Bool.false_ne_true] at c5 ⊢
          have g35 := g3.trans g5
          exact ⟨by omega, acc, es, g35.gw.keep _ _ dW hD, sa.gw (en.bw.gw g35), Nat.le_succ_of_le hl, wp_mono (wp_bind.mp c5) fun r z => z, en.gs g35, g.trans g35⟩
    · have hi2 : i = ds.length := by omega
      subst hi2
      refine .inl ⟨wk.stops H2 (kp g), q Dl (.lst es) H2 (g1.trans g) (g1.gw.free _ nD) ⟨acc, hD, sa⟩ ?_⟩
      rw [List.drop_length] at w2
      have w2 : P (.lst (es ++ [])) := w2
      rwa [List.append_nil] at w2
/-- one turn without a test -/
def CTp (K : PySem.W.Frag) (te : TE) (P : D → Prop) (ρ : List En) : Prop := EV K te ρ P
theorem RN.map {k : D → M D} (hi : RI K false wi ρ mi) (hs : ∀ j ∈ p.sl, j ∈ js) (hk : PB p (clrL ρ js) k (CTp K te)) : RN K (tLc wi (p.g K) tYes te js) ρ (mi.bind fun ds => (M.map k ds).bind fun es => .ret (.lst es)) := by
  have z := RN.lc (k := fun x => (k x).bind fun y => .ret (some y)) hi hs (tt := tYes) (te := te) fun x P w => by
    obtain ⟨ρ', h1, h2⟩ := hk x (fun y => P (some y)) (wp_bind.mp w)
    exact ⟨ρ', h1, ET.yes (by rw [if_pos rfl]; exact h2)⟩
  simp only [cm_map] at z
  exact z
theorem CTp.of {m : M D} (h : RE K te ρ m) {P : D → Prop} (w : wp m P) : CTp K te P ρ := h P w
end
theorem room65 {k : Nat} {A : Around} (r : Room k A) : A.units + 65 < cLine := by
  have := r.un
  omega
end VB
namespace VB
open PySem PySem.Spec PyProof.Rows L2
inductive Wk : List En → List En → Prop
  | nil : Wk [] []
  | same (e : En) {ρ ρ' : List En} : Wk ρ ρ' → Wk (e :: ρ) (e :: ρ')
  | drop (e : En) {ρ ρ' : List En} : Wk ρ ρ' → Wk (e :: ρ) (.no :: ρ')
theorem Wk.len : ∀ {ρ ρ' : List En}, Wk ρ ρ' → ρ.length = ρ'.length
  | _, _, .nil => rfl
  | _, _, .same _ h => congrArg (· + 1) h.len
  | _, _, .drop _ h => congrArg (· + 1) h.len
theorem Wk.get : ∀ {ρ ρ' : List En} {i : Nat} {e : En}, Wk ρ ρ' → ρ'[i]? = some e → e = .no ∨ ρ[i]? = some e
  | _, _, _, _, .nil, h => by simp at h
  | _, _, 0, _, .same _ _, h => .inr h
  | _, _, i + 1, e, .same _ w, h => w.get (i := i) (show _ = some e from h)
  | _, _, 0, _, .drop _ _, h => .inl (by cases h; rfl)
  | _, _, i + 1, e, .drop _ w, h => w.get (i := i) (show _ = some e from h)
theorem Wk.refl : ∀ {ρ : List En}, Wk ρ ρ
  | [] => .nil
  | e :: ρ => .same e Wk.refl
section
variable {K : PySem.W.Frag} {F B W : List Addr} {H : Hp} {σ : L2.St} {ρ ρ' : List En}
theorem Wk.own {a : Addr} (w : Wk ρ ρ') (o : Own σ ρ' a) : Own σ ρ a := by
  obtain ⟨i, d, h1, h2⟩ := o
  exact (w.get h1).elim (fun z => nomatch z) fun z => ⟨i, d, z, h2⟩
theorem Wk.bor {a : Addr} (w : Wk ρ ρ') (o : Bor σ ρ' a) : Bor σ ρ a := by
  obtain ⟨i, d, h1, h3, h2⟩ := o
  exact (w.get h1).elim (fun z => nomatch z) fun z => ⟨i, d, z, h3, h2⟩
theorem EnvOk.wk (h : EnvOk K B W H σ ρ) (w : Wk ρ ρ') : EnvOk K B W H σ ρ' := by
  refine ⟨h.bw, h.len.trans w.len, fun i e q => ?_, fun i j d e a h1 h2 h3 h4 => ?_, fun a o b => h.sep a (w.own o) (w.bor b)⟩
  · rcases w.get q with rfl | z
    · trivial
    · exact h.sl i e z
  · rcases w.get h1 with z | z
    · cases z
    · rcases w.get h2 with z2 | z2
      · cases z2
      · exact h.one i j d e a z z2 h3 h4
theorem EnvOk.wkF (h : EnvOk K B W H σ ρ) (f : Fr F B W σ ρ) (w : Wk ρ ρ') : ∃ B', EnvOk K B' W H σ ρ' ∧ Fr F B' W σ ρ' := (h.wk w).fix f.fb (fun a m o => f.no a m (w.own o)) f.wf
end
inductive Fl (S L : Type) where
  | nx (s : S) | rt (d : D) | bk (l : L) | ct (l : L)
def CFl {S L : Type} (emb : S → List En) (embL : L → List En) (P : Po) : Fl S L → Prop
  | .nx s => P.nx (emb s)
  | .rt d => P.rt d
  | .bk l => P.bk (embL l)
  | .ct l => P.ct (embL l)
def M.k2 {α : Type} (k : D → D → M α) : List D → M α
  | [x, y] => k x y
  | _ => .fail
/-- the block t does what m says -/
def G (K : PySem.W.Frag) (R : Po → Prop) (t : TS) (ρ : List En) {α : Type} (m : M α) (C : Po → α → Prop) : Prop := ∀ P : Po, R P → wp m (C P) → ST K t ρ P
abbrev frR (fr : Option Bool) : Po → Prop := fun P => P.fr = fr
/-- a loop's body: continue and the end are one -/
abbrev lpR (fr : Option Bool) : Po → Prop := fun P => P.fr = fr ∧ ∀ ρ, P.nx ρ → P.ct ρ
/-- a block that only goes on -/
def CP {S : Type} (emb : S → List En) (P : Po) (s : S) : Prop := P.nx (emb s)
/-- a def's whole body: what falls through hands None back -/
abbrev fnR (fr : Option Bool) : Po → Prop := fun P => P.fr = fr ∧ ∀ ρ, P.rt .non → P.nx ρ
def CF (P : Po) (d : D) : Prop := P.rt d
section
variable {K : PySem.W.Frag} {R : Po → Prop} {t u v : TS} {ρ : List En} {α β : Type} {m : M α} {C : Po → α → Prop} {te : TE} {tt : TT} {ta : TA} {md : M D} {mt : M Bool} {i j : Nat} {k : D → M α} {k2 : D → D → M α}
theorem G.one (h : G K R (tSeq t tNext) ρ m C) : G K R t ρ m C := h
theorem G.assoc (h : G K R (tSeq t (tSeq u v)) ρ m C) : G K R (tSeq (tSeq t u) v) ρ m C := h
theorem G.wk {ρ' : List En} (w : Wk ρ ρ') (h : G K R t ρ' m C) : G K R t ρ m C := fun P r w1 F B W H σ e f E q1 q2 q3 q4 => by
  obtain ⟨B', e', f'⟩ := e.wkF f w
  have g : Gu W (Own σ ρ) (Own σ ρ') H H := .of Gs.refl fun a o => w.own o
  exact h P r w1 F B' W H σ e' f' E (q1.after g) (q2.after g) (q3.after g) (q4.after g)
theorem G.asg (he : RE K te ρ md) (h : ∀ d, G K R u (ρ.set i (.dat d)) (k d) C) : G K R (tSeq (tAsg te (gName i)) u) ρ (md.bind k) C := fun P r w => ST.seq (ST.asg (EV.imp (he _ (wp_bind.mp w)) fun d w1 ρ' e => by
  subst e
  exact h d P r w1))
theorem G.asgO (he : RN K te ρ md) (h : ∀ d, G K R u (ρ.set i (.own ⟨none, d⟩)) (k d) C) : G K R (tSeq (tAsg te (gName i)) u) ρ (md.bind k) C := fun P r w => ST.seq (ST.asgO (EVN.imp (he _ (wp_bind.mp w)) fun d w1 ρ' e => by
  subst e
  exact h d P r w1))
theorem G.drop (he : RE K te ρ md) (h : G K R u ρ m C) : G K R (tSeq (tDrop te) u) ρ (md.bind fun _ => m) C := fun P r w => ST.seq (ST.drop (EV.imp (he _ (wp_bind.mp w)) fun d w1 => h P r w1))
theorem G.par {A : MA} (he : RAs K ta ρ A) (h : ∀ x y, G K R u ((ρ.set i (.dat x)).set j (.dat y)) (k2 x y) C) : G K R (tSeq (tPar i j ta) u) ρ (A α (M.k2 k2)) C := fun P r w => ST.seq (ST.par fun B W H σ e Q q => he α _ _ w B W H σ e Q fun vs ds H' g s w1 => q vs ds H' g s (by
  match ds, w1 with
  | [x, y], w1 => exact ⟨x, y, rfl, fun ρ' e => by subst e; exact h x y P r w1⟩))
/-- a, b = e -/
theorem G.unp {p : Pt} {kk : D → M α} (he : RE K te ρ md) (h : PB p ρ kk fun Q ρ' => ∀ P : Po, R P → (∀ a, Q a → C P a) → ST K u ρ' P) : G K R (tSeq (tAsg te (p.g K)) u) ρ (md.bind kk) C := fun P r w F B W H σ e f E q1 q2 q3 q4 =>
  he _ (wp_bind.mp w) B W H σ e _ fun v d H1 g1 s1 w1 => by
    obtain ⟨ρ', hb, hC⟩ := h d _ w1
    refine Pt.ok p (e.gs g1) s1 hb fun σ' a' => ?_
    obtain ⟨B', e2, f2⟩ := a'.en.fix f.fb (fun a m o => f.no a m (a'.ow a o)) f.wf
    have g : Gu W (Own σ ρ) (Own σ' ρ') H H1 := .of g1 fun a o => a'.ow a o
    exact hC P r (fun a z => z) F B' W H1 σ' e2 f2 E (q1.after g) (q2.after g) (q3.after g) (q4.after g)
theorem unp_of {ρ' : List En} {m : M α} (h : G K R u ρ' m C) {Q : α → Prop} (w : wp m Q) : ∀ P : Po, R P → (∀ a, Q a → C P a) → ST K u ρ' P := fun P r z => h P r (wp_mono w z)
theorem G.ifS {m2 : M α} (ht : RT K tt ρ mt) (h1 : G K R (tSeq t v) ρ m C) (h2 : G K R (tSeq u v) ρ m2 C) : G K R (tSeq (tIfS tt t u) v) ρ (mt.bind fun b => if b = true then m else m2) C := fun P r w =>
  (show ST K (tIfS tt (tSeq t v) (tSeq u v)) ρ P from ST.ifs (ET.imp (ht _ (wp_bind.mp w)) fun b w1 => by
    cases b with
    | true => exact h1 P r w1
    | false => exact h2 P r w1))
theorem G.never : G K R (tSeq tNever v) ρ (.fail : M α) C := fun P r w => w.elim
/-- a local's own object is data from here on -/
theorem G.frz {tg : Option Addr} {d : D} (hi : ρ[i]? = some (.own ⟨tg, d⟩)) (h : G K R t (ρ.set i (.dat d)) m C) : G K R t ρ m C := fun P r w => ST.frz hi (h P r w)
theorem G.next (h : G K R v ρ m C) : G K R (tSeq tNext v) ρ m C := h
theorem G.retF (hR : ∀ P, R P → P.fr = false) (he : RE K te ρ md) : G K R (tSeq (tRet te) v) ρ md CF := fun P r w => show ST K (tRet te) ρ P from ST.ret (he _ w) (hR P r)
theorem G.retFO {tg : Option Addr} {d : D} (hR : ∀ P, R P → P.fr = true) (hi : ρ[i]? = some (.own ⟨tg, d⟩)) : G K R (tSeq (tRet (tVar i)) v) ρ (.ret d) CF := fun P r w => show ST K (tRet (tVar i)) ρ P from ST.retO hi w (hR P r)
variable {S L : Type} {emb : S → List En} {embL : L → List En}
theorem G.retS (hR : ∀ P, R P → P.fr = false) (he : RE K te ρ md) : G K R (tSeq (tRet te) v) ρ (md.bind fun d => .ret (.rt d)) (CFl emb embL) := fun P r w => show ST K (tRet te) ρ P from ST.ret (he _ (wp_bind.mp w)) (hR P r)
theorem wk_go {F B W : List Addr} {H : Hp} {σ : L2.St} {ρ' : List En} {M : List En → Prop} {Q : L2.St → Hp → Prop} (e : EnvOk K B W H σ ρ) (f : Fr F B W σ ρ) (w : Wk ρ ρ') (q : Cn K F W H σ ρ M Q) (p : M ρ') : Q σ H := by
  obtain ⟨B', e', f'⟩ := e.wkF f w
  exact q ρ' σ H B' (.of Gs.refl fun a o => w.own o) e' f' p
theorem G.finS {s : S} (w : Wk ρ (emb s)) : G K R tNext ρ (.ret (.nx s)) (CFl emb embL) := fun P r p F B W H σ e f E q1 q2 q3 q4 => wk_go e f w q1 p
theorem G.finP {s : S} (w : Wk ρ (emb s)) : G K R tNext ρ (.ret s) (CP emb) := fun P r p F B W H σ e f E q1 q2 q3 q4 => wk_go e f w q1 p
theorem G.brk {l : L} (w : Wk ρ (embL l)) : G K R (tSeq tBreak v) ρ (.ret (.bk l)) (CFl emb embL) := fun P r p F B W H σ e f E q1 q2 q3 q4 => wk_go e f w q3 p
theorem G.cont {l : L} (w : Wk ρ (embL l)) : G K R (tSeq tCont v) ρ (.ret (.ct l)) (CFl emb embL) := fun P r p F B W H σ e f E q1 q2 q3 q4 => wk_go e f w q4 p
/-- what goes on behind a part that may end otherwise: within a def -/
def Fl.toF (k : S → M D) : Fl S Empty → M D
  | .nx s => k s
  | .rt d => .ret d
  | .bk e => e.elim
  | .ct e => e.elim
def Fl.toS {S' : Type} (k : S → M (Fl S' L)) : Fl S L → M (Fl S' L)
  | .nx s => k s
  | .rt d => .ret (.rt d)
  | .bk l => .ret (.bk l)
  | .ct l => .ret (.ct l)
def noL : Empty → List En := fun e => e.elim
theorem G.joinS {S' : Type} {emb' : S' → List En} {fr : Option Bool} {m1 : M (Fl S L)} {kk : S → M (Fl S' L)} (hR : ∀ P, R P → P.fr = fr) (h1 : G K (frR fr) t ρ m1 (CFl emb embL)) (h2 : ∀ s, G K R v (emb s) (kk s) (CFl emb' embL)) : G K R (tSeq t v) ρ (m1.bind (Fl.toS kk)) (CFl emb' embL) := fun P r w =>
  ST.seq (h1 { P with nx := fun ρ' => ST K v ρ' P } (hR P r) (wp_mono (wp_bind.mp w) fun o w1 => match o, w1 with
    | .nx s, w1 => h2 s P r w1
    | .rt d, w1 => w1
    | .bk l, w1 => w1
    | .ct l, w1 => w1))
/-- an if whose ways only change locals -/
theorem G.joinP {fr : Option Bool} {m1 : M S} {kk : S → M α} (hR : ∀ P, R P → P.fr = fr) (h1 : G K (frR fr) t ρ m1 (CP emb)) (h2 : ∀ s, G K R v (emb s) (kk s) C) : G K R (tSeq t v) ρ (m1.bind kk) C := fun P r w =>
  ST.seq (h1 { P with nx := fun ρ' => ST K v ρ' P } (hR P r) (wp_mono (wp_bind.mp w) fun s w1 => h2 s P r w1))
def M.loop {X : Type} (f : D → L → M (Fl L L)) : List D → L → M (Fl L X)
  | [], s => .ret (.nx s)
  | x :: xs, s => (f x s).bind fun o => match o with
    | .nx s' => M.loop f xs s'
    | .ct s' => M.loop f xs s'
    | .bk s' => .ret (.nx s')
    | .rt d => .ret (.rt d)
/-- a loop that only goes on -/
def M.fold (f : D → L → M L) : List D → L → M L
  | [], s => .ret s
  | x :: xs, s => (f x s).bind fun s' => M.fold f xs s'
theorem loop_fold {X : Type} {f : D → L → M L} : ∀ xs s, M.loop (X := X) (fun x s => (f x s).bind fun s' => .ret (.nx s')) xs s = (M.fold f xs s).bind fun s => .ret (.nx s)
  | [], s => rfl
  | x :: xs, s => by
    unfold M.loop M.fold
    rw [M.assoc, M.assoc]
    congr 1
    funext s'
    exact loop_fold xs s'
/-- the turn of a loop -/
def LT (K : PySem.W.Frag) (fr : Option Bool) (t : TS) (embL : L → List En) (Q : Fl L L → Prop) (ρ : List En) : Prop := ∀ P : Po, lpR fr P → (∀ o, Q o → CFl embL embL P o) → ST K t ρ P
theorem LT.of {fr : Option Bool} {m : M (Fl L L)} (h : G K (lpR fr) t ρ m (CFl embL embL)) {Q : Fl L L → Prop} (w : wp m Q) : LT K fr t embL Q ρ := fun P r z => h P r (wp_mono w z)
/-- the turn of a loop that only goes on -/
def LTp (K : PySem.W.Frag) (fr : Option Bool) (t : TS) (embL : L → List En) (Q : L → Prop) (ρ : List En) : Prop := ∀ P : Po, lpR fr P → (∀ s, Q s → P.nx (embL s)) → ST K t ρ P
theorem LTp.of {fr : Option Bool} {m : M L} (h : G K (lpR fr) t ρ m (CP embL)) {Q : L → Prop} (w : wp m Q) : LTp K fr t embL Q ρ := fun P r z => h P r (wp_mono w z)
theorem ST.forW {wi : TI} {p : Pt} {P : Po} {mi : M (List D)} {s0 : L} {f : D → L → M (Fl L L)} {P' : Fl L Empty → Prop} (hi : RI K true wi ρ mi) (w0 : Wk ρ (embL s0)) (hk : ∀ s, PB p (embL s) (fun x => f x s) (LT K P.fr t embL)) (w : wp (mi.bind fun ds => M.loop f ds s0) P')
    (hP : ∀ o, P' o → match o with | .nx s => P.nx (embL s) | .rt d => P.rt d | .bk e => e.elim | .ct e => e.elim) : ST K (tFor wi (p.g K) t) ρ P := fun F B W H σ e f0 E q1 q2 q3 q4 =>
  hi _ (wp_bind.mp w) B W H σ e _ fun J ds H1 g1 wk w1 => by
    have e1 := e.gs g1
    have g01 : Gu W (Own σ ρ) (Own σ ρ) H H1 := .of g1 fun _ o => o
    obtain ⟨B0, e0, fr0⟩ := e1.wkF f0 w0
    have kp : ∀ {H' : Hp} {σ' : L2.St} {ρ' : List En}, Gu W (Own σ ρ) (Own σ' ρ') H1 H' → Kp W (fun a => true = true ∧ Own σ ρ a) H1 H' := fun g => ⟨fun a o nW nU h => g.keep a o nW (fun u => nU ⟨rfl, u⟩) h, g.tups⟩
    refine ⟨fun i m σ' H' => m = ds.length - i ∧ i ≤ ds.length ∧ ∃ s B', Gu W (Own σ ρ) (Own σ' (embL s)) H1 H' ∧ EnvOk K B' W H' σ' (embL s) ∧ Fr F B' W σ' (embL s) ∧ wp (M.loop f (ds.drop i) s) P', ⟨ds.length, by simp, Nat.zero_le _, s0, B0, .of Gs.refl fun a o => w0.own o, e0, fr0, w1⟩, ?_⟩
    rintro i m σ2 H2 ⟨rfl, hle, s, B2, g2, e2, fr2, w2⟩
    by_cases hlt : i < ds.length
    · rw [List.drop_eq_getElem_cons hlt] at w2
      have w3 := wp_bind.mp (show wp ((f ds[i] s).bind fun o => match o with | .nx s' => M.loop f (ds.drop (i + 1)) s' | .ct s' => M.loop f (ds.drop (i + 1)) s' | .bk s' => .ret (.nx s') | .rt d => .ret (.rt d)) P' from w2)
      refine .inr ⟨wk.goes i H2 hlt (kp g2), fun σ' H' => i + 1 ≤ ds.length ∧ ∃ s B', Gu W (Own σ ρ) (Own σ' (embL s)) H1 H' ∧ EnvOk K B' W H' σ' (embL s) ∧ Fr F B' W σ' (embL s) ∧ wp (M.loop f (ds.drop (i + 1)) s) P', fun σ' H' z => ⟨ds.length - (i + 1), by omega, rfl, z⟩, fun x H3 hy => ?_⟩
      obtain ⟨g3, hy⟩ := wk.yields i H2 x H3 hlt (kp g2) hy
      obtain ⟨d, hd, sd⟩ := hy B2 (fun a m => e2.bw.kn a m) fun v d s => s.gu e1 f0 g2 fr2
      have ed : ds[i] = d := Option.some.inj (by rw [← hd, List.getElem?_eq_getElem hlt])
      rw [ed] at w3
      obtain ⟨ρ', hb, hC⟩ := hk s d _ w3
      refine Pt.ok p (e2.gs g3) sd hb fun σ4 a4 => ?_
      obtain ⟨B4, e4, fr4⟩ := a4.en.fix fr2.fb (fun a m o => fr2.no a m (a4.ow a o)) fr2.wf
      have g4 : Gu W (Own σ ρ) (Own σ4 ρ') H1 H3 := g2.trans (.of g3 fun a o => a4.ow a o)
      have again : ∀ {ρ5 : List En} {σ5 : L2.St} {H5 : Hp} {B5 : List Addr}, Gu W (Own σ4 ρ') (Own σ5 ρ5) H3 H5 → EnvOk K B5 W H5 σ5 ρ5 → Fr F B5 W σ5 ρ5 → (∃ s', ρ5 = embL s' ∧ wp (M.loop f (ds.drop (i + 1)) s') P') → i + 1 ≤ ds.length ∧ ∃ s B', Gu W (Own σ ρ) (Own σ5 (embL s)) H1 H5 ∧ EnvOk K B' W H5 σ5 (embL s) ∧ Fr F B' W σ5 (embL s) ∧ wp (M.loop f (ds.drop (i + 1)) s) P' := fun g5 e5 fr5 z => by
        obtain ⟨s', rfl, w5⟩ := z
        exact ⟨hlt, s', _, g4.trans g5, e5, fr5, w5⟩
      refine hC ⟨fun ρ5 => ∃ s', ρ5 = embL s' ∧ wp (M.loop f (ds.drop (i + 1)) s') P', P.rt, P.nx, fun ρ5 => ∃ s', ρ5 = embL s' ∧ wp (M.loop f (ds.drop (i + 1)) s') P', P.fr⟩ ⟨rfl, fun _ z => z⟩ (fun o w5 => ?_) F B4 W H3 σ4 e4 fr4 { E with nx := _, ct := _, bk := E.nx }
        (fun ρ5 σ5 H5 B5 g5 e5 fr5 z => again g5 e5 fr5 z) ((q2.after g01).after g4) ((q1.after g01).after g4) (fun ρ5 σ5 H5 B5 g5 e5 fr5 z => again g5 e5 fr5 z)
      cases o with
      | nx s' => exact ⟨s', rfl, w5⟩
      | ct s' => exact ⟨s', rfl, w5⟩
      | bk s' => exact hP _ w5
      | rt d => exact hP _ w5
    · have hi2 : i = ds.length := by omega
      subst hi2
      rw [List.drop_length] at w2
      exact .inl ⟨wk.stops H2 (kp g2), q1 _ σ2 H2 B2 (g01.trans g2) e2 fr2 (hP _ w2)⟩
theorem G.forF {wi : TI} {p : Pt} {fr : Option Bool} {mi : M (List D)} {s0 : L} {f : D → L → M (Fl L L)} {kk : L → M D} (hR : ∀ P, R P → P.fr = fr) (hi : RI K true wi ρ mi) (w0 : Wk ρ (embL s0)) (hk : ∀ s, PB p (embL s) (fun x => f x s) (LT K fr t embL)) (h2 : ∀ s, G K R v (embL s) (kk s) CF) :
    G K R (tSeq (tFor wi (p.g K) t) v) ρ (mi.bind fun ds => (M.loop f ds s0).bind (Fl.toF kk)) CF := fun P r w => ST.seq (by
  have e := hR P r
  subst e
  refine ST.forW (P := { P with nx := fun ρ' => ST K v ρ' P }) (P' := fun o => wp (Fl.toF kk o) (CF P)) hi w0 hk (wp_bind.mpr (wp_mono (wp_bind.mp w) fun ds w1 => wp_bind.mp w1)) fun o w1 => ?_
  match o, w1 with
  | .nx s, w1 => exact h2 s P r w1
  | .rt d, w1 => exact w1
  | .bk e, _ => exact e.elim
  | .ct e, _ => exact e.elim)
theorem G.forS {L' S' : Type} {emb' : S' → List En} {embO : L' → List En} {wi : TI} {p : Pt} {fr : Option Bool} {mi : M (List D)} {s0 : L} {f : D → L → M (Fl L L)} {kk : L → M (Fl S' L')} (hR : ∀ P, R P → P.fr = fr) (hi : RI K true wi ρ mi) (w0 : Wk ρ (embL s0)) (hk : ∀ s, PB p (embL s) (fun x => f x s) (LT K fr t embL))
    (h2 : ∀ s, G K R v (embL s) (kk s) (CFl emb' embO)) : G K R (tSeq (tFor wi (p.g K) t) v) ρ (mi.bind fun ds => (M.loop (X := L') f ds s0).bind (Fl.toS kk)) (CFl emb' embO) := fun P r w => ST.seq (by
  have e := hR P r
  subst e
  have cv : ∀ (ds : List D) (s : L) (Q : Fl S' L' → Prop), wp ((M.loop (X := L') f ds s).bind (Fl.toS kk)) Q → wp (M.loop (X := Empty) f ds s) fun o => match o with | .nx s => wp (kk s) Q | .rt d => Q (.rt d) | .bk e => e.elim | .ct e => e.elim := by
    intro ds
    induction ds with
    | nil => exact fun s Q w => w
    | cons x xs ih =>
      intro s Q w
      unfold M.loop at w ⊢
      rw [M.assoc] at w
      refine wp_bind.mpr (wp_mono (wp_bind.mp w) fun o w1 => ?_)
      match o, w1 with
      | .nx s', w1 => exact ih s' Q w1
      | .ct s', w1 => exact ih s' Q w1
      | .bk s', w1 => exact w1
      | .rt d, w1 => exact w1
  refine ST.forW (P := { P with nx := fun ρ' => ST K v ρ' P }) (P' := fun o => match o with | .nx s => wp (kk s) (CFl emb' embO P) | .rt d => P.rt d | .bk e => e.elim | .ct e => e.elim) hi w0 hk (wp_bind.mpr (wp_mono (wp_bind.mp w) fun ds w1 => wp_mono (cv ds s0 _ w1) fun o z => ?_)) fun o w1 => ?_
  · match o, z with
    | .nx s, z => exact z
    | .rt d, z => exact z
  · match o, w1 with
    | .nx s, w1 => exact h2 s P r w1
    | .rt d, w1 => exact w1)
/-- a loop that only goes on -/
theorem G.forP {wi : TI} {p : Pt} {fr : Option Bool} {mi : M (List D)} {s0 : L} {f : D → L → M L} {kk : L → M α} (hR : ∀ P, R P → P.fr = fr) (hi : RI K true wi ρ mi) (w0 : Wk ρ (embL s0)) (hk : ∀ s, PB p (embL s) (fun x => f x s) (LTp K fr t embL)) (h2 : ∀ s, G K R v (embL s) (kk s) C) :
    G K R (tSeq (tFor wi (p.g K) t) v) ρ (mi.bind fun ds => (M.fold f ds s0).bind kk) C := fun P r w => ST.seq (by
  have e := hR P r
  subst e
  refine ST.forW (P := { P with nx := fun ρ' => ST K v ρ' P }) (f := fun x s => (f x s).bind fun s' => .ret (.nx s')) (P' := fun o => match o with | .nx s => wp (kk s) (C P) | _ => False) hi w0 (fun s x Q w => by
    obtain ⟨ρ', h1, h2⟩ := hk s x (fun s' => Q (.nx s')) (wp_bind.mp w)
    exact ⟨ρ', h1, fun P' r' z => h2 P' r' fun s' q => z _ q⟩) (wp_bind.mpr (wp_mono (wp_bind.mp w) fun ds w1 => ?_)) fun o w1 => ?_
  · rw [loop_fold]
    exact wp_bind.mpr (wp_mono (wp_bind.mp w1) fun s z => z)
  · match o, w1 with
    | .nx s, w1 => exact h2 s P r w1)
end
section
variable {K : PySem.W.Frag} {R : Po → Prop} {u : TS} {ρ : List En} {α : Type} {C : Po → α → Prop} {te tk : TE} {ta : TA} {md mk : M D} {i : Nat} {tg : Option Addr} {d : D} {k : D → M α}
def D.lsk {α : Type} (d : D) (k : List D → M α) : M α := match d with
  | .lst ds => k ds
  | _ => .fail
theorem lsk_at {α : Type} {d : D} {k : List D → M α} {P : α → Prop} (w : wp (D.lsk d k) P) : ∃ ds, d = .lst ds ∧ wp (k ds) P := by
  cases d with
  | lst ds => exact ⟨ds, rfl, w⟩
  | _ => exact w.elim
def D.app (d x : D) : M D := d.lsk fun ds => if ds.length < 16777216 then .ret (.lst (ds ++ [x])) else .fail
theorem wp_use {α : Type} {m : M α} {P : α → Prop} {Q : Prop} (w : wp m P) (h : ∀ a, P a → Q) : Q := Classical.byContradiction fun n => wp_false (wp_mono w fun a p => n (h a p))
theorem own_ls {k' : D → List D → M α} {P : α → Prop} (w : wp (md.bind fun x => D.lsk d (k' x)) P) : ∃ ds, d = .lst ds := wp_use (wp_bind.mp w) fun x w1 => (lsk_at w1).imp fun ds z => z.1
theorem G.app {kk : D → M α} (hi : ρ[i]? = some (.own ⟨tg, d⟩)) (he : RE K te ρ md) (h : ∀ d', G K R u (ρ.set i (.own ⟨tg, d'⟩)) (kk d') C) : G K R (tSeq (tDrop (tBM K "list" rAppend (tVar i) (tCons te tNil))) u) ρ (md.bind fun x => d.lsk fun ds => if ds.length < 16777216 then kk (.lst (ds ++ [x])) else .fail) C := fun P r w => by
  obtain ⟨ds, rfl⟩ := own_ls w
  have hz : ds.length < 16777216 := wp_use (wp_bind.mp w) fun x w1 => (wp_ite w1).1
  refine ST.seq (ST.app hi hz (EV.imp (he _ (wp_bind.mp w)) fun x w1 ρ' e => ?_))
  subst e
  exact h _ P r (wp_ite w1).2
def D.insK {α : Type} (ds : List D) (p q : D) (k : D → M α) : M α := match p with
  | .int n => if 0 ≤ n ∧ n < 9223372036854775808 then k (.lst (ds.take n.toNat ++ [q] ++ ds.drop n.toNat)) else .fail
  | _ => .fail
theorem G.ins {A : MA} {kk : D → M α} (hi : ρ[i]? = some (.own ⟨tg, d⟩)) (he : RAs K ta ρ A) (h : ∀ d', G K R u (ρ.set i (.own ⟨tg, d'⟩)) (kk d') C) :
    G K R (tSeq (tDrop (tBM K "list" rInsert (tVar i) ta)) u) ρ (d.lsk fun ds => if ds.length < 16777216 then A α (M.k2 fun p q => D.insK ds p q kk) else .fail) C := fun P r w => by
  obtain ⟨ds, rfl, w⟩ := lsk_at w
  obtain ⟨hz, w⟩ := wp_ite w
  refine ST.seq (ST.ins hi hz fun B W H σ e Q q => he α _ _ w B W H σ e Q fun vs es H' g s w1 => q vs es H' g s ?_)
  match es, w1 with
  | [p, x], w1 =>
    cases p with
    | int n =>
      obtain ⟨h1, w2⟩ := wp_ite (show wp (if 0 ≤ n ∧ n < 9223372036854775808 then kk (.lst (ds.take n.toNat ++ [x] ++ ds.drop n.toNat)) else .fail) (C P) from w1)
      exact ⟨n, x, rfl, h1.1, h1.2, fun ρ' e => by subst e; exact h _ P r w2⟩
    | _ => exact w1.elim
theorem G.ext {kk : D → M α} (hi : ρ[i]? = some (.own ⟨tg, d⟩)) (he : RE K te ρ md) (h : ∀ d', G K R u (ρ.set i (.own ⟨tg, d'⟩)) (kk d') C) : G K R (tSeq (tDrop (tBM K "list" rExtend (tVar i) (tCons te tNil))) u) ρ (md.bind fun x => d.lsk fun ds => x.lsk fun es => if ds.length + es.length ≤ 16777216 then kk (.lst (ds ++ es)) else .fail) C := fun P r w => by
  obtain ⟨ds, rfl⟩ := own_ls w
  refine ST.seq (ST.ext hi (EV.imp (he _ (wp_bind.mp w)) fun x w1 => ?_))
  obtain ⟨es, rfl, w2⟩ := lsk_at (show wp (x.lsk fun es => if ds.length + es.length ≤ 16777216 then kk (.lst (ds ++ es)) else .fail) (C P) from w1)
  obtain ⟨h1, w3⟩ := wp_ite w2
  exact ⟨es, rfl, h1, fun ρ' e => by subst e; exact h _ P r w3⟩
theorem G.clr {kk : D → M α} (hi : ρ[i]? = some (.own ⟨tg, d⟩)) (h : ∀ d', G K R u (ρ.set i (.own ⟨tg, d'⟩)) (kk d') C) : G K R (tSeq (tDrop (tBM0 K "list" rClear (tVar i))) u) ρ (d.lsk fun ds => kk (.lst [])) C := fun P r w => by
  obtain ⟨ds, rfl, w⟩ := lsk_at w
  exact ST.seq (ST.clr hi fun ρ' e => by subst e; exact h _ P r w)
/-- xs[k] = e -/
theorem G.item {kk : D → M α} (hi : ρ[i]? = some (.own ⟨tg, d⟩)) (he : RE K te ρ md) (hk : RE K tk ρ mk) (h : ∀ d', G K R u (ρ.set i (.own ⟨tg, d'⟩)) (kk d') C) :
    G K R (tSeq (tAsg te (gSub (tVar i) tk rSetL)) u) ρ (md.bind fun x => mk.bind fun y => d.lsk fun ds => y.asI.bind fun n => match ixN ds.length n with | some j => kk (.lst (ds.set j x)) | none => .fail) C := fun P r w => by
  obtain ⟨ds, rfl⟩ : ∃ ds, d = .lst ds := wp_use (wp_bind.mp w) fun x w1 => wp_use (wp_bind.mp w1) fun y w2 => (lsk_at w2).imp fun ds z => z.1
  refine ST.seq (ST.item hi (EV.imp (he _ (wp_bind.mp w)) fun x w1 => EV.imp (hk _ (wp_bind.mp w1)) fun y w2 => ?_))
  obtain ⟨n, rfl, w3⟩ := asI_at (wp_bind.mp (show wp (y.asI.bind fun n => match ixN ds.length n with | some j => kk (.lst (ds.set j x)) | none => .fail) (C P) from w2))
  have w3 : wp (match ixN ds.length n with | some j => kk (.lst (ds.set j x)) | none => .fail) (C P) := w3
  cases e : ixN ds.length n with
  | none =>
    rw [e] at w3
    exact w3.elim
  | some j =>
    rw [e] at w3
    exact ⟨n, j, rfl, e, fun ρ' e => by subst e; exact h _ P r w3⟩
end
inductive Md where
  | dat | bor | bag
/-- an argument as it is handed over -/
def Am (K : PySem.W.Frag) (B W : List Addr) (H : Hp) (v : V) : Md → D → Prop
  | .dat, d => Sg K B H v d
  | .bor, d => Sr K B W H v d
  | .bag, d => ∃ b, d = .raw b ∧ v = .ref b ∧ b ∈ W ∧ ∃ c ns, c ∉ B ∧ BagC H b c ns
def Md.en : Md → D → En
  | .dat, d => .dat d
  | .bor, d => .bor d
  | .bag, .raw b => .bag b
  | .bag, _ => .no
inductive AmA (K : PySem.W.Frag) (B W : List Addr) (H : Hp) : List Md → List V → List D → Prop
  | nil : AmA K B W H [] [] []
  | cons {m : Md} {v : V} {d : D} {ms : List Md} {vs : List V} {ds : List D} : Am K B W H v m d → AmA K B W H ms vs ds → AmA K B W H (m :: ms) (v :: vs) (d :: ds)
section
variable {K : PySem.W.Frag} {B W : List Addr} {H H' : Hp}
theorem Am.gs {v : V} {m : Md} {d : D} (w : ∀ a ∈ W, a ∈ B) (g : Gs W H H') (h : Am K B W H v m d) : Am K B W H' v m d := by
  cases m with
  | dat => exact Sg.gw (g.gw.mono w) h
  | bor => exact Sr.gs w g h
  | bag =>
    obtain ⟨b, e1, e2, m, c, ns, nc, hb⟩ := h
    exact ⟨b, e1, e2, m, c, ns, nc, g.bag b m c ns (fun z => nc (w c z)) hb⟩
theorem AmA.gs (w : ∀ a ∈ W, a ∈ B) (g : Gs W H H') : ∀ {ms vs ds}, AmA K B W H ms vs ds → AmA K B W H' ms vs ds
  | _, _, _, .nil => .nil
  | _, _, _, .cons h r => .cons (h.gs w g) (AmA.gs w g r)
theorem AmA.append : ∀ {ms ms2 vs vs2 ds ds2}, AmA K B W H ms vs ds → AmA K B W H ms2 vs2 ds2 → AmA K B W H (ms ++ ms2) (vs ++ vs2) (ds ++ ds2)
  | _, _, _, _, _, _, .nil, s => s
  | _, _, _, _, _, _, .cons h r, s => .cons h (AmA.append r s)
theorem AmA.len : ∀ {ms vs ds}, AmA K B W H ms vs ds → vs.length = ms.length ∧ ds.length = ms.length
  | _, _, _, .nil => ⟨rfl, rfl⟩
  | _, _, _, .cons _ r => ⟨congrArg (· + 1) r.len.1, congrArg (· + 1) r.len.2⟩
end
/-- a bag's argument is a bag -/
inductive Mds : List Md → List D → Prop
  | nil : Mds [] []
  | dat (d : D) {ms : List Md} {ds : List D} : Mds ms ds → Mds (.dat :: ms) (d :: ds)
  | bor (d : D) {ms : List Md} {ds : List D} : Mds ms ds → Mds (.bor :: ms) (d :: ds)
  | bag (b : Addr) {ms : List Md} {ds : List D} : Mds ms ds → Mds (.bag :: ms) (.raw b :: ds)
theorem AmA.mds {K : PySem.W.Frag} {B W : List Addr} {H : Hp} : ∀ {ms vs ds}, AmA K B W H ms vs ds → Mds ms ds
  | _, _, _, .nil => .nil
  | .dat :: _, _, _, .cons _ r => .dat _ r.mds
  | .bor :: _, _, _, .cons _ r => .bor _ r.mds
  | .bag :: _, _, _, .cons h r => by
    obtain ⟨b, rfl, _⟩ := h
    exact .bag b r.mds
/-- the promise: what m says of the arguments -/
def spM (K : PySem.W.Frag) (ms : List Md) (m : List D → M D) : Sp := fun vs H Q _ => ∃ (B W : List Addr) (ds : List D) (P : D → Prop), BW B W H ∧ AmA K B W H ms vs ds ∧ wp (m ds) P ∧ ∀ v d H', Gs W H H' → Sg K B H' v d → P d → Q v H'
def spMN (K : PySem.W.Frag) (ms : List Md) (m : List D → M D) : Sp := fun vs H Q _ => ∃ (B W : List Addr) (ds : List D) (P : D → Prop), BW B W H ∧ AmA K B W H ms vs ds ∧ wp (m ds) P ∧ ∀ a d H', Gs W H H' → H a = none → OwAt K (a :: B) H' a d → P d → Q (.ref a) H'
theorem spM_len {K : PySem.W.Frag} {ms : List Md} {m : List D → M D} {vs : List V} {H : Hp} {Q : VK} {E : XK} (h : spM K ms m vs H Q E) : vs.length = ms.length := by
  obtain ⟨_, _, _, _, _, a, _⟩ := h
  exact a.len.1
theorem spMN_len {K : PySem.W.Frag} {ms : List Md} {m : List D → M D} {vs : List V} {H : Hp} {Q : VK} {E : XK} (h : spMN K ms m vs H Q E) : vs.length = ms.length := by
  obtain ⟨_, _, _, _, _, a, _⟩ := h
  exact a.len.1
/-- arguments of a call -/
def EAm (K : PySem.W.Frag) (ta : TA) (ρ : List En) (ms : List Md) (P : List D → Prop) : Prop := ∀ (B W : List Addr) (H : Hp) (σ : L2.St), EnvOk K B W H σ ρ → ∀ Q : List V → Hp → Prop, (∀ vs ds H', Gs W H H' → AmA K B W H' ms vs ds → P ds → Q vs H') → ta σ H Q
def RAm (K : PySem.W.Frag) (ta : TA) (ρ : List En) (ms : List Md) (A : MA) : Prop := ∀ (α : Type) (k : List D → M α) (P : α → Prop), wp (A α k) P → EAm K ta ρ ms fun ds => wp (k ds) P
/-- the defaults that a call leaves out -/
def Dfs (K : PySem.W.Frag) (ms : List Md) (dvs : List V) (dds : List D) : Prop := ∀ (B W : List Addr) (H : Hp), AmA K B W H ms dvs dds
section
variable {K : PySem.W.Frag} {ρ : List En} {te : TE} {ta : TA} {md : M D} {A : MA} {ms ms2 : List Md} {i : Nat} {dvs : List V} {dds : List D} {E : XK} {m : List D → M D}
theorem RAm.nil : RAm K tNil ρ [] fun _ k => k [] := fun α k P w B W H σ e Q q => q _ _ H Gs.refl .nil w
theorem RAm.dat (he : RE K te ρ md) (h : RAm K ta ρ ms A) : RAm K (tCons te ta) ρ (.dat :: ms) fun α k => md.bind fun x => A α fun xs => k (x :: xs) := fun α k P w B W H σ e Q q =>
  he _ (wp_bind.mp w) B W H σ e _ fun v x H1 g1 s1 w1 => h α _ P w1 B W H1 σ (e.gs g1) _ fun vs ds H2 g2 s2 w2 => q _ _ H2 (g1.trans g2) (.cons (show Sg K B H2 v x from s1.gw ((e.gs g1).bw.gw g2)) s2) w2
theorem RAm.bor (he : RR K te ρ md) (h : RAm K ta ρ ms A) : RAm K (tCons te ta) ρ (.bor :: ms) fun α k => md.bind fun x => A α fun xs => k (x :: xs) := fun α k P w B W H σ e Q q =>
  he _ (wp_bind.mp w) B W H σ e _ fun v x H1 g1 s1 w1 => h α _ P w1 B W H1 σ (e.gs g1) _ fun vs ds H2 g2 s2 w2 => q _ _ H2 (g1.trans g2) (.cons (show Sr K B W H2 v x from s1.gs e.bw.sub g2) s2) w2
theorem RAm.bag {b : Addr} (hi : ρ[i]? = some (.bag b)) (h : RAm K ta ρ ms A) : RAm K (tCons (tVar i) ta) ρ (.bag :: ms) fun α k => A α fun xs => k (.raw b :: xs) := fun α k P w B W H σ e Q q => by
  obtain ⟨e1, m, c, ns, nc, hb⟩ := e.sl i _ hi
  refine ⟨_, e1, h α _ P w B W H σ e _ fun vs ds H2 g2 s2 w2 => q _ _ H2 g2 (.cons ?_ s2) w2⟩
  exact (show Am K B W H (.ref b) .bag (.raw b) from ⟨b, rfl, rfl, m, c, ns, nc, hb⟩).gs e.bw.sub g2
theorem RE.call (h : RAm K ta ρ ms A) : RE K (tCall (spM K ms m) [] E ta) ρ (A D m) := fun P w B W H σ e Q q => h D m P w B W H σ e _ fun vs ds H1 g1 s1 w1 =>
  ⟨B, W, ds, P, (e.gs g1).bw, by rw [List.append_nil]; exact s1, w1, fun v d H2 g2 s p => q v d H2 (g1.trans g2) s p⟩
theorem RN.call (h : RAm K ta ρ ms A) : RN K (tCall (spMN K ms m) [] E ta) ρ (A D m) := fun P w B W H σ e Q q => h D m P w B W H σ e _ fun vs ds H1 g1 s1 w1 =>
  ⟨B, W, ds, P, (e.gs g1).bw, by rw [List.append_nil]; exact s1, w1, fun a d H2 g2 n k p => q a d H2 (g1.trans g2) (g1.gw.free a n) k p⟩
/-- the draw -/
def D.takeM (x : D) : M D := x.asI.bind fun n => if 0 < n ∧ n < 2 ^ 200 then .draw n fun r => .ret (.int r) else .fail
theorem RE.take {b : Addr} (hi : ρ[i]? = some (.bag b)) (he : RE K te ρ md) : RE K (tCall (spTake K) [] E (tCons (tVar i) (tCons te tNil))) ρ (md.bind D.takeM) := fun P w => EV.take hi (EV.imp (he _ (wp_bind.mp w)) fun x w1 => by
  obtain ⟨n, rfl, w2⟩ := asI_at (wp_bind.mp w1)
  obtain ⟨h, w3⟩ := wp_ite w2
  exact ⟨n, rfl, h.1, h.2, fun r h0 h1 => w3.2 r h0 h1⟩)
theorem ams_env {B W : List Addr} {H : Hp} : ∀ {ms vs ds}, AmA K B W H ms vs ds → ∀ (i : Nat) (e : En), (List.zipWith Md.en ms ds)[i]? = some e → EnOk K B W H ((vs.map some)[i]?) e
  | _, _, _, .nil, i, e, h => by simp at h
  | m :: _, v :: _, d :: _, .cons a r, 0, e, h => by
    cases h
    cases m with
    | dat => exact ⟨v, rfl, a⟩
    | bor => exact ⟨v, rfl, a⟩
    | bag =>
      obtain ⟨b, rfl, rfl, h2⟩ := a
      exact ⟨rfl, h2⟩
  | _, _, _, .cons a r, i + 1, e, h => ams_env r i e h
theorem ams_own {n : Nat} : ∀ {ms : List Md} {ds : List D}, (List.zipWith Md.en ms ds ++ List.replicate n En.no).all (fun e => !e.isOwn) = true := fun {ms ds} => by
  rw [List.all_append, Bool.and_eq_true_iff, List.all_eq_true, List.all_eq_true]
  refine ⟨fun e m => ?_, fun e m => ?_⟩
  · rw [List.mem_iff_getElem?] at m
    obtain ⟨i, hi⟩ := m
    rw [List.getElem?_zipWith] at hi
    cases h1 : ms[i]? with
    | none =>
      rw [h1] at hi
      cases hi
    | some mm =>
      cases h2 : ds[i]? with
      | none =>
        rw [h1, h2] at hi
        cases hi
      | some d =>
        rw [h1, h2] at hi
        cases hi
        cases mm with
        | bag => cases d <;> rfl
        | _ => rfl
  · rw [(List.mem_replicate.mp m).2]
    rfl
theorem start_env {N : List Str} {ms : List Md} {vs : List V} {ds : List D} {B W : List Addr} {H : Hp} (b : BW B W H) (a : AmA K B W H ms vs ds) : EnvOk K B W H (start N vs) (List.zipWith Md.en ms ds ++ List.replicate (N.length - ms.length) .no) := by
  have hl := a.len
  have zl : (List.zipWith Md.en ms ds).length = ms.length := by rw [List.length_zipWith, hl.2, Nat.min_self]
  refine ⟨b, ?_, fun i e hi => ?_, one_of ams_own, sep_of ams_own⟩
  · unfold L2.start
    rw [List.length_append, List.length_append, List.length_map, List.length_replicate, List.length_replicate, hl.1, zl]
  · unfold L2.start
    by_cases hlt : i < ms.length
    · rw [List.getElem?_append_left (by rw [zl]; exact hlt)] at hi
      rw [List.getElem?_append_left (by rw [List.length_map, hl.1]; exact hlt)]
      exact ams_env a i e hi
    · rw [List.getElem?_append_right (by rw [zl]; omega), List.getElem?_replicate] at hi
      split at hi
      · cases hi
        trivial
      · cases hi
theorem body_M {N : List Str} {t : TS} {vs : List V} {H : Hp} {Q : VK} {E : XK} (h : spM K ms m vs H Q E) (hb : ∀ ds, Mds ms ds → ∃ ρ, List.zipWith Md.en ms ds ++ List.replicate (N.length - ms.length) .no = ρ ∧ G K (fnR false) t ρ (m ds) CF) :
    t ⟨fun _ H' => Q .non H', Q, fun _ _ => False, fun _ _ => False⟩ (start N vs) H := by
  obtain ⟨B, W, ds, P, b, a, w, q⟩ := h
  obtain ⟨ρ, rfl, hb⟩ := hb ds a.mds
  have nOw : ∀ x, ¬ Own (start N vs) (List.zipWith Md.en ms ds ++ List.replicate (N.length - ms.length) .no) x := not_own ams_own
  exact hb ⟨fun _ => P .non, P, fun _ => False, fun _ => False, false⟩ ⟨rfl, fun _ z => z⟩ w B B W H _ (start_env b a) ⟨fun _ m => m, fun _ m => .inl m, fun a _ => nOw a, b.sub⟩ _ (fun ρ' σ' H' B' g _ _ p => q _ _ H' (g.gs nOw) .non p) (fun v d H' g s p => q v d H' (g.gs nOw) s p) (fun _ _ _ _ _ _ _ z => z.elim) fun _ _ _ _ _ _ _ z => z.elim
theorem body_MN {N : List Str} {t : TS} {vs : List V} {H : Hp} {Q : VK} {E : XK} (h : spMN K ms m vs H Q E) (hb : ∀ ds, Mds ms ds → ∃ ρ, List.zipWith Md.en ms ds ++ List.replicate (N.length - ms.length) .no = ρ ∧ G K (frR true) t ρ (m ds) CF) :
    t ⟨fun _ H' => Q .non H', Q, fun _ _ => False, fun _ _ => False⟩ (start N vs) H := by
  obtain ⟨B, W, ds, P, b, a, w, q⟩ := h
  obtain ⟨ρ, rfl, hb⟩ := hb ds a.mds
  have nOw : ∀ x, ¬ Own (start N vs) (List.zipWith Md.en ms ds ++ List.replicate (N.length - ms.length) .no) x := not_own ams_own
  refine hb ⟨fun _ => False, P, fun _ => False, fun _ => False, true⟩ rfl w B B W H _ (start_env b a) ⟨fun _ m => m, fun _ m => .inl m, fun a _ => nOw a, b.sub⟩ _ (fun _ _ _ _ _ _ _ z => z.elim) (fun v d H' g s p => ?_) (fun _ _ _ _ _ _ _ z => z.elim) fun _ _ _ _ _ _ _ z => z.elim
  obtain ⟨x, ex, n, k⟩ := s
  rw [ex]
  exact q x d H' (g.gs nOw) (n.elim (fun o => (nOw x o).elim) id) k p
end
end VB
namespace VB
open PySem PySem.Spec PyProof.Rows L2
section
variable {X : Cx} {K : PySem.W.Frag} {a b : Expr} {rest : List Expr} {pos : Pos} {ta tb : TE}
theorem kNotT (h : X.K = K) (ha : PE X a ta) : PE X (.UnaryOp .Not a pos) (tNotT K ta) := h ▸ pe_notT ha
end
section
variable {K : PySem.W.Frag} {ρ : List En} {ta tb te : TE} {ma mb md : M D} {tl : TA} {A : MA} {α : Type} {R : Po → Prop} {C : Po → α → Prop} {u : TS} {i : Nat} {d : D} {k : D → M α} {lp : Bool}
theorem RE.negC {n : Int} : RE K (tUn (rU fun i => .int (-i)) (tC (.int n))) ρ (.ret (.int (-n))) := fun P p => EV.neg (EV.int ⟨n, rfl, p⟩)
def D.neg (x : D) : M D := x.asI.bind fun i => .ret (.int (-i))
theorem RE.neg (h : RE K ta ρ ma) : RE K (tUn (rU fun i => .int (-i)) ta) ρ (ma.bind D.neg) := fun P w => EV.neg (EV.imp (h _ (wp_bind.mp w)) fun x w1 => by
  obtain ⟨i, rfl, p⟩ := asI_at (wp_bind.mp w1)
  exact ⟨i, rfl, p⟩)
def D.strs : List D → Option (List Str)
  | [] => some []
  | .str z :: ds => (D.strs ds).map fun zs => z :: zs
  | _ :: _ => none
theorem strs_at : ∀ {ds : List D} {zs : List Str}, D.strs ds = some zs → ds = zs.map D.str
  | [], _, e => by cases e; rfl
  | .str z :: ds, zs, e => by
    unfold D.strs at e
    cases h : D.strs ds with
    | none =>
      rw [h] at e
      cases e
    | some cs =>
      rw [h] at e
      cases e
      rw [strs_at h]
      rfl
theorem strs_map (zs : List Str) : D.strs (zs.map D.str) = some zs := by
  induction zs with
  | nil => rfl
  | cons b bs ih =>
    show (D.strs (bs.map D.str)).map _ = _
    rw [ih]
    rfl
def D.join (x y : D) : M D := match x with
  | .str a => match y with
    | .lst ds => match D.strs ds with
      | some ys => if (ys.map (·.length)).sum + ys.length * a.length ≤ 16777216 then .ret (.str (Txt.join a ys)) else .fail
      | none => .fail
    | _ => .fail
  | _ => .fail
theorem RE.join (ha : RR K ta ρ ma) (hb : RR K tb ρ mb) : RE K (tM1 (rJoinK K) ta tb) ρ (ma.bind fun x => mb.bind fun y => D.join x y) := fun P w B W H σ e Q q =>
  ha _ (wp_bind.mp w) B W H σ e _ fun v x H1 g1 s1 w1 => by
    have w2 := wp_bind.mp w1
    cases x with
    | str a =>
      cases s1
      refine ⟨⟨a, rfl⟩, hb _ w2 B W H1 σ (e.gs g1) _ fun u y H2 g2 s2 w3 => ?_⟩
      cases y with
      | lst ds =>
        have w3 : wp (match D.strs ds with | some ys => if (ys.map (·.length)).sum + ys.length * a.length ≤ 16777216 then M.ret (D.str (Txt.join a ys)) else .fail | none => .fail) P := w3
        cases ez : D.strs ds with
        | none =>
          rw [ez] at w3
          exact w3.elim
        | some ys =>
          rw [ez] at w3
          obtain ⟨h1, w4⟩ := wp_ite w3
          obtain ⟨c, xs, rfl, _, h, r⟩ := s2
          rw [strs_at ez] at r
          rw [r.strs] at h
          exact ⟨a, c, ys, rfl, rfl, Or.inl (SqL.of h), h1, q _ _ H2 (g1.trans g2) (.str _) w4⟩
      | _ => exact w3.elim
    | _ => exact (wp_false (wp_mono w2 fun y z => z)).elim
def D.split (x y : D) : M D := match x with
  | .str a => match y with
    | .str b => if (b.length == 0) = false ∧ a.length + 2 ≤ 16777216 then .ret (.lst ((Txt.split a b).map D.str)) else .fail
    | _ => .fail
  | _ => .fail
theorem RE.split (ha : RR K ta ρ ma) (hb : RR K tb ρ mb) : RE K (tM1 rSplitK ta tb) ρ (ma.bind fun x => mb.bind fun y => D.split x y) := fun P w B W H σ e Q q =>
  ha _ (wp_bind.mp w) B W H σ e _ fun v x H1 g1 s1 w1 => by
    have w2 := wp_bind.mp w1
    cases x with
    | str a =>
      cases s1
      refine ⟨⟨a, rfl⟩, hb _ w2 B W H1 σ (e.gs g1) _ fun u y H2 g2 s2 w3 => ?_⟩
      cases y with
      | str b =>
        cases s2
        obtain ⟨h1, w4⟩ := wp_ite w3
        exact ⟨a, b, rfl, rfl, h1.1, by rw [sizeLine_eq]; exact h1.2, fun c na => q _ _ _ ((g1.trans g2).trans (Gs.new na)) (.lst (((e.gs g1).gs g2).bw.notNew na) upd_same SgA.ofStrs) w4⟩
      | _ => exact w3.elim
    | _ => exact (wp_false (wp_mono w2 fun y z => z)).elim
def D.zipM : List D → M (List D)
  | [.lst ds, .lst es] => .ret (D.zip ds es)
  | _ => .fail
theorem RI.zip (h : RAs K tl ρ A) : RI K lp (iBd K (iZip K tl)) ρ (A _ D.zipM) := fun P w B W H σ e R q => h _ _ _ w B W H σ e _ fun vs ds H1 g s w1 => by
  have e1 := e.gs g
  match ds, s, w1 with
  | [.lst ds, .lst es], .cons (.lst (a := a) (xs := xs) n1 h1 r1) (.cons (.lst (a := b) (xs := ys) n2 h2 r2) .nil), w1 =>
    refine ⟨a, b, xs, ys, rfl, SqL.of h1, SqL.of h2, fun bd => q _ _ H1 g (walkd_zip r1 r2 (fun H' k => SqL.of (k.kp a _ (fun m => n1 (e1.bw.sub _ m)) (fun u => n1 (e1.ownB u.2).1) h1)) (fun H' k => SqL.of (k.kp b _ (fun m => n2 (e1.bw.sub _ m)) (fun u => n2 (e1.ownB u.2).1) h2)) (bd a xs (.inl (SqL.of h1)))) w1⟩
end
end VB
namespace VB
open PySem PySem.Spec PyProof.Rows L2
/-- what an instance of a class is asked -/
structure ClsF (K : PySem.W.Frag) (C : Addr) : Prop where
  cl : Cls K C
  ca : PySem.W.findIn K (.ref C) "__class__" = some (some (.builtin "object.__class__"))
  cn : PySem.W.specialIn K (.builtin "object.__class__") "__get__" = some (some (.builtin "getset_descriptor.__get__"))
  ct : PySem.W.takesIn K (.builtin "object.__class__") = some true
  cm : PySem.W.mroIn K C (.type "object") = some true
def bts : List String := ["NoneType", "bool", "int", "str", "tuple", "list", "dict"]
def clsB (K : PySem.W.Frag) (C : Addr) : Bool :=
  (PySem.W.plainGet K C Str.empty && PySem.W.hasDictIn K C && (PySem.W.plainOver K C && decide (PySem.W.findIn K (.ref C) "__setattr__" = some (some (.builtin "object.__setattr__"))))) &&
  (decide (PySem.W.findIn K (.ref C) "__class__" = some (some (.builtin "object.__class__"))) && decide (PySem.W.specialIn K (.builtin "object.__class__") "__get__" = some (some (.builtin "getset_descriptor.__get__"))) &&
  (decide (PySem.W.takesIn K (.builtin "object.__class__") = some true) && decide (PySem.W.mroIn K C (.type "object") = some true)))
theorem clsB_ok {K : PySem.W.Frag} {C : Addr} (h : clsB K C = true) : ClsF K C := by
  unfold clsB at h
  simp only [Bool.and_eq_true, decide_eq_true_eq] at h
  exact ⟨⟨h.1.1.1, h.1.1.2, h.1.2.1, h.1.2.2⟩, h.2.1.1, h.2.1.2, h.2.2.1, h.2.2.2⟩
/-- the classes whose instances are met -/
structure KC (K : PySem.W.Frag) (Cs : List Addr) : Prop where
  cls : ∀ C ∈ Cs, ClsF K C
  ty1 : ∀ C ∈ Cs, ∀ n ∈ bts, PySem.W.kitOne K (.type n) (.ref C) = some false ∧ PySem.W.kitOne K (.ref C) (.type n) = some false ∧ PySem.W.notFirst K C (.type n) = true
  ty2 : ∀ C ∈ Cs, ∀ C' ∈ Cs, PySem.W.kitOne K (.ref C') (.ref C) = some (decide (C' = C)) ∧ PySem.W.notFirst K C (.ref C') = true
def kcB (K : PySem.W.Frag) (Cs : List Addr) : Bool := Cs.all (fun C => clsB K C) && (Cs.all fun C => (bts.all fun n => decide (PySem.W.kitOne K (.type n) (.ref C) = some false) && (decide (PySem.W.kitOne K (.ref C) (.type n) = some false) && PySem.W.notFirst K C (.type n))) &&
  Cs.all fun C' => decide (PySem.W.kitOne K (.ref C') (.ref C) = some (decide (C' = C))) && PySem.W.notFirst K C (.ref C'))
theorem kcB_ok {K : PySem.W.Frag} {Cs : List Addr} (h : kcB K Cs = true) : KC K Cs := by
  unfold kcB at h
  rw [Bool.and_eq_true_iff, List.all_eq_true, List.all_eq_true] at h
  obtain ⟨h1, h2⟩ := h
  refine ⟨fun C m => clsB_ok (h1 C m), fun C m n mn => ?_, fun C m C' m' => ?_⟩
  · have z := (Bool.and_eq_true_iff.mp (h2 C m)).1
    rw [List.all_eq_true] at z
    have z := z n mn
    simp only [Bool.and_eq_true, decide_eq_true_eq] at z
    exact ⟨z.1, z.2.1, z.2.2⟩
  · have z := (Bool.and_eq_true_iff.mp (h2 C m)).2
    rw [List.all_eq_true] at z
    have z := z C' m'
    simp only [Bool.and_eq_true, decide_eq_true_eq] at z
    exact z
theorem tyn_bts {d : D} {n : String} (e : d.tyn = some n) : n ∈ bts := by
  cases d <;> cases e <;> decide
/-- the type of what is met: data, or an instance of a known class -/
def D.kn (Cs : List Addr) (x : D) : Bool := match x with
  | .ins C _ _ => decide (C ∈ Cs)
  | x => x.tyn.isSome
def D.tyV (x : D) : Value := match x with
  | .ins C _ _ => .ref C
  | x => .type (x.tyn.getD "")
theorem kn_tyx {K : PySem.W.Frag} {Cs : List Addr} {B W : List Addr} {H : Hp} {v : V} {x : D} (k : KC K Cs) (h : x.kn Cs = true) (s : Sr K B W H v x) : TyX K H v x.tyV := by
  have go : ∀ {n}, x.tyn = some n → TyX K H v (.type n) := fun e => s.tyx e
  cases x with
  | ins C ks ds =>
    obtain ⟨a, dx, fs, rfl, _, h1, _, _⟩ := s
    have c := k.cls C (of_decide_eq_true h)
    exact .base (.ins h1 c.cl c.ca c.cn c.ct c.cm)
  | ty n => cases h
  | raw a => cases h
  | non => exact go rfl
  | bl b => exact go rfl
  | int b => exact go rfl
  | str b => exact go rfl
  | tup b => exact go rfl
  | lst b => exact go rfl
  | dic b c => exact go rfl
  | dit b c => cases h
  | din _ _ _ _ => cases h
  | etup => exact go rfl
/-- isinstance(x, C) -/
def D.isiO (Cs : List Addr) (C : Addr) (x : D) : Bool := match x with
  | .ins C' _ _ => decide (C' = C)
  | _ => false
theorem kit_own {K : PySem.W.Frag} {Cs : List Addr} {x : D} {C : Addr} (k : KC K Cs) (hC : C ∈ Cs) (h : x.kn Cs = true) : PySem.W.kitOne K x.tyV (.ref C) = some (x.isiO Cs C) := by
  cases x with
  | ins C' ks ds => exact (k.ty2 C hC C' (of_decide_eq_true h)).1
  | ty n => cases h
  | raw a => cases h
  | non => exact (k.ty1 C hC _ (tyn_bts (d := .non) rfl)).1
  | bl b => exact (k.ty1 C hC _ (tyn_bts (d := .bl b) rfl)).1
  | int b => exact (k.ty1 C hC _ (tyn_bts (d := .int b) rfl)).1
  | str b => exact (k.ty1 C hC _ (tyn_bts (d := .str b) rfl)).1
  | tup b => exact (k.ty1 C hC _ (tyn_bts (d := .tup b) rfl)).1
  | lst b => exact (k.ty1 C hC _ (tyn_bts (d := .lst b) rfl)).1
  | dic b c => exact (k.ty1 C hC _ (tyn_bts (d := .dic b c) rfl)).1
  | dit b c => cases h
  | din _ _ _ _ => cases h
  | etup => exact (k.ty1 C hC _ (tyn_bts (d := .etup) rfl)).1
section
variable {K : PySem.W.Frag} {ρ : List En} {ta tb te tv : TE} {ma mb md : M D} {tl : TA} {A : MA} {α : Type} {R : Po → Prop} {C : Addr} {u : TS} {i : Nat} {d : D} {ms ms2 : List Md} {l : List D → M D} {E : XK} {f nm : Str} {Cs : List Addr}
theorem RE.cls : RE K (tC (.ref C)) ρ (.ret (.raw C)) := fun P p B W H σ e Q q => q _ _ H Gs.refl (.raw C) p
/-- x is an instance of C -/
def D.instK {α : Type} (C : Addr) (x : D) (k : List Str → List D → M α) : M α := match x with
  | .ins C' ks ds => if C' = C then k ks ds else .fail
  | _ => .fail
theorem instK_at {α : Type} {x : D} {k : List Str → List D → M α} {P : α → Prop} (w : wp (D.instK C x k) P) : ∃ ks ds, x = .ins C ks ds ∧ wp (k ks ds) P := by
  cases x with
  | ins C' ks ds =>
    obtain ⟨h, w2⟩ := wp_ite (show wp (if C' = C then k ks ds else .fail) P from w)
    subst h
    exact ⟨ks, ds, rfl, w2⟩
  | _ => exact w.elim
def D.getF (C : Addr) (f : Str) (x : D) : M D := D.instK C x fun ks ds => M.ofD ((ks.zip ds).lookup f)
theorem RE.fld (hc : Cls K C) (hn : NoAttr K C f) (h : RR K te ρ md) : RE K (tFld K te f) ρ (md.bind (D.getF C f)) := fun P w B W H σ e Q q =>
  h _ (wp_bind.mp w) B W H σ e _ fun v x H1 g1 s1 w1 => by
    obtain ⟨ks, ds, rfl, w2⟩ := instK_at w1
    obtain ⟨d, ed, p⟩ := ofD_at w2
    obtain ⟨a, dx, fs, rfl, _, h1, ek, r⟩ := s1
    obtain ⟨u, lu, su⟩ := fld_get ek r ed
    exact ⟨a, C, dx, fs, u, rfl, h1, hc, hn, lu, q u d H1 g1 su p⟩
/-- a method -/
def D.mth {α : Type} (C : Addr) (nm : Str) (x : D) (k : M α) : M α := D.instK C x fun ks _ => if nm ∉ ks then k else .fail
theorem mth_at {α : Type} {x : D} {k : M α} {P : α → Prop} (w : wp (D.mth C nm x k) P) : ∃ ks ds, x = .ins C ks ds ∧ nm ∉ ks ∧ wp k P := by
  obtain ⟨ks, ds, e, w⟩ := instK_at w
  obtain ⟨h, w⟩ := wp_ite w
  exact ⟨ks, ds, e, h, w⟩
theorem RE.meth (h : RR K te ρ md) (hA : RAm K tl ρ ms A) : RE K (tMeth C nm (spM K (.bor :: ms) l) [] E te tl) ρ (md.bind fun x => D.mth C nm x (A D fun ys => l (x :: ys))) := fun P w B W H σ e Q q =>
  h _ (wp_bind.mp w) B W H σ e _ fun v x H1 g1 s1 w1 => by
    obtain ⟨ks, ds, rfl, hm, w2⟩ := mth_at w1
    obtain ⟨a, dx, fs, ev, _, h1, ek, _⟩ := id s1
    subst ev
    refine ⟨a, dx, fs, rfl, h1, fld_none ek hm, hA D _ P w2 B W H1 σ (e.gs g1) _ fun vs es H2 g2 s2 w3 => ⟨B, W, _, P, ((e.gs g1).gs g2).bw, .cons (show Am K B W H2 _ .bor _ from s1.gs e.bw.sub g2) (by rw [List.append_nil]; exact s2), w3, fun v d H3 g3 s p => q v d H3 ((g1.trans g2).trans g3) s p⟩⟩
theorem RN.meth (h : RR K te ρ md) (hA : RAm K tl ρ ms A) : RN K (tMeth C nm (spMN K (.bor :: ms) l) [] E te tl) ρ (md.bind fun x => D.mth C nm x (A D fun ys => l (x :: ys))) := fun P w B W H σ e Q q =>
  h _ (wp_bind.mp w) B W H σ e _ fun v x H1 g1 s1 w1 => by
    obtain ⟨ks, ds, rfl, hm, w2⟩ := mth_at w1
    obtain ⟨a, dx, fs, ev, _, h1, ek, _⟩ := id s1
    subst ev
    refine ⟨a, dx, fs, rfl, h1, fld_none ek hm, hA D _ P w2 B W H1 σ (e.gs g1) _ fun vs es H2 g2 s2 w3 => ⟨B, W, _, P, ((e.gs g1).gs g2).bw, .cons (show Am K B W H2 _ .bor _ from s1.gs e.bw.sub g2) (by rw [List.append_nil]; exact s2), w3, fun v d H3 g3 n s p => q v d H3 ((g1.trans g2).trans g3) (g1.gw.free _ (g2.gw.free _ n)) s p⟩⟩
/-- no argument that is only read is the object x itself -/
def Md.isBor : Md → Bool
  | .bor => true
  | _ => false
def NoX (x : Addr) : List Md → List V → List D → Prop
  | m :: ms, v :: vs, d :: ds => (m.isBor = true → d.isRoot = true → v ≠ .ref x) ∧ NoX x ms vs ds
  | _, _, _ => True
theorem nox_of {B W : List Addr} {H : Hp} {x : Addr} (n : H x = none) : ∀ {ms vs ds}, AmA K B W H ms vs ds → NoX x ms vs ds
  | _, _, _, .nil => trivial
  | m :: ms, v :: vs, d :: ds, .cons h r => ⟨fun hb hr e => (by
      subst e
      cases m with
      | bor => exact (show Sr K B W H (.ref x) _ from h).kn hr n
      | dat => exact nomatch hb
      | bag => exact nomatch hb), nox_of (ms := ms) (vs := vs) (ds := ds) n r⟩
theorem nox_env {B W : List Addr} {H : Hp} {x : Addr} : ∀ {ms vs ds}, AmA K B W H ms vs ds → NoX x ms vs ds → ∀ (i : Nat) (d : D), (List.zipWith Md.en ms ds)[i]? = some (.bor d) → d.isRoot = true → vs[i]? ≠ some (.ref x)
  | _, _, _, .nil, _, i, d, h, _ => by simp at h
  | m :: ms, v :: vs, d :: ds, .cons a r, nx, 0, d', h, hr => fun e => by
    cases e
    cases m with
    | bor =>
      cases h
      exact nx.1 rfl hr rfl
    | dat => cases h
    | bag => cases d <;> cases h
  | m :: ms, v :: vs, d :: ds, .cons a r, nx, i + 1, d', h, hr => nox_env (ms := ms) (vs := vs) (ds := ds) r nx.2 i d' h hr
/-- an __init__: m says what the new instance is -/
def spMI (K : PySem.W.Frag) (C : Addr) (ms : List Md) (m : List D → M D) : Sp := fun vs H Q _ => ∃ (B W : List Addr) (ds : List D) (P : D → Prop) (x dx : Addr) (ws : List V), vs = .ref x :: ws ∧ H x = some (.ins C dx []) ∧ x ∉ B ∧ (∀ b ∈ W, b ∈ B) ∧ BW (x :: B) W H ∧
  AmA K (x :: B) W H ms ws ds ∧ NoX x ms ws ds ∧ wp (m ds) P ∧ ∀ d H', (∀ a o, a ∉ W → a ≠ x → H a = some o → H' a = some o) → (∀ a, H' a = none → H a = none) → (∀ a xs, H a = some (.tup xs) → H' a = some (.tup xs)) → (∀ b, b ∈ W → ∀ c ns, c ∉ W → c ≠ x → BagC H b c ns → BagC H' b c ns) → OwAt K (x :: B) H' x d → P d → Q .non H'
theorem spMI_len {m : List D → M D} {vs : List V} {H : Hp} {Q : VK} {E : XK} (h : spMI K C ms m vs H Q E) : vs.length = ms.length + 1 := by
  obtain ⟨_, _, _, _, _, _, _, rfl, _, _, _, _, a, _⟩ := h
  show _ + 1 = _
  rw [a.len.1]
theorem AmA.out {B W : List Addr} {H : Hp} {p : Addr} {o : HO} (n : H p = none) (hW : ∀ a ∈ W, a ∈ B) : ∀ {ms vs ds}, AmA K B W H ms vs ds → AmA K (p :: B) W (upd H p o) ms vs ds
  | _, _, _, .nil => .nil
  | .dat :: _, _, _, .cons h r => .cons (show Sg K _ _ _ _ from Sg.out n h) (r.out n hW)
  | .bor :: _, _, _, .cons h r => .cons (show Sr K _ _ _ _ _ from Sr.mv (fun a o _ _ z => by
      rw [upd_ne (ne_of_none z n)]
      exact z) (fun _ _ r => r.out n) (fun z => z.out n) h) (r.out n hW)
  | .bag :: _, _, _, .cons h r => by
    obtain ⟨b, e1, e2, m, c, ns, nc, hb⟩ := h
    refine .cons ⟨b, e1, e2, m, c, ns, fun z => ?_, hb.new n⟩ (r.out n hW)
    rcases List.mem_cons.mp z with q | q
    · exact ne_of_none hb.2.1 n q
    · exact nc q
theorem RN.makeD {dvs : List V} {dds : List D} (h : RAm K tl ρ ms A) (hd : Dfs K ms2 dvs dds) : RN K (tMake C (spMI K C (ms ++ ms2) l) dvs E tl) ρ (A D fun ds => l (ds ++ dds)) := fun P w B W H σ e Q q =>
  h D _ P w B W H σ e _ fun vs es H1 g1 s1 w1 x dx nx ndx ne => by
    have e1 := e.gs g1
    have xB : x ∉ B := e1.bw.notNew nx
    have nx1 : upd H1 dx (.own x) x = none := by
      rw [upd_ne ne.symm]
      exact nx
    have g2 : Gs W H1 (upd (upd H1 dx (.own x)) x (.ins C dx [])) := (Gs.new ndx).trans (Gs.new nx1)
    have g := g1.trans g2
    have s2 := (s1.append (hd B W H1)).gs e1.bw.sub (Gs.new (p := dx) (o := .own x) ndx)
    have e3 : EnvOk K (x :: B) W (upd (upd H1 dx (.own x)) x (.ins C dx [])) σ ρ := (e1.gs (Gs.new ndx)).out nx1
    refine ⟨B, W, es ++ dds, P, x, dx, vs ++ dvs, rfl, upd_same, xB, e1.bw.sub, e3.bw, s2.out nx1 e1.bw.sub, nox_of nx1 s2, w1, fun d H2 hk hf ht hg k p => ⟨rfl, ?_⟩⟩
    have nH : H x = none := g1.gw.free x nx
    refine q x d H2 ⟨⟨fun a o na ea => ?_, fun a ea => g.gw.free a (hf a ea), fun a xs ea => ht a xs (g.gw.tups a xs ea)⟩, fun b mb c ns nc hB => ?_⟩ nH k p
    · refine hk a o na (fun z => ?_) (g.gw.keep a o na ea)
      rw [z, nH] at ea
      cases ea
    · refine hg b mb c ns nc (fun z => ?_) (g.bag b mb c ns nc hB)
      have := hB.2.1
      rw [z, nH] at this
      cases this
theorem dfs_nil : Dfs K [] [] [] := fun _ _ _ => .nil
theorem RN.make (h : RAm K tl ρ ms A) : RN K (tMake C (spMI K C ms l) [] E tl) ρ (A D l) := by
  have z := RN.makeD (C := C) (l := l) (E := E) h (dfs_nil (K := K))
  simp only [List.append_nil] at z
  exact z
/-- the end of an __init__: what the object is -/
def CI (x : Addr) (P : Po) (d : D) : Prop := ∀ ρ' : List En, ρ'[0]? = some (.own ⟨some x, d⟩) → P.nx ρ'
/-- self.f = e -/
def D.setF {α : Type} (C : Addr) (f : Str) (d v : D) (k : D → M α) : M α := D.instK C d fun ks ds => if f ∉ ks ∧ ks.length < 1000 then k (.ins C (ks ++ [f]) (ds ++ [v])) else .fail
theorem G.fld {CC : Po → α → Prop} {kk : D → M α} {tg : Option Addr} (hc : Cls K C) (hn : NoAttr K C f) (hi : ρ[i]? = some (.own ⟨tg, d⟩)) (he : RE K te ρ md) (h : ∀ d', G K R u (ρ.set i (.own ⟨tg, d'⟩)) (kk d') CC) :
    G K R (tSeq (sFld K (tVar i) te f) u) ρ (md.bind fun v => D.setF C f d v kk) CC := fun P r w => by
  obtain ⟨ks, ds, rfl, hf⟩ : ∃ ks ds, d = .ins C ks ds ∧ (f ∉ ks ∧ ks.length < 1000) := wp_use (wp_bind.mp w) fun v w1 => by
    obtain ⟨ks, ds, e, w2⟩ := instK_at w1
    exact ⟨ks, ds, e, (wp_ite w2).1⟩
  refine ST.seq (ST.fld hi hc hn hf.1 hf.2 (EV.imp (he _ (wp_bind.mp w)) fun v w1 ρ' e => ?_))
  subst e
  obtain ⟨ks', ds', e, w2⟩ := instK_at (show wp (D.instK C (.ins C ks ds) fun ks ds => if f ∉ ks ∧ ks.length < 1000 then kk (.ins C (ks ++ [f]) (ds ++ [v])) else .fail) (CC P) from w1)
  cases e
  exact h _ P r (wp_ite w2).2
theorem G.finI {x : Addr} (h : ρ[0]? = some (.own ⟨some x, d⟩)) : G K R tNext ρ (.ret d) (CI x) := fun P r p => ST.next (p ρ h)
theorem body_MI {N : List Str} {t : TS} {vs : List V} {H : Hp} {Q : VK} {E : XK} {m : List D → M D} (h : spMI K C ms m vs H Q E) (hN : ms.length + 1 ≤ N.length)
    (hb : ∀ ds x, Mds ms ds → ∃ ρ, En.own ⟨some x, .ins C [] []⟩ :: (List.zipWith Md.en ms ds ++ List.replicate (N.length - 1 - ms.length) .no) = ρ ∧ G K (fun P => P.fr = false) t ρ (m ds) fun P d => ∀ ρ', ρ'[0]? = some (.own ⟨some x, d⟩) → P.nx ρ') :
    t ⟨fun _ H' => Q .non H', Q, fun _ _ => False, fun _ _ => False⟩ (start N vs) H := by
  obtain ⟨B, W, ds, P, x, dx, ws, rfl, hx, xB, wB, bw, a, nx, w, q⟩ := h
  obtain ⟨ρ, rfl, hb⟩ := hb ds x a.mds
  have hl := a.len
  have zl : (List.zipWith Md.en ms ds).length = ms.length := by rw [List.length_zipWith, hl.2, Nat.min_self]
  have hst : start N (.ref x :: ws) = some (.ref x) :: (ws.map some ++ List.replicate (N.length - 1 - ms.length) none) := by
    unfold L2.start
    rw [List.map_cons, List.length_cons, hl.1]
    rw [show N.length - (ms.length + 1) = N.length - 1 - ms.length by omega]
    rfl
  have nO := ams_own (ms := ms) (ds := ds) (n := N.length - 1 - ms.length)
  have own0 : ∀ a, Own (start N (.ref x :: ws)) (En.own ⟨some x, .ins C [] []⟩ :: (List.zipWith Md.en ms ds ++ List.replicate (N.length - 1 - ms.length) .no)) a ↔ a = x := fun a => by
    rw [hst]
    constructor
    · rintro ⟨i, d, h1, h2⟩
      cases i with
      | zero =>
        cases h2
        rfl
      | succ i =>
        have := List.all_eq_true.mp nO _ (List.mem_of_getElem? (show _ = some (En.own d) from h1))
        cases this
    · rintro rfl
      exact ⟨0, _, rfl, rfl⟩
  have bx : ¬ Bor (start N (.ref x :: ws)) (En.own ⟨some x, .ins C [] []⟩ :: (List.zipWith Md.en ms ds ++ List.replicate (N.length - 1 - ms.length) .no)) x := by
    rw [hst]
    rintro ⟨i, d, h1, hr, h2⟩
    cases i with
    | zero => cases h1
    | succ i =>
      have h1 : (List.zipWith Md.en ms ds ++ List.replicate (N.length - 1 - ms.length) .no)[i]? = some (.bor d) := h1
      have h2 : (ws.map some ++ List.replicate (N.length - 1 - ms.length) none)[i]? = some (some (.ref x)) := h2
      have hi : i < ms.length := by
        rcases Nat.lt_or_ge i ms.length with z | z
        · exact z
        · rw [List.getElem?_append_right (by rw [zl]; exact z)] at h1
          have := (List.mem_replicate.mp (List.mem_of_getElem? h1)).2
          cases this
      rw [List.getElem?_append_left (by rw [zl]; exact hi)] at h1
      rw [List.getElem?_append_left (by rw [List.length_map, hl.1]; exact hi)] at h2
      refine nox_env a nx i d h1 hr ?_
      rw [List.getElem?_map] at h2
      cases ew : ws[i]? with
      | none =>
        rw [ew] at h2
        cases h2
      | some v =>
        rw [ew] at h2
        cases h2
        rfl
  refine hb ⟨fun ρ' => ∃ d, ρ'[0]? = some (.own ⟨some x, d⟩) ∧ P d, fun _ => False, fun _ => False, fun _ => False, false⟩ rfl (wp_mono w fun d p ρ' h0 => ⟨d, h0, p⟩) B (x :: B) W H _ ⟨bw, ?_, fun i en hi => ?_, fun i j d1 d2 a h1 h2 h3 h4 => ?_, fun a o b => ?_⟩
    ⟨fun a m => List.mem_cons_of_mem _ m, fun a m => ?_, fun a m o => ?_, wB⟩ _ (fun ρ' σ' H' B' g e' f' pp => ?_) (fun _ _ _ _ _ z => z.elim) (fun _ _ _ _ _ _ _ z => z.elim) fun _ _ _ _ _ _ _ z => z.elim
  · rw [hst]
    simp [hl.1, zl]
  · rw [hst]
    cases i with
    | zero =>
      cases hi
      exact ⟨x, rfl, List.mem_cons_self .., fun m => xB (wB x m), (fun b z => (Option.some.inj z).symm), dx, [], hx, rfl, .nil⟩
    | succ i =>
      have hi : (List.zipWith Md.en ms ds ++ List.replicate (N.length - 1 - ms.length) .no)[i]? = some en := hi
      show EnOk K (x :: B) W H ((ws.map some ++ List.replicate (N.length - 1 - ms.length) none)[i]?) en
      by_cases hlt : i < ms.length
      · rw [List.getElem?_append_left (by rw [zl]; exact hlt)] at hi
        rw [List.getElem?_append_left (by rw [List.length_map, hl.1]; exact hlt)]
        exact ams_env a i en hi
      · rw [List.getElem?_append_right (by rw [zl]; omega), List.getElem?_replicate] at hi
        split at hi
        · cases hi
          trivial
        · cases hi
  · have z : ∀ (k : Nat) (d : Ow), (En.own ⟨some x, .ins C [] []⟩ :: (List.zipWith Md.en ms ds ++ List.replicate (N.length - 1 - ms.length) .no))[k]? = some (.own d) → k = 0 := fun k d hk => by
      cases k with
      | zero => rfl
      | succ k =>
        have := List.all_eq_true.mp nO _ (List.mem_of_getElem? (show _ = some (En.own d) from hk))
        cases this
    rw [z i d1 h1, z j d2 h2]
  · rw [(own0 a).mp o] at b
    exact bx b
  · rcases List.mem_cons.mp m with z | z
    · exact .inr ((own0 a).mpr z)
    · exact .inl z
  · exact xB ((own0 a).mp o ▸ m)
  · obtain ⟨d, h0, pp⟩ := pp
    obtain ⟨a, ea, aB, aW, tg, k⟩ := e'.sl 0 _ h0
    have ax : x = a := tg x rfl
    subst ax
    refine q d H' (fun b o nw nx e => g.keep b o nw (fun z => nx ((own0 b).mp z)) e) g.free g.tups (fun b m c ns nc nx h => g.bag b m c ns nc (fun z => nx ((own0 c).mp z)) h) (k.mv (fun _ z => z) fun _ _ r => r.less fun b m => ?_) pp
    rcases List.mem_cons.mp m with z | z
    · rw [z]
      exact aB
    · exact f'.fb b z
end
end VB
namespace VB
open PySem PySem.Spec PyProof.Rows L2
section
variable {prog : Program} {w : World} {A : Around} {E : Value → Shared → Prop} {s : Shared} {K : PySem.W.Frag} {x C L f : Addr} {ox : Obj} {od : Option Obj} {b tb : Value}
open PySem.W Builtin in
theorem ne_K {Q : Value → Shared → Prop} (hu : A.units < cLine) (hu1 : A.in1.units < cLine) (X : K.In s.heap) (I : InstAt s.heap x ox C od) (hb : Looks (model prog w) s.heap (typeOf b) tb) (hn : notFirst K C tb = true)
    (hs : findIn K (.ref C) "__ne__" = some (some (.builtin "object.__ne__"))) (hm : mroIn K C (.type "object") = some true) (he : findIn K (.ref C) "__eq__" = some (some (.ref f))) (hf : isFn K (.ref f) = true)
    (h : wpAny (model prog w) A.in1 (call (.ref f) [.ref x, b]) (fun v s' => ∃ k, v = .bool k ∧ Q (.bool (!k)) s') E s) : wpAny (model prog w) A (richCompare .NotEq (.ref x) b) Q E s := by
  have hi : Looks (model prog w) s.heap (isInstance (.ref x) (.type "object")) true := I.type.andThen (looks_mroIn X hm)
  have fin : wpAny (model prog w) A (call (.builtin "object.__ne__") ([.ref x] ++ [b]) >>= fun v => pure (some v)) (fun r s' => ∃ v, r = some v ∧ Q v s' ∧ v ≠ .notImplemented) E s := by
    refine wpAny_bind (wpAny_call (codeAny_call_builtin PySem.F.cmp_object.ne.plain PySem.F.cmpEntry_ne (PySem.W.check_slot PySem.F.cmpKind_ne PySem.F.cmpSplit_ne hi (PySem.F.cmpArgs_ne _ _) ?_)))
    unfold Builtin.«object.__ne__»
    refine wpAny_bind (m := slotArgs _ _ _) (wpAny_pure ?_)
    refine wpAny_bind (wpAny_cRoomFor hu1 ?_)
    refine wpAny_bind (m := callSpecialIfBound? (.ref x) (Str.ofString "__eq__") [b]) (ifBound_K X I he hf (wpAny_mono h (fun v s' z => ?_) fun _ _ e => e))
    obtain ⟨k, rfl, q⟩ := z
    refine wpAny_bind (wpAny_of_eq (a := k) (by rfl) ?_)
    exact wpAny_pure (wpAny_pure ⟨_, rfl, q, fun z => nomatch z⟩)
  have one : wpAny (model prog w) A (tryCompare (.ref x) "__ne__" b) (fun r s' => ∃ v, r = some v ∧ Q v s') E s := by
    unfold tryCompare
    refine wpAny_bind (m := callSpecialIfBound? (.ref x) "__ne__" [b]) ?_
    simp only [callSpecialIfBound?, bindSpecialIfBound?]
    refine wpAny_holding (wpAny_bind (wpAny_bind (wpAny_bind (I.type.here ((looks_findIn X hs).here ?_)))))
    simp only [PySem.F.cmp_object.ne.bind]
    refine wpAny_bind (wpAny_askSetting (wpAny_ite ?_))
    have fin2 : wpAny (model prog w) A (call (.builtin "object.__ne__") ([.ref x] ++ [b]) >>= fun v => pure (some v)) (fun r s' => wpAny (model prog w) A (match r with | some .notImplemented | none => pure none | some v => pure (some v)) (fun r s' => ∃ v, r = some v ∧ Q v s') E s') E s := wpAny_mono fin (fun r s' z => by
      obtain ⟨v, rfl, q, nv⟩ := z
      cases v <;> first | exact absurd rfl nv | exact wpAny_pure ⟨_, rfl, q⟩) fun _ _ z => z
    split
    · exact wpAny_bind (wpAny_pure (wpAny_pure fin2))
    · exact wpAny_tryCatch (wpAny_bind (wpAny_pure (wpAny_pure fin2)))
  unfold richCompare
  simp only [oneThing_ref]
  refine wpAny_holding (wpAny_bind (wpAny_cRoomFor hu ?_))
  refine wpAny_bind (I.type.here (wpAny_bind (hb.here ?_)))
  split
  · rename_i q
    have e : subIn K tb (.ref C) = some false := by
      rcases Bool.or_eq_true_iff.mp hn with e | e
      · rw [beq_iff_eq.mp e] at q; simp at q
      · exact beq_iff_eq.mp e
    refine wpAny_bind ((looks_subIn X e).here ?_)
    simp only [Bool.false_eq_true, if_false]
    refine wpAny_bind (wpAny_mono one (fun r s' z => ?_) fun _ _ e => e)
    obtain ⟨v, rfl, hq⟩ := z
    exact wpAny_pure hq
  · refine wpAny_bind (wpAny_pure ?_)
    simp only [Bool.false_eq_true, if_false]
    refine wpAny_bind (wpAny_mono one (fun r s' z => ?_) fun _ _ e => e)
    obtain ⟨v, rfl, hq⟩ := z
    exact wpAny_pure hq
end
section
variable {X : Cx} {CX : CXT} {pins : List (Addr × Obj)} {σ : L2.St} {H : Hp} {s : Shared} {C g f dx a : Addr} {fs : List (Str × V)} {k : Nat} {fd : FuncData} {ps : List Str} {sp : Sp} {E : XK}
theorem run_atF {A : Around} {Q : VK} {us : List Value} {ws : List V} (F : FnOk X.prog X.w X.K X.mg X.base CX k f fd ps sp) (hr : Room k A) (e0 : Env0 X.prog X.w X.K X.mg X.base A X.stack s H) (hb : Binds X.K fd ps []) (hx : Passes CX X E)
    (I : Inv X pins σ H s) (r : Vals ws us) (h : sp ws H Q E) :
    codeAny (model X.prog X.w) A (.call (.ref f) ⟨us, []⟩) (fun r s' => match r with | .ok (.ret v) => EP X pins σ Q v s' | .ok _ => False | .error e => X.xe e s') s := by
  have hl : (us ++ []).length = ps.length := by
    rw [List.append_nil, ← r.length]
    exact F.len _ _ _ _ h
  refine codeAny_mono (F.run A X.stack s H ⟨us, []⟩ (us ++ []) ws Q E hr e0 (hb s us I.kIn hl) (by rw [List.append_nil]; exact r) h) fun r s' hq => ?_
  cases r with
  | error e => exact hx pins σ H s e s' I hq
  | ok fl =>
    cases fl with
    | ret u => exact I.after hq
    | next => exact False.elim hq
    | brk => exact False.elim hq
    | cont => exact False.elim hq
theorem ins_inst (I : Inv X pins σ H s) (ea : H a = some (.ins C dx fs)) : ∃ ox od, PySem.W.InstAt s.heap a ox C od := by
  obtain ⟨mA, O, _, _, _, _⟩ := ins_get I.hok ea
  obtain ⟨od, J, _⟩ := O.look
  exact ⟨_, _, J⟩
/-- x != y, x an instance of the class at C with an own == -/
def rNe (K : PySem.W.Frag) (C : Addr) (sp : Sp) (E : XK) : R2 := fun x y H Q => ∃ a dx fs tv, x = .ref a ∧ H a = some (.ins C dx fs) ∧ TyX K H y tv ∧ PySem.W.notFirst K C tv = true ∧ sp [x, y] H (fun z H' => ∃ b, z = .bl b ∧ Q (.bl (!b)) H') E
/-- != is object's -/
def NeObj (K : PySem.W.Frag) (C : Addr) : Prop := PySem.W.findIn K (.ref C) "__ne__" = some (some (.builtin "object.__ne__"))
theorem op_ne (hno : NeObj X.K C) (hC : ClsF X.K C) (hm : Meth X.K C "__eq__" f) (F : FnOk X.prog X.w X.K X.mg X.base CX k f fd ps sp) (hb : Binds X.K fd ps []) (hr : Room (k + 1) X.A) (hx : Passes CX X E) : OpR X (compareOp .NotEq) (rNe X.K C sp E) := by
  intro pins s σ H x y v u Q I rx ry h
  obtain ⟨a, dx, fs, tv, rfl, ea, ty, hn, q⟩ := h
  cases (show v = Value.ref a from rx)
  obtain ⟨ox, od, J⟩ := ins_inst I ea
  obtain ⟨P, kx, pk, _⟩ := kit_of I ry ty
  show wpAny _ _ (richCompare .NotEq _ _) _ _ _
  refine ne_K hr.units0 hr.in1.units0 I.kIn J (kx.ty _ _ I.kIn pk) hn hno hC.cm hm.at_ hm.fn ?_
  refine wpAny_mono (wpAny_call (run_atF F hr.in1 I.env0.in1 hb hx I (.cons rx (.cons ry .nil)) q)) (fun w s' z => ?_) fun _ _ x => x
  obtain ⟨z', H', I', rz, b, rfl, qz⟩ := z
  cases (show w = Value.bool b from rz)
  exact ⟨b, rfl, .bl (!b), H', I', rfl, qz⟩
end
end VB
namespace VB
open PySem PySem.Spec PyProof.Rows L2
end VB
namespace VB
open PySem PySem.Spec PyProof.Rows L2
structure Cl where
  all : List Addr
  (Bag Store Question Book Carry Days Desk VouchError Wrong TooMany Unfit NoDeed Unknown Taken Nothing Broken NoText NoCommand Archive Limits Paper Anchor Notice Piece Setting Pledge Region State : Addr)
  w : World
end VB
namespace VB
open PySem PySem.Spec PyProof.Rows L2
def NewV (K : PySem.W.Frag) (B : List Addr) (H0 H' : Hp) (v : V) (d : D) : Prop := match d.isRoot with
  | true => ∃ a, v = .ref a ∧ H0 a = none ∧ OwAt K (a :: B) H' a d
  | false => Sg K B H' v d
theorem OwAt.root {K : PySem.W.Frag} {B : List Addr} {H : Hp} {a : Addr} {d : D} (h : OwAt K B H a d) : d.isRoot = true := by
  cases d <;> first | rfl | exact h.elim
theorem NewV.new {K : PySem.W.Frag} {B : List Addr} {H0 H' : Hp} {a : Addr} {d : D} (n : H0 a = none) (k : OwAt K (a :: B) H' a d) : NewV K B H0 H' (.ref a) d := by
  unfold NewV
  rw [k.root]
  exact ⟨a, rfl, n, k⟩
theorem NewV.back {K : PySem.W.Frag} {B W : List Addr} {H H0 H' : Hp} {v : V} {d : D} (g : Gs W H H0) (h : NewV K B H0 H' v d) : NewV K B H H' v d := by
  unfold NewV at h ⊢
  cases e : d.isRoot with
  | true =>
    rw [e] at h
    obtain ⟨a, e1, n, k⟩ := h
    exact ⟨a, e1, g.gw.free a n, k⟩
  | false =>
    rw [e] at h
    exact h
theorem NewV.sg {K : PySem.W.Frag} {B W : List Addr} {H0 H' : Hp} {v : V} {d : D} (b : BW B W H0) (h : NewV K B H0 H' v d) : Sg K B H' v d := by
  unfold NewV at h
  cases e : d.isRoot with
  | true =>
    rw [e] at h
    obtain ⟨a, rfl, n, k⟩ := h
    exact k.sg (fun x m => List.mem_cons_of_mem _ m) fun m => b.kn a m n
  | false =>
    rw [e] at h
    exact h
def EVV (K : PySem.W.Frag) (te : TE) (ρ : List En) (P : D → Prop) : Prop := ∀ (B W : List Addr) (H : Hp) (σ : L2.St), EnvOk K B W H σ ρ → ∀ Q : VK, (∀ v d H', Gs W H H' → NewV K B H H' v d → P d → Q v H') → te σ H Q
def RV (K : PySem.W.Frag) (te : TE) (ρ : List En) (m : M D) : Prop := ∀ P, wp m P → EVV K te ρ P
/-- a slot that holds such a value -/
def En.of (d : D) : En := match d.isRoot with
  | true => .own ⟨none, d⟩
  | false => .dat d
/-- a def whose answer is new if it may change -/
def spMV (K : PySem.W.Frag) (ms : List Md) (m : List D → M D) : Sp := fun vs H Q _ => ∃ (B W : List Addr) (ds : List D) (P : D → Prop), BW B W H ∧ AmA K B W H ms vs ds ∧ wp (m ds) P ∧ ∀ v d H', Gs W H H' → NewV K B H H' v d → P d → Q v H'
section
variable {K : PySem.W.Frag} {R : Po → Prop} {t u v : TS} {ρ : List En} {α : Type} {m ma mb : M D} {C : Po → α → Prop} {te ta tb : TE} {tt : TT} {md : M D} {mt : M Bool} {i : Nat} {k : D → M α} {d : D} {ms : List Md} {A : MA} {tl : TA} {E : XK} {l : List D → M D}
theorem RV.n (h : RN K te ρ m) : RV K te ρ m := fun P w B W H σ e Q q => h P w B W H σ e Q fun a d H' g n k p => q _ d H' g (.new n k) p
theorem RV.non : RV K (tC .non) ρ (.ret .non) := fun P w B W H σ e Q q => q .non .non H Gs.refl (show Sg K B H .non .non from .non) w
theorem RV.re (h : RV K te ρ m) : RE K te ρ m := fun P w B W H σ e Q q => h P w B W H σ e Q fun v d H' g n p => q v d H' g (n.sg e.bw) p
theorem RV.call (h : RAm K tl ρ ms A) : RV K (tCall (spMV K ms l) [] E tl) ρ (A D l) := fun P w B W H σ e Q q => h D l P w B W H σ e _ fun vs ds H1 g1 s1 w1 =>
  ⟨B, W, ds, P, (e.gs g1).bw, by rw [List.append_nil]; exact s1, w1, fun v d H2 g2 n p => q v d H2 (g1.trans g2) (n.back g1) p⟩
theorem RR.of (h : ρ[i]? = some (En.of d)) : RR K (tVar i) ρ (.ret d) := by
  unfold En.of at h
  cases e : d.isRoot with
  | true =>
    rw [e] at h
    exact RR.own h
  | false =>
    rw [e] at h
    exact RR.var h
end
theorem unfold_law {K : PySem.W.Frag} {t : TS} {ρ : List En} {m : M D} (h : G K (fnR false) t ρ m CF) (w : wp m fun d => d = .bl true) : ST K t ρ ⟨fun _ => False, fun d => d = .bl true, fun _ => False, fun _ => False, false⟩ := h _ ⟨rfl, fun _ z => nomatch z⟩ w
end VB
namespace VB
open PySem PySem.Spec PyProof.Rows L2
def fnA (K : PySem.W.Frag) (a : Addr) : He.FnW := match K.lookup a with
  | some ⟨_, _, .func fd, _⟩ => some (fd.name, fd.qualname, fd.params, fd.body, fd.scope, fd.globals, fd.closure, fd.builtins)
  | _ => none
/-- one def: where it stands -/
structure DefQ where
  p : PySem.W.Frag → Addr
  name : Str
  qual : Str
  params : Arguments
  body : List Stmt
  scope : Scope
  dfl : List He.Dv := []
  kwd : List (Str × He.Dv) := []
def DefQ.val (d : DefQ) : He.FnW := some (d.name, d.qual, d.params, .stmts d.body, d.scope, mainGlobals, [], builtinsNs)
def DefQ.dvs (K : PySem.W.Frag) (d : DefQ) : List V := d.dfl.map (He.Dv.v K)
def DefQ.kws (K : PySem.W.Frag) (d : DefQ) : List (Str × V) := d.kwd.map fun q => (q.1, q.2.v K)
def DefQ.ok (K : PySem.W.Frag) (d : DefQ) : Bool := PySem.W.keepIn K (.ref (d.p K)) && (match K.lookup (d.p K) with
  | some ⟨_, _, .func fd, _⟩ => PySem.W.codeIn K fd.code d.qual && (He.dflB K fd.defaults (d.dvs K) && He.kwdB K fd.kwdefaults (d.kws K))
  | _ => false)
theorem DefQ.funD {K : PySem.W.Frag} {d : DefQ} (e : fnA K (d.p K) = d.val) (c : d.ok K = true) : ∃ fd, FunD K d.name d.qual d.params d.body d.scope (d.dvs K) (d.kws K) (d.p K) fd := by
  obtain ⟨kp, c2⟩ := He.ba c
  unfold fnA at e
  cases q : K.lookup (d.p K) with
  | none =>
    rw [q] at c2
    cases c2
  | some o =>
    obtain ⟨oc, od, dt, osl⟩ := o
    rw [q] at c2 e
    cases dt with
    | func fd =>
      obtain ⟨n1, n2, n3, n4, n5, n6, n7, n8, n9, n10, n11, n12, n13, n14, n15⟩ := fd
      have e2 : (some (n1, n2, n3, n4, n5, n6, n7, n15) : He.FnW) = some (d.name, d.qual, d.params, .stmts d.body, d.scope, mainGlobals, [], builtinsNs) := e
      simp only [Option.some.injEq, Prod.mk.injEq] at e2
      obtain ⟨h1, h2, h3, h4, h5, h6, h7, h8⟩ := e2
      subst h1 h2 h3 h4 h5 h6 h7 h8
      obtain ⟨k1, k2⟩ := He.ba (show (PySem.W.codeIn K n13 d.qual && (He.dflB K n8 (d.dvs K) && He.kwdB K n9 (d.kws K))) = true from c2)
      obtain ⟨k2, k3⟩ := He.ba k2
      exact ⟨_, ⟨oc, od, n8, n9, n10, n11, n12, n13, n14, osl, rfl, q, k1, He.dflB_ok k2, He.kwdB_ok k3⟩, kp⟩
    | _ => cases c2
abbrev AlQ : Type := Bool × List He.FnW
def obsQ (ex : List (PySem.W.Frag → Bool)) (fa : List He.Fa) (fn : List DefQ) (K : PySem.W.Frag) : AlQ := (sysOk K && (ex.all (fun f => f K) && ((fa.all fun f => f.ok K) && fn.all fun d => d.ok K)), fn.map fun d => fnA K (d.p K))
def valQ (fn : List DefQ) : AlQ := (true, fn.map DefQ.val)
def SaysQ (ex : List (PySem.W.Frag → Bool)) (fa : List He.Fa) (fn : List DefQ) (K : PySem.W.Frag) : Prop := obsQ ex fa fn K = valQ fn
section
variable {ex : List (PySem.W.Frag → Bool)} {fa : List He.Fa} {fn : List DefQ} {K : PySem.W.Frag}
theorem SaysQ.all (c : SaysQ ex fa fn K) : sysOk K = true ∧ ex.all (fun f => f K) = true ∧ (fa.all fun f => f.ok K) = true ∧ (fn.all fun d => d.ok K) = true := by
  obtain ⟨h1, h2⟩ := He.ba (show (sysOk K && (ex.all (fun f => f K) && ((fa.all fun f => f.ok K) && fn.all fun d => d.ok K))) = true from congrArg (fun z : AlQ => z.1) c)
  obtain ⟨h2, h3⟩ := He.ba h2
  obtain ⟨h3, h4⟩ := He.ba h3
  exact ⟨h1, h2, h3, h4⟩
theorem SaysQ.fact (c : SaysQ ex fa fn K) (i : Nat) {f : He.Fa} (h : fa[i]? = some f := by rfl) : f.ok K = true := List.all_eq_true.mp c.all.2.2.1 f (List.mem_of_getElem? h)
theorem SaysQ.ext (c : SaysQ ex fa fn K) (i : Nat) {f : PySem.W.Frag → Bool} (h : ex[i]? = some f := by rfl) : f K = true := List.all_eq_true.mp c.all.2.1 f (List.mem_of_getElem? h)
theorem SaysQ.def_ (c : SaysQ ex fa fn K) (i : Nat) {d : DefQ} (h : fn[i]? = some d := by rfl) : ∃ fd, FunD K d.name d.qual d.params d.body d.scope (d.dvs K) (d.kws K) (d.p K) fd := by
  have e : fn.map (fun d => fnA K (d.p K)) = fn.map DefQ.val := congrArg (fun z : AlQ => z.2) c
  have e2 : (fn.map fun d => fnA K (d.p K))[i]? = (fn.map DefQ.val)[i]? := by rw [e]
  rw [List.getElem?_map, List.getElem?_map, h] at e2
  exact DefQ.funD (Option.some.inj e2) (List.all_eq_true.mp c.all.2.2.2 d (List.mem_of_getElem? h))
end
def atG (x : Str) (K : PySem.W.Frag) : Addr := He.ga K x
def atM (x m : Str) (K : PySem.W.Frag) : Addr := He.ma K (He.ga K x) m
def clB (xs : List Str) (K : PySem.W.Frag) : Bool := kcB K (xs.map (He.ga K))
theorem clB_ok {xs : List Str} {K : PySem.W.Frag} (h : clB xs K = true) : KC K (xs.map (He.ga K)) := kcB_ok h
end VB
namespace VB
open PySem PySem.Spec PyProof.Rows L2
def D.oneK (Cs : List Addr) (x c : D) : Option Bool := match c with
  | .ty n => (match x with
    | .ins C _ _ => if C ∈ Cs ∧ n ∈ bts then some false else none
    | x => x.tyn.bind fun m => kitB m n)
  | .raw C => if C ∈ Cs ∧ x.kn Cs = true then some (x.isiO Cs C) else none
  | _ => none
def D.anyK (Cs : List Addr) (x : D) : List D → Option Bool
  | [] => some false
  | c :: r => match D.oneK Cs x c with
    | some true => some true
    | some false => D.anyK Cs x r
    | none => none
def D.cV : D → V
  | .ty n => .ty n
  | .raw C => .ref C
  | _ => .non
def D.cU : D → Value
  | .ty n => .type n
  | .raw C => .ref C
  | _ => .none
def D.isC : D → Bool
  | .ty _ => true
  | .raw _ => true
  | _ => false
section
variable {K : PySem.W.Frag} {Cs : List Addr} {ρ : List En} {te : TE} {md : M D} {t : TA}
theorem oneK_ok (k : KC K Cs) {x c : D} {b : Bool} (h : D.oneK Cs x c = some b) : PySem.W.kitOne K x.tyV c.cU = some b := by
  cases c with
  | ty n =>
    cases x with
    | ins C ks ds =>
      by_cases z : C ∈ Cs ∧ n ∈ bts
      · have e : some false = some b := by
          rw [← h]
          exact (if_pos z).symm
        cases e
        exact (k.ty1 C z.1 n z.2).2.1
      · have e : (none : Option Bool) = some b := by
          rw [← h]
          exact (if_neg z).symm
        cases e
    | ty m => cases h
    | raw m => cases h
    | dit ks ds => cases h
    | din _ _ _ _ => cases h
    | _ =>
      have h : kitB _ n = some b := h
      exact kit_ty h
  | raw C =>
    by_cases z : C ∈ Cs ∧ x.kn Cs = true
    · have e : some (x.isiO Cs C) = some b := by
        rw [← h]
        exact (if_pos z).symm
      cases e
      exact kit_own k z.1 z.2
    · have e : (none : Option Bool) = some b := by
        rw [← h]
        exact (if_neg z).symm
      cases e
  | _ => cases h
theorem anyK_ok (k : KC K Cs) {x : D} : ∀ {cs : List D} {b : Bool}, D.anyK Cs x cs = some b → PySem.W.kitAny K x.tyV (cs.map D.cU) = some b
  | [], _, h => h
  | c :: r, b, h => by
    show (match PySem.W.kitOne K x.tyV c.cU with
      | some true => some true
      | some false => PySem.W.kitAny K x.tyV (r.map D.cU)
      | none => none) = some b
    have h : (match D.oneK Cs x c with
      | some true => some true
      | some false => D.anyK Cs x r
      | none => none) = some b := h
    cases e : D.oneK Cs x c with
    | none =>
      rw [e] at h
      cases h
    | some q =>
      rw [e] at h
      rw [oneK_ok k e]
      cases q with
      | true => exact h
      | false => exact anyK_ok k h
theorem cls_pair : ∀ {cs : List D}, cs.all D.isC = true → Paired ClsV (cs.map D.cV) (cs.map D.cU)
  | [], _ => .nil
  | c :: r, h => by
    obtain ⟨h1, h2⟩ := Bool.and_eq_true_iff.mp (List.all_cons ▸ h)
    refine .cons ?_ (cls_pair h2)
    cases c with
    | ty n => exact .ty n
    | raw C => exact .own C
    | _ => cases h1
/-- isinstance(x, (T, ..)) -/
def D.isiT (Cs : List Addr) (cs : List D) (x : D) : M D := if x.kn Cs = true ∧ cs.all D.isC = true ∧ cs.length ≤ 1000 then M.ofO (D.anyK Cs x cs) else .fail
theorem RE.isiT {cs : List D} (k : KC K Cs) (h : RR K te ρ md) (ht : ∀ (σ : L2.St) (H : Hp) (Q : List V → Hp → Prop), Q (cs.map D.cV) H → t σ H Q) : RE K (tCB (rIsiT K) (tCons te (tCons (tTup t) tNil))) ρ (md.bind (D.isiT Cs cs)) := fun P w B W H σ e Q q =>
  h _ (wp_bind.mp w) B W H σ e _ fun v x H1 g1 s1 w1 => by
    obtain ⟨⟨h1, h2, h3⟩, w2⟩ := wp_ite w1
    show tTup t σ H1 fun x H2 => rIsiT K [v, x] H2 Q
    refine ht σ H1 _ ⟨by rw [sizeLine_eq, List.length_map]; omega, fun p np => ?_⟩
    cases ea : D.anyK Cs x cs with
    | none =>
      rw [ea] at w2
      exact w2.elim
    | some b =>
      rw [ea] at w2
      have e1 := (e.gs g1)
      exact ⟨v, p, cs.map D.cV, x.tyV, cs.map D.cU, b, rfl, upd_same, cls_pair h2, kn_tyx k h1 (s1.gs e.bw.sub (Gs.new np)), anyK_ok k ea, q _ _ _ (g1.trans (Gs.new np)) (.bl b) w2⟩
end
end VB
namespace VB
open PySem PySem.Spec PyProof.Rows L2
section
variable {α β : Type}
theorem take_ev {n : Int} (h0 : 0 < n) (h1 : n < 2 ^ 200) : D.takeM (.int n) = .draw n fun r => .ret (.int r) := by
  show (if 0 < n ∧ n < 2 ^ 200 then _ else _) = _
  rw [if_pos ⟨h0, h1⟩]
theorem wp_take {n : Int} {k : D → M α} {P : α → Prop} (h0 : 0 < n) (h1 : n < 2 ^ 200) (h : ∀ r : Int, 0 ≤ r → r < n → wp (k (.int r)) P) : wp ((D.takeM (.int n)).bind k) P := by
  rw [take_ev h0 h1]
  exact ⟨h0, h⟩
theorem map_ret2 {γ : Type} {k : D → M D} {g f : γ → D} : ∀ {xs : List γ}, (∀ x ∈ xs, k (g x) = .ret (f x)) → M.map k (xs.map g) = .ret (xs.map f)
  | [], _ => rfl
  | x :: xs, h => by
    show (k (g x)).bind _ = _
    rw [h x (List.mem_cons_self ..), map_ret2 fun x m => h x (List.mem_cons_of_mem _ m)]
    rfl
theorem wp_map_all {k : D → M D} {Q : D → Prop} : ∀ {ds : List D} {P : List D → Prop}, (∀ d ∈ ds, wp (k d) Q) → (∀ es, es.length = ds.length → (∀ e ∈ es, Q e) → P es) → wp (M.map k ds) P
  | [], P, _, hP => hP [] rfl fun _ m => nomatch m
  | d :: ds, P, h, hP => by
    unfold M.map
    refine wp_bind_of (h d (List.mem_cons_self ..)) fun y hy => wp_bind.mpr (wp_map_all (fun x m => h x (List.mem_cons_of_mem _ m)) fun es hl he => ?_)
    refine hP (y :: es) (by rw [List.length_cons, List.length_cons, hl]) fun e m => ?_
    rcases List.mem_cons.mp m with z | m
    · rw [z]
      exact hy
    · exact he e m
theorem wp_fold {L : Type} {f : D → L → M L} {I : Nat → L → Prop} : ∀ {ds : List D} {s : L} {P : L → Prop} (i : Nat), I i s → (∀ j d s, ds[j]? = some d → I (i + j) s → wp (f d s) fun s' => I (i + j + 1) s') → (∀ s, I (i + ds.length) s → P s) → wp (M.fold f ds s) P
  | [], s, P, i, h0, _, hP => hP s h0
  | d :: ds, s, P, i, h0, hs, hP => by
    unfold M.fold
    refine wp_bind_of (hs 0 d s rfl h0) fun s' h1 => wp_fold (i + 1) h1 (fun j d' s' e h => ?_) fun s h => hP s ?_
    · have z := hs (j + 1) d' s' e
      rw [show i + (j + 1) = i + 1 + j by omega] at z
      exact z h
    · rw [List.length_cons, show i + (ds.length + 1) = i + 1 + ds.length by omega]
      exact h
/-- a loop that goes on to its end -/
theorem wp_loop {L X : Type} {f : D → L → M (Fl L L)} {I : L → Prop} : ∀ {ds : List D} {s : L} {P : Fl L X → Prop}, I s → (∀ d ∈ ds, ∀ s, I s → wp (f d s) fun o => ∃ s', (o = .nx s' ∨ o = .ct s') ∧ I s') → (∀ s, I s → P (.nx s)) → wp (M.loop f ds s) P
  | [], s, P, h0, _, hP => hP s h0
  | d :: ds, s, P, h0, hs, hP => by
    unfold M.loop
    refine wp_bind_of (hs d (List.mem_cons_self ..) s h0) fun o ⟨s', ho, h1⟩ => ?_
    rcases ho with rfl | rfl
    · exact wp_loop h1 (fun x m => hs x (List.mem_cons_of_mem _ m)) hP
    · exact wp_loop h1 (fun x m => hs x (List.mem_cons_of_mem _ m)) hP
end
theorem isi_str_str {z : Str} : D.isi (.str z) (.ty "str") = .ret (.bl true) := by rfl
theorem isi_tup_tup {ds : List D} : D.isi (.tup ds) (.ty "tuple") = .ret (.bl true) := by rfl
theorem dle_int {i j : Int} : D.le (.int i) (.int j) = .ret (.bl (decide (i ≤ j))) := rfl
theorem dlt_int {i j : Int} : D.lt (.int i) (.int j) = .ret (.bl (decide (i < j))) := rfl
theorem deq_int {i j : Int} : D.eq (.int i) (.int j) = .ret (.bl (decide (i = j))) := rfl
theorem deq_str {i j : Str} : D.eq (.str i) (.str j) = .ret (.bl (decide (i = j))) := rfl
theorem dne_int {i j : Int} : D.ne (.int i) (.int j) = .ret (.bl (!decide (i = j))) := rfl
theorem dne_bl {i j : Bool} : D.ne (.bl i) (.bl j) = .ret (.bl (!decide (i = j))) := rfl
theorem dne_str {i j : Str} : D.ne (.str i) (.str j) = .ret (.bl (!decide (i = j))) := rfl
theorem dadd_int {i j : Int} : D.add (.int i) (.int j) = .ret (.int (i + j)) := rfl
theorem asB_bl {b : Bool} : (D.bl b).asB = .ret b := rfl
theorem asI_int {i : Int} : (D.int i).asI = .ret i := rfl
theorem all_bl (bs : List Bool) : D.all (.lst (bs.map D.bl)) = .ret (.bl (bs.all id)) := by
  unfold D.all
  simp only
  rw [bls_map]
theorem all_map {α : Type} (f : α → Bool) (xs : List α) : D.all (.lst (xs.map fun x => D.bl (f x))) = .ret (.bl (xs.all f)) := by
  have z := all_bl (xs.map f)
  rw [List.map_map, List.all_map] at z
  exact z
theorem dlen_lst {ds : List D} : D.len (.lst ds) = .ret (.int ds.length) := rfl
theorem dlen_str {z : Str} (h : z.length ≤ 16777216) : D.len (.str z) = .ret (.int z.length) := if_pos h
theorem items_str {z : Str} (h : z.length ≤ 16777216) : D.items (.str z) = .ret (D.signs z) := if_pos h
theorem lstM_ev {ds : List D} (h : ds.length ≤ 16777216) : D.lstM ds = .ret (.lst ds) := if_pos h
theorem ix_lst {ds : List D} {i : Int} {d : D} (h : atI ds i = some d) : D.ix (.lst ds) (.int i) = .ret d := by
  show M.ofD (atI ds i) = _
  rw [h]
  rfl
theorem ix_tup {ds : List D} {i : Int} {d : D} (h : atI ds i = some d) : D.ix (.tup ds) (.int i) = .ret d := by
  show M.ofD (atI ds i) = _
  rw [h]
  rfl
theorem ix_str {z : Str} {i : Int} {c : Nat} (hl : z.length ≤ 16777216) (h : atI z.cps.toList i = some c) : D.ix (.str z) (.int i) = .ret (.str ⟨#[c]⟩) := by
  show (if z.length ≤ 16777216 then M.ofD ((atI z.cps.toList i).map fun c => .str ⟨#[c]⟩) else .fail) = _
  rw [if_pos hl, h]
  rfl
theorem rng1_ev {n : Int} (h0 : 0 ≤ n) (h1 : n ≤ 16777216) : D.rng1 [.int n] = .ret (D.ints 0 n.toNat) := if_pos ⟨by omega, h1⟩
theorem ints_mem {n : Nat} {d : D} (m : d ∈ D.ints 0 n) : ∃ i : Nat, d = .int i ∧ i < n := by
  unfold D.ints at m
  obtain ⟨i, hi, e⟩ := List.mem_map.mp m
  refine ⟨i, ?_, List.mem_range.mp hi⟩
  rw [← e]
  congr 1
  omega
theorem strs_all {es : List D} (h : ∀ e ∈ es, ∃ z : Str, e = .str z) : ∃ zs : List Str, es = zs.map D.str ∧ zs.length = es.length := by
  induction es with
  | nil => exact ⟨[], rfl, rfl⟩
  | cons e es ih =>
    obtain ⟨z, rfl⟩ := h e (List.mem_cons_self ..)
    obtain ⟨zs, e1, e2⟩ := ih fun x m => h x (List.mem_cons_of_mem _ m)
    exact ⟨z :: zs, by rw [e1]; rfl, by rw [List.length_cons, List.length_cons, e2]⟩
theorem strs_allP {p : Str → Prop} {es : List D} (h : ∀ e ∈ es, ∃ z : Str, e = .str z ∧ p z) : ∃ zs : List Str, es = zs.map D.str ∧ zs.length = es.length ∧ ∀ z ∈ zs, p z := by
  obtain ⟨zs, e1, e2⟩ := strs_all fun e m => (h e m).imp fun z q => q.1
  refine ⟨zs, e1, e2, fun z m => ?_⟩
  obtain ⟨y, ey, py⟩ := h (.str z) (by rw [e1]; exact List.mem_map_of_mem m)
  cases ey
  exact py
theorem eqb_pu {x y : D} (hx : x.pu = true) (hy : y.pu = true) (sx : SeqAt.shaped x.py = true) (sy : SeqAt.shaped y.py = true) : (x.pu && y.pu && (SeqAt.shaped x.py && SeqAt.shaped y.py)) = true := by
  rw [hx, hy, sx, sy]
  rfl
theorem mulI_ev {i j : Int} (h : i.natAbs.log2 + j.natAbs.log2 < 1000000) : D.mul (.int i) (.int j) = .ret (.int (i * j)) := if_pos h
theorem mulS_ev {z : Str} {k : Int} (h : 0 ≤ k ∧ k ≤ 5000 ∧ z.length ≤ 1000) : D.mul (.str z) (.int k) = .ret (.str (Txt.mul z k)) := if_pos h
theorem addS_ev {x y : Str} (h : x.length + y.length ≤ 16777216) : D.add (.str x) (.str y) = .ret (.str (x ++ y)) := if_pos h
theorem addL_ev {x y : List D} (h : x.length + y.length ≤ 16777216) : D.add (.lst x) (.lst y) = .ret (.lst (x ++ y)) := if_pos h
theorem addT_ev {x y : List D} (h : x.length + y.length ≤ 16777216) : D.add (.tup x) (.tup y) = .ret (.tup (x ++ y)) := if_pos h
theorem slS_ev {z : Str} {lo hi : Option Int} (h : z.length ≤ 16777216) : D.sl (.str z) lo hi = .ret (.str (cutS z lo hi)) := if_pos h
theorem fdiv_ev {i j : Int} (h : 0 < j ∧ j.natAbs.log2 < 9000) : D.fdiv (.int i) (.int j) = .ret (.int (i / j)) := if_pos h
theorem mod_ev {i j : Int} (h : 0 < j) : D.mod (.int i) (.int j) = .ret (.int (i % j)) := if_pos h
theorem log2_small {i : Int} (h : i.natAbs < 2 ^ 200) : i.natAbs.log2 < 300 := by
  by_cases z : i.natAbs = 0
  · rw [z]
    decide
  · have := (Nat.log2_lt z).mpr h
    omega
theorem join_ev {a : Str} {ys : List Str} (h : (ys.map (·.length)).sum + ys.length * a.length ≤ 16777216) : D.join (.str a) (.lst (ys.map D.str)) = .ret (.str (Txt.join a ys)) := by
  unfold D.join
  dsimp only
  rw [strs_map]
  exact if_pos h
theorem split_ev {a b : Str} (h : (b.length == 0) = false ∧ a.length + 2 ≤ 16777216) : D.split (.str a) (.str b) = .ret (.lst ((Txt.split a b).map D.str)) := if_pos h
section
variable {a b c d e : D}
theorem tupM1 : D.tupM [a] = .ret (.tup [a]) := if_pos (by show 1 ≤ 16777216; decide)
theorem tupM2 : D.tupM [a, b] = .ret (.tup [a, b]) := if_pos (by show 2 ≤ 16777216; decide)
theorem tupM3 : D.tupM [a, b, c] = .ret (.tup [a, b, c]) := if_pos (by show 3 ≤ 16777216; decide)
theorem tupM0 : D.tupM [] = .ret (.tup []) := if_pos (by show 0 ≤ 16777216; decide)
theorem lstM0 : D.lstM [] = .ret (.lst []) := if_pos (by show 0 ≤ 16777216; decide)
theorem lstM1 : D.lstM [a] = .ret (.lst [a]) := if_pos (by show 1 ≤ 16777216; decide)
theorem lstM2 : D.lstM [a, b] = .ret (.lst [a, b]) := if_pos (by show 2 ≤ 16777216; decide)
theorem lstM3 : D.lstM [a, b, c] = .ret (.lst [a, b, c]) := if_pos (by show 3 ≤ 16777216; decide)
end
end VB
namespace VB
open PySem PySem.Spec PyProof.Rows L2
structure Eqq (k : Nat) (d : D) : Prop where
  pu : d.pu = true
  lay : d.py.canLay0 = true
  dp : d.py.depth ≤ k
theorem Eqq.mono {k l : Nat} {d : D} (h : Eqq k d) (hl : k ≤ l) : Eqq l d := ⟨h.pu, h.lay, Nat.le_trans h.dp hl⟩
theorem Eqq.int {i : Int} : Eqq 0 (.int i) := ⟨rfl, rfl, Nat.le_refl _⟩
theorem Eqq.bl {i : Bool} : Eqq 0 (.bl i) := ⟨rfl, rfl, Nat.le_refl _⟩
theorem Eqq.non : Eqq 0 .non := ⟨rfl, rfl, Nat.le_refl _⟩
theorem Eqq.str {z : Str} (h : PyData.strOk z = true) : Eqq 0 (.str z) := ⟨rfl, h, Nat.le_refl _⟩
theorem Eqq.all {k : Nat} : ∀ {ds : List D}, (∀ d ∈ ds, Eqq k d) → D.puA ds = true ∧ PyData.canLayAll0 (D.pyA ds) = true ∧ PyData.depthAll (D.pyA ds) ≤ k
  | [], _ => ⟨rfl, rfl, Nat.zero_le _⟩
  | d :: ds, h => by
    have h1 := h d (List.mem_cons_self ..)
    obtain ⟨a, b, c⟩ := Eqq.all (ds := ds) fun x m => h x (List.mem_cons_of_mem _ m)
    refine ⟨?_, ?_, ?_⟩
    · show (D.pu d && D.puA ds) = true
      rw [h1.pu, a]
      rfl
    · show (PyData.canLay0 _ && PyData.canLayAll0 _) = true
      rw [h1.lay, b]
      rfl
    · show max (PyData.depth _) (PyData.depthAll _) ≤ k
      have := h1.dp
      omega
theorem Eqq.tup {k : Nat} {ds : List D} (h : ∀ d ∈ ds, Eqq k d) : Eqq (k + 1) (.tup ds) := by
  obtain ⟨a, b, c⟩ := Eqq.all h
  exact ⟨a, b, Nat.succ_le_succ c⟩
theorem Eqq.lst {k : Nat} {ds : List D} (h : ∀ d ∈ ds, Eqq k d) : Eqq (k + 1) (.lst ds) := by
  obtain ⟨a, b, c⟩ := Eqq.all h
  exact ⟨a, b, Nat.succ_le_succ c⟩
theorem Eqq.sh {k : Nat} {d : D} (h : Eqq k d) (hk : k ≤ 64) : SeqAt.shaped d.py = true := by
  unfold SeqAt.shaped
  rw [h.lay, decide_eq_true (Nat.le_trans h.dp hk)]
  rfl
theorem Eqq.cond {k : Nat} {x y : D} (hx : Eqq k x) (hy : Eqq k y) (hk : k ≤ 64) : (x.pu && y.pu && (SeqAt.shaped x.py && SeqAt.shaped y.py)) = true := eqb_pu hx.pu hy.pu (hx.sh hk) (hy.sh hk)
section
variable {k : Nat} {xs ys : List D} {y : D} {zs : List Str}
theorem Fit.bl {b : Bool} : Fit 1 0 (.bl b) := ⟨rfl, by cases b <;> decide, Nat.le_refl _⟩
theorem Fit.non : Fit 1 0 .non := ⟨rfl, by decide, Nat.le_refl _⟩
theorem Fit.wd {z : Str} (h : Wd z) : Fit 150 0 (.str z) := Fit.str (by have := h.2.1; omega) (by decide) h.2.2.sm
theorem Eqq.wd {z : Str} (h : Wd z) : Eqq 0 (.str z) := .str (wd_ok h.2.2)
end
section
variable {α : Type} {C : Addr} {f : Str} {ks : List Str} {ds : List D} {v : D} {k : D → M α} {l : List D → M D} {nm : Str} {m : M α}
theorem setF_ev (h : f ∉ ks ∧ ks.length < 1000) : D.setF C f (.ins C ks ds) v k = k (.ins C (ks ++ [f]) (ds ++ [v])) := by
  show (if C = C then (if f ∉ ks ∧ ks.length < 1000 then _ else _) else _) = _
  rw [if_pos rfl, if_pos h]
theorem getF_ev : D.getF C f (.ins C ks ds) = M.ofD ((ks.zip ds).lookup f) := if_pos rfl
end
end VB
namespace VB
open PySem PySem.Spec PyProof.Rows L2
section
variable {X : Cx} {CX : CXT} {C f : Addr} {k : Nat} {fd : FuncData} {ps : List Str} {sp : Sp} {E : XK}
/-- v in x, x an instance -/
def rInO (C : Addr) (sp : Sp) (E : XK) : R2 := fun v x H Q => ∃ a dx fs, x = .ref a ∧ H a = some (.ins C dx fs) ∧ sp [x, v] H (fun z H' => ∃ b, z = .bl b ∧ Q (.bl b) H') E
theorem op_inO (hm : Meth X.K C "__contains__" f) (F : FnOk X.prog X.w X.K X.mg X.base CX k f fd ps sp) (hb : Binds X.K fd ps []) (hr : Room k X.A) (hx : Passes CX X E) : OpR X (compareOp .In) (rInO C sp E) := by
  intro pins s σ H x y v u Q I rx ry h
  obtain ⟨a, dx, fs, rfl, ea, q⟩ := h
  cases (show u = Value.ref a from ry)
  obtain ⟨ox, od, J⟩ := ins_inst I ea
  obtain ⟨m, hF⟩ := I.fr
  refine PySem.W.in_K hF I.ok.mod.kin J hm.at_ hm.fn (wpAny_mono (run_fn F hr hb .nil hx I (.cons ry (.cons rx .nil)) q) (fun w s' z => ?_) fun _ _ x => x)
  obtain ⟨z', H', I', rz, b, rfl, qz⟩ := z
  cases (show w = Value.bool b from rz)
  exact wpAny_of_eq (a := b) (by rfl) ⟨.bl b, H', I', rfl, qz⟩
end
section
variable {K : PySem.W.Frag} {C : Addr} {l : List D → M D} {E : XK} {ρ : List En} {te : TE} {md : M D}
def D.inO (C : Addr) (l : List D → M D) (v x : D) : M D := D.instK C x fun _ _ => (l [x, v]).bind fun z => z.asB.bind fun b => .ret (.bl b)
theorem inO_d : OpD K (rInO C (spM K [.bor, .bor] l) E) (D.inO C l) := fun x y P w B W H v u b sx sy Q q => by
  obtain ⟨ks, ds, rfl, w2⟩ := instK_at w
  obtain ⟨a, dx, fs, rfl, n, h1, r⟩ := id sy
  refine ⟨a, dx, fs, rfl, h1, B, W, [.ins C ks ds, x], _, b, .cons (show Am K B W H _ .bor (.ins C ks ds) from sy) (.cons (show Am K B W H _ .bor x from sx) .nil), wp_bind.mp w2, fun v d H' g s p => ?_⟩
  obtain ⟨k, rfl, p2⟩ := asB_at (wp_bind.mp p)
  cases s
  exact ⟨k, rfl, q _ (.bl _) H' g (.bl _) p2⟩
end
end VB
namespace VB
open PySem PySem.Spec PyProof.Rows L2
end VB
namespace VB
open PySem PySem.Spec PyProof.Rows L2
inductive PrA (K : PySem.W.Frag) (H : Hp) : List V → List (Int × Int) → Prop
  | nil : PrA K H [] []
  | cons {t : Addr} {p : Int × Int} {xs : List V} {ps : List (Int × Int)} : SqT K H t [.int p.1, .int p.2] → PrA K H xs ps → PrA K H (.ref t :: xs) (p :: ps)
theorem PrA.ref {K : PySem.W.Frag} {H : Hp} : ∀ {xs : List V} {ps : List (Int × Int)}, PrA K H xs ps → ∀ x ∈ xs, ∃ t, x = .ref t
  | _, _, .nil, x, m => nomatch m
  | _, _, @PrA.cons _ _ t p xs ps _ r, x, m => (List.mem_cons.mp m).elim (fun e => ⟨t, e⟩) (r.ref x)
theorem PrA.at_ {K : PySem.W.Frag} {H : Hp} : ∀ {xs : List V} {ps : List (Int × Int)}, PrA K H xs ps → ∀ z ∈ xs.zip ps, ∃ t, z.1 = .ref t ∧ SqT K H t [.int z.2.1, .int z.2.2]
  | _, _, .nil, z, m => nomatch m
  | _, _, @PrA.cons _ _ t p xs ps h r, z, m => by
    rcases List.mem_cons.mp (List.zip_cons_cons ▸ m) with e | m
    · rw [e]
      exact ⟨t, rfl, h⟩
    · exact r.at_ z m
theorem PrA.len {K : PySem.W.Frag} {H : Hp} : ∀ {xs : List V} {ps : List (Int × Int)}, PrA K H xs ps → xs.length = ps.length
  | _, _, .nil => rfl
  | _, _, .cons _ r => congrArg (· + 1) r.len
abbrev pD (p : Int × Int) : D := .tup [.int p.1, .int p.2]
end VB
namespace VB
open PySem PySem.Spec PyProof.Rows L2
end VB
namespace VB
open PySem PySem.Spec PyProof.Rows L2
end VB
namespace VB
open PySem PySem.Spec PyProof.Rows L2
/-- each list or tuple under way holds an instance -/
def GH (g : List Code) (H : Hp) (N : Addr → Prop) : Prop := ∀ id v rest kw, Code.builtin id ⟨v :: rest, kw⟩ ∈ g → ∃ a vs x C dx fs, v = .ref a ∧ ((H a = some (.lst vs) ∧ N a) ∨ H a = some (.tup vs)) ∧ V.ref x ∈ vs ∧ H x = some (.ins C dx fs) ∧ N x
theorem GH.gs {g : List Code} {W : List Addr} {H H' : Hp} (h : GH g H fun a => a ∉ W) (k : Gs W H H') : GH g H' fun a => a ∉ W := fun id v rest kw m => by
  obtain ⟨a, vs, x, C, dx, fs, e, h1, h2, h3, h5⟩ := h id v rest kw m
  exact ⟨a, vs, x, C, dx, fs, e, h1.imp (fun z => ⟨k.gw.keep _ _ z.2 z.1, z.2⟩) (k.gw.tups _ _), h2, k.gw.keep _ _ h5 h3, h5⟩
end VB
namespace VB
open PySem PySem.Spec PyProof.Rows L2 Builtin Builtin.List
section
variable {K : PySem.W.Frag} {ρ : List En} {g : List Code} {l : List D → M D}
theorem GH.any {H : Hp} {N : Addr → Prop} (h : GH g H N) : GH g H fun _ => True := fun id v rest kw m => by
  obtain ⟨a, vs, x, C, dx, fs, e, h1, h2, h3, _⟩ := h id v rest kw m
  exact ⟨a, vs, x, C, dx, fs, e, h1.imp (fun z => ⟨z.1, trivial⟩) (fun z => z), h2, h3, trivial⟩
end
end VB
namespace VB
open PySem PySem.Spec PyProof.Rows L2 Builtin Builtin.List
end VB
namespace VB
open PySem PySem.Spec PyProof.Rows L2 Builtin Builtin.List
end VB
namespace VB
open PySem PySem.Spec PyProof.Rows L2
end VB
namespace VB
open PySem PySem.Spec PyProof.Rows L2
/-- a dict, of texts and ints or of tuples -/
def IsDc (H : Hp) (d : Addr) : Prop := (∃ kvs : List (Key × V), Rd H d (.dK kvs)) ∨ ∃ kvs : List (List Key × V), Rd H d (.dT kvs)
/-- its rows as values -/
def PsOf (H : Hp) (d : Addr) (ps : List (V × V)) : Prop :=
  (∃ kvs : List (Key × V), Rd H d (.dK kvs) ∧ ps = kvs.map fun kv => (kV kv.1, kv.2)) ∨
  ∃ kvs : List (List Key × V), Rd H d (.dT kvs) ∧ ps.length = kvs.length ∧ ∀ (i : Nat) (k : List Key) (v : V), kvs[i]? = some (k, v) → ∃ q : Addr, ps[i]? = some ((V.ref q, v) : V × V) ∧ H q = some (.tup (k.map kV))
section
variable {X : Cx} {pins : List (Addr × Obj)} {σ : L2.St} {H : Hp} {s : Shared} {d : Addr}
theorem pairs_at {P : Program} {w : World} : ∀ {es : List DictEntry} {vs : List (Key × Value)}, Pairs (mixKind P w) es vs → ∀ {i : Nat} {k : Key} {v : Value}, vs[i]? = some (k, v) → ∃ en, es[i]? = some en ∧ keyIs k en.key = true ∧ en.val = v
  | _, _, .nil, i, k, v, h => by simp at h
  | _, _, @Pairs.cons _ _ _ _ _ e kv es kvs h1 h2 r, 0, k, v, h => by
    simp at h
    subst h
    exact ⟨e, rfl, h1, h2⟩
  | _, _, @Pairs.cons _ _ _ _ _ e kv es kvs h1 h2 r, i + 1, k, v, h => pairs_at r (i := i) (by simpa using h)
theorem pairs_len {P : Program} {w : World} : ∀ {es : List DictEntry} {vs : List (Key × Value)}, Pairs (mixKind P w) es vs → es.length = vs.length
  | _, _, .nil => rfl
  | _, _, .cons _ _ r => congrArg (· + 1) (pairs_len r)
theorem lift_list {α β : Type} (f : Nat → β → Prop) : ∀ (n : Nat), (∀ i, i < n → ∃ b, f i b) → ∃ bs : List β, bs.length = n ∧ ∀ i, i < n → ∃ b, bs[i]? = some b ∧ f i b
  | 0, _ => ⟨[], rfl, fun i h => absurd h (Nat.not_lt_zero i)⟩
  | n + 1, h => by
    obtain ⟨bs, e, hb⟩ := lift_list (α := α) f n fun i hi => h i (Nat.lt_succ_of_lt hi)
    obtain ⟨b, fb⟩ := h n (Nat.lt_succ_self n)
    refine ⟨bs ++ [b], by rw [List.length_append, e]; rfl, fun i hi => ?_⟩
    by_cases z : i < n
    · obtain ⟨c, e1, e2⟩ := hb i z
      exact ⟨c, by rw [List.getElem?_append_left (by omega)]; exact e1, e2⟩
    · have : i = n := by omega
      subst this
      exact ⟨b, by rw [List.getElem?_append_right (by omega), e, Nat.sub_self]; rfl, fb⟩
/-- the rows as they stand -/
theorem ents_of (I : Inv X pins σ H s) (h : IsDc H d) : ∃ (ps : List (V × V)) (es : Array DictEntry) (ep : Nat), PsOf H d ps ∧ (d == sysModules) = false ∧ DT.Raw s.heap d es ep ∧ es.size = ps.length ∧ ps.length ≤ sizeLine ∧
    ∀ (i : Nat) (x y : V), ps[i]? = some (x, y) → ∃ en : DictEntry, es[i]? = some en ∧ RelV x en.key ∧ RelV y en.val := by
  rcases h with ⟨kvs, h⟩ | ⟨kvs, h⟩
  · obtain ⟨hz, hn, vs, kv, o, es, ep, ho, hx, hd, _, hp, _⟩ := dk_rd I.hok h
    have l1 := pairs_len hp
    have l2 : kvs.length = vs.length := Paired.length kv
    rw [Array.length_toList] at l1
    refine ⟨_, es, ep, .inl ⟨kvs, h, rfl⟩, hn, ⟨o, ho, hx, hd⟩, by rw [List.length_map]; omega, by rw [List.length_map]; exact hz, fun i x y e => ?_⟩
    rw [List.getElem?_map] at e
    cases ek : kvs[i]? with
    | none =>
      rw [ek] at e
      cases e
    | some p =>
      rw [ek] at e
      cases e
      obtain ⟨qv, e1, e2, e3⟩ := L2.paired_get kv ek
      obtain ⟨en, f1, f2, f3⟩ := pairs_at hp (i := i) (k := qv.1) (v := qv.2) e1
      refine ⟨en, by rw [← Array.getElem?_toList]; exact f1, ?_, by rw [f3]; exact e3⟩
      rw [show p.1 = qv.1 from e2]
      exact relV_key f2
  · obtain ⟨hz, hn, xs, pr, o, es, ep, ho, hx, hd, he, _⟩ := dt_rd I.hok h
    have l1 : es.size = xs.length := size_of_entries he
    have l2 : kvs.length = xs.length := Paired.length pr
    have at_ : ∀ i, i < kvs.length → ∃ b : V × V, ∃ (k : List Key) (v : V) (q : Addr) (en : DictEntry), kvs[i]? = some (k, v) ∧ b = (V.ref q, v) ∧ H q = some (.tup (k.map kV)) ∧ es[i]? = some en ∧ en.key = .ref q ∧ RelV v en.val := fun i hi => by
      have ek := List.getElem?_eq_getElem hi
      obtain ⟨b, hb, e1, e2, e3⟩ := L2.paired_get pr ek
      have q := entry_at he i
      rw [hb] at q
      exact ⟨_, kvs[i].1, kvs[i].2, b.2.1, _, ek, rfl, e2, q, rfl, e3⟩
    obtain ⟨ps, pl, hp⟩ := lift_list (α := Unit) _ kvs.length at_
    refine ⟨ps, es, ep, .inr ⟨kvs, h, pl, fun i k v e => ?_⟩, hn, ⟨o, ho, hx, hd⟩, by omega, by omega, fun i x y e => ?_⟩
    · obtain ⟨b, e1, k', v', q, en, f1, f2, f3, _⟩ := hp i (List.getElem?_eq_some_iff.mp e).1
      rw [e] at f1
      cases f1
      exact ⟨q, by rw [e1, f2], f3⟩
    · obtain ⟨b, e1, k', v', q, en, f1, f2, f3, f4, f5, f6⟩ := hp i (by
        have := (List.getElem?_eq_some_iff.mp e).1
        omega)
      rw [e] at e1
      cases e1
      cases f2
      exact ⟨en, f4, f5, f6⟩
end
end VB
namespace VB
open PySem PySem.Spec PyProof.Rows L2
def kDD : Key → D
  | .inl i => .int i
  | .inr x => .str x
def tkD (k : List Key) : D := .tup (k.map kDD)
def D.rowsD : D → Option (List (D × D))
  | .dic ks ds => some ((ks.map kDD).zip ds)
  | .dit ks ds => some ((ks.map tkD).zip ds)
  | _ => none
/-- rows of values stand for rows of data -/
def PrD (K : PySem.W.Frag) (B : List Addr) (H : Hp) (ps : List (V × V)) (rs : List (D × D)) : Prop := ps.length = rs.length ∧ ∀ (i : Nat) (x y : V), ps[i]? = some (x, y) → ∃ d e : D, rs[i]? = some (d, e) ∧ Sg K B H x d ∧ Sg K B H y e
section
variable {K : PySem.W.Frag} {B W : List Addr} {H : Hp} {v : V} {d : D}
theorem rd_one {a : Addr} {u u' : HO} (h : Rd H a u) (h' : Rd H a u') (n : ∀ o w, u ≠ .frz o w) (n' : ∀ o w, u' ≠ .frz o w) : u = u' := by
  rcases h with h | ⟨o, h⟩ <;> rcases h' with h' | ⟨o', h'⟩ <;> rw [h] at h' <;> cases h'
  · rfl
  · exact absurd rfl (n _ _)
  · exact absurd rfl (n' _ _)
  · rfl
theorem sg_kD (k : Key) : Sg K B H (kV k) (kDD k) := by
  cases k with
  | inl i => exact .int i
  | inr x => exact .str x
theorem sg_kDs : ∀ k : List Key, SgA K B H (k.map kV) (k.map kDD)
  | [] => .nil
  | x :: k => .cons (sg_kD x) (sg_kDs k)
theorem sr_rows {rs : List (D × D)} (s : Sr K B W H v d) (e : d.rowsD = some rs) : ∃ a, v = .ref a ∧ a ∉ W ∧ IsDc H a ∧ ∀ ps, PsOf H a ps → PrD K B H ps rs := by
  cases d with
  | dic ks ds =>
    cases e
    obtain ⟨a, kvs, rfl, n, h, ek, r⟩ := s
    refine ⟨a, rfl, n, .inl ⟨kvs, h⟩, fun ps hp => ?_⟩
    rcases hp with ⟨kvs', h', e'⟩ | ⟨kvs', h', _⟩
    · have z := rd_one h h' (fun _ _ z => nomatch z) (fun _ _ z => nomatch z)
      cases z
      subst e'
      subst ek
      have l := r.length
      rw [List.length_map] at l
      refine ⟨?_, fun i x y q => ?_⟩
      · simp only [List.length_map, List.length_zip]
        omega
      · rw [List.getElem?_map] at q
        cases ei : kvs[i]? with
        | none =>
          rw [ei] at q
          cases q
        | some p =>
          rw [ei] at q
          cases q
          obtain ⟨d, e1, e2⟩ := r.getV (i := i) (v := p.2) (by rw [List.getElem?_map, ei]; rfl)
          refine ⟨kDD p.1, d, ?_, sg_kD _, e2⟩
          rw [List.getElem?_zip_eq_some]
          exact ⟨by simp [ei], e1⟩
    · have z := rd_one h h' (fun _ _ z => nomatch z) (fun _ _ z => nomatch z)
      cases z
  | dit ks ds =>
    cases e
    obtain ⟨a, kvs, rfl, n, h, ek, r⟩ := s
    refine ⟨a, rfl, n, .inr ⟨kvs, h⟩, fun ps hp => ?_⟩
    rcases hp with ⟨kvs', h', e'⟩ | ⟨kvs', h', l', e'⟩
    · have z := rd_one h h' (fun _ _ z => nomatch z) (fun _ _ z => nomatch z)
      cases z
    · have z := rd_one h h' (fun _ _ z => nomatch z) (fun _ _ z => nomatch z)
      cases z
      subst ek
      have l := r.length
      rw [List.length_map] at l
      refine ⟨?_, fun i x y q => ?_⟩
      · simp only [List.length_map, List.length_zip]
        omega
      · have hi : i < kvs.length := by
          have := (List.getElem?_eq_some_iff.mp q).1
          omega
        have ei := List.getElem?_eq_getElem hi
        obtain ⟨b, f1, f2⟩ := e' i kvs[i].1 kvs[i].2 ei
        rw [q] at f1
        cases f1
        obtain ⟨d, e1, e2⟩ := r.getV (i := i) (v := kvs[i].2) (by rw [List.getElem?_map, ei]; rfl)
        refine ⟨tkD kvs[i].1, d, ?_, .tup trivial f2 (sg_kDs _), e2⟩
        rw [List.getElem?_zip_eq_some]
        exact ⟨by simp [ei], e1⟩
  | _ => cases e
theorem IsDc.ty {X : Cx} {pins : List (Addr × Obj)} {σ : L2.St} {s : Shared} {a : Addr} (I : Inv X pins σ H s) (h : IsDc H a) : s.TypeIs (.ref a) "dict" ∧ ∀ c, Value.ref a = .ref c → ∃ ob, s.heap.get? c = some ob ∧ ob.dict = none := by
  obtain ⟨ps, es, ep, _, _, ⟨o, e, x, _⟩, _⟩ := ents_of I h
  refine ⟨⟨o, e, x.1⟩, fun c z => ?_⟩
  cases z
  exact ⟨o, e, x.2.1⟩
theorem PsOf.kp {H' : Hp} {a : Addr} {ps : List (V × V)} (k : ∀ b o, H b = some o → H' b = some o) (h : PsOf H a ps) : PsOf H' a ps := by
  rcases h with ⟨kvs, h, e⟩ | ⟨kvs, h, l, e⟩
  · exact .inl ⟨kvs, rd_map h (k _), e⟩
  · refine .inr ⟨kvs, rd_map h (k _), l, fun i x y q => ?_⟩
    obtain ⟨b, e1, e2⟩ := e i x y q
    exact ⟨b, e1, k _ _ e2⟩
theorem Gs.kp {H' : Hp} (k : ∀ b o, H b = some o → H' b = some o) : Gs W H H' := by
  refine ⟨⟨fun a o _ e => k a o e, fun a e => ?_, fun a xs e => k a _ e⟩, fun b _ c ns _ h => ?_⟩
  · cases h : H a with
    | none => rfl
    | some o =>
      rw [k a o h] at e
      cases e
  · obtain ⟨⟨z, s, i, e, v⟩, e2, h2⟩ := h
    exact ⟨⟨z, s, i, k _ _ e, v⟩, k _ _ e2, h2⟩
end
def rItX : V → List V → Hp → VK → Prop := fun x xs H Q => ∃ a, x = .ref a ∧ xs = [] ∧ IsDc H a ∧ ∀ p, H p = none → Q (.ref p) (upd H p (L2.DX.itemsO p a))
def tItX (te : TE) : TE := fun σ H Q => te σ H fun x H1 => rItX x [] H1 Q
section
variable {X : Cx} {o : Expr} {to : TE} {apos cpos : Pos}
theorem mt_itX : MtR X "dict.items" rItX := by
  intro pins s σ H x xs v us Q I rx rxs h
  obtain ⟨a, rfl, rfl, hd, q⟩ := h
  cases rx
  cases rxs
  obtain ⟨ps, es, ep, _, hn, raw, _⟩ := ents_of I hd
  refine DT.callItems hn raw ?_
  exact ⟨.ref s.heap.objs.size, _, I.laid (t' := s.toks) (fun b u => Heap.get?_push_of_some _) (Nat.le_refl _) (L2.DX.itemsO_ok (d := a) (Heap.get?_push_size _ rfl)), rfl, q _ (I.hok.fresh (Nat.le_refl _))⟩
/-- o.items(), o a dict also where locked -/
theorem pe_itX (ho : PE X o to) (hbase : attributeBase o "items" X.env (eval o X.env) = eval o X.env := by rfl) (hline : (apos.endLine == cpos.line) = true := by rfl) : PE X (.Call (.Attribute o "items" apos) [] [] cpos) (tItX to) := by
  refine ⟨fun pins s σ H Q I h => ?_⟩
  refine wpAny_Call_method0_late hbase hline ?_
  refine thn (ho.run pins s σ H _ I h) fun v s1 z => ?_
  obtain ⟨x, H1, I1, r1, a, e, e2, hd, q⟩ := z
  subst e
  cases r1
  obtain ⟨h1, h2⟩ := hd.ty I1
  refine ⟨"dict", "dict.items", F.plainAttrs_dict, F.slot_dict_items, F.type_dict_items, h1, h2, ?_⟩
  exact Calls.callWith_builtin rfl (PySem.evalArgs_none (mt_itX pins s1 σ H1 (.ref a) [] _ [] Q I1 rfl .nil ⟨a, rfl, rfl, hd, q⟩))
end
section
variable {X : Cx} {pins : List (Addr × Obj)} {σ : L2.St} {H : Hp} {s : Shared}
theorem made_pairs {es : Array DictEntry} {ps : List (V × V)} {lo : Addr} {h' hh : Heap} {as : List Addr} {H1 : Hp} {tk : Nat} (I : Inv X pins σ H s) (hG : DT.Made es lo h' as) (hlo : s.heap.objs.size ≤ lo) (hl : as.length = ps.length)
    (he : ∀ (i : Nat) (x y : V), ps[i]? = some (x, y) → ∃ en : DictEntry, es[i]? = some en ∧ RelV x en.key ∧ RelV y en.val)
    (kb : ∀ b ∈ as, ∀ o, h'.get? b = some o → hh.get? b = some o) (I1 : Inv X pins σ H1 { s with heap := hh, toks := tk }) (hn : ∀ b ∈ as, H1 b = none) :
    ∃ H2, Inv X pins σ H2 { s with heap := hh, toks := tk } ∧ (∀ b o, H1 b = some o → H2 b = some o) ∧ ∀ (j : Nat) (b : Addr), as[j]? = some b → ∃ x y, ps[j]? = some (x, y) ∧ H2 b = some (.tup [x, y]) := by
  have nd : as.Nodup := hG.rise.imp fun h => Nat.ne_of_lt h
  obtain ⟨H2, I2, k2, q⟩ := L2.DX.takeT (P := fun b vs => ∃ (j : Nat) (x y : V), as[j]? = some b ∧ ps[j]? = some (x, y) ∧ vs = [x, y]) I as H1 I1 nd fun b hb => by
    obtain ⟨j, hj⟩ := List.mem_iff_getElem?.mp hb
    have hjl : j < ps.length := by
      have := (List.getElem?_eq_some_iff.mp hj).1
      omega
    obtain ⟨en, e1, e2⟩ := hG.pairs j b hj
    have ep := List.getElem?_eq_getElem hjl
    obtain ⟨en', f1, f2, f3⟩ := he j _ _ ep
    rw [e1] at f1
    cases f1
    refine ⟨Nat.le_trans hlo (Nat.le_of_lt (hG.above b hb)), hn b hb, [ps[j].1, ps[j].2], ⟨j, _, _, hj, ep, rfl⟩, fun H3 => ⟨by rw [sizeLine_eq]; show 2 ≤ 16777216; omega, [en.key, en.val], .cons f2 (.cons f3 .nil), ⟨_, kb b hb _ e2, rfl, 0, rfl⟩⟩⟩
  refine ⟨H2, I2, k2, fun j b hj => ?_⟩
  obtain ⟨vs, ⟨i, x, y, i1, i2, rfl⟩, e⟩ := q b (List.mem_of_getElem? hj)
  have eij : j = i := (List.getElem?_inj (List.getElem?_eq_some_iff.mp hj).1 nd).mp (hj.trans i1.symm)
  subst eij
  exact ⟨x, y, i2, e⟩
end
def rListItX : List V → Hp → VK → Prop := fun vs H Q => ∃ p a, vs = [.ref p] ∧ H p = some (L2.DX.itemsO p a) ∧ IsDc H a ∧
  ∀ (ps : List (V × V)) (H' : Hp) (l : Addr) (bs : List Addr), PsOf H a ps → (∀ b o, H b = some o → H' b = some o) → H l = none → H' l = some (.lst (bs.map V.ref)) → bs.length = ps.length →
    (∀ (j : Nat) (b : Addr), bs[j]? = some b → b ≠ l ∧ ∃ x y, ps[j]? = some (x, y) ∧ H' b = some (.tup [x, y])) → Q (.ref l) H'
section
variable {X : Cx}
theorem list_start {P : Program} {w : World} {A : Around} {s : Shared} {r d : Addr} {es : Array DictEntry} {ep : Nat} {R : Result → Shared → Prop} (S : Addr) (hh : A.handled = none) (hv : s.heap.IsItemsView r d) (raw : DT.Raw s.heap d es ep) (nr : S ≠ r) (nd : d ≠ S)
    (eS : s.heap.get? S = some { cls := .type "list", data := .seq #[] }) (hn : es.size ≤ sizeLine)
    (q : ∀ h' tk acc c as, (∀ b o, b ≠ S → s.heap.get? b = some o → h'.get? b = some o) → h'.get? S = some { cls := .type "list", dict := none, data := .seq acc c, slots := #[] } → as.length = es.size → DT.Made es S h' as → acc.toList = as.map Value.ref →
      R (.ok (.ret .none)) { s with heap := h', toks := tk }) :
    wpAny (model P w) A.in1 (Builtin.«list.__init__» ⟨[.ref S, .ref r], []⟩) (fun fin s' => match fin with | .done f => R (.ok f) s' | .again c' => c'.quiet = true ∧ codeAny (model P w) A c' R s') (fun e s' => R (.error e) s') s := by
  have up : ∀ b o, b ≠ S → s.heap.get? b = some o → (s.heap.update S (Obj.mapSeq fun _ => (#[] : Array Value))).get? b = some o := fun b o n e => by
    rw [Heap.get?_update_other _ _ n.symm]
    exact e
  have eS2 := Heap.get?_update_self (Obj.mapSeq fun _ => (#[] : Array Value)) eS rfl
  show wpAny _ _ (Builtin.List.listItems (.ref S) >>= _) _ _ s
  refine wpAny_bind ?_
  unfold Builtin.List.listItems
  refine wpAny_bind (wpAny_seqItems eS rfl ?_)
  refine wpAny_pure ?_
  refine wpAny_bind ?_
  show wpAny _ _ (updateSeq S fun _ => #[]) _ _ s
  refine wpAny_updateSeq eS rfl ?_
  refine wpAny_bind (wpAny_letGo ?_)
  have hv2 : (s.heap.update S (Obj.mapSeq fun _ => (#[] : Array Value))).IsItemsView r d := by
    obtain ⟨o, e, z⟩ := hv
    exact ⟨o, up r o nr.symm e, z⟩
  have go := DT.extI (prog := P) (w := w) (A := A) (s := { s with heap := s.heap.update S (Obj.mapSeq fun _ => (#[] : Array Value)) }) (es := es) (ep := ep) (R := R) hh hv2 (raw.at' fun o e => up d o nd e) S nr nd .none _ eS2 (fun h' tk acc c as k1 k2 k3 k4 k5 => ?_) hn
  · exact go
  · exact q h' tk acc c as (fun b o n e => k1 b o n (up b o n e)) k2 k3 (k4.low (Nat.le_of_lt (Heap.lt_size eS2))) k5
theorem cr_listItX (hc : X.calm = true) : CallR X (.type "list") rListItX := by
  intro pins s σ H xs us Q I r h
  obtain ⟨p, a, rfl, hp, hd, q⟩ := h
  obtain rfl := Vals.ref1 r
  have view : s.heap.IsItemsView p a := (show ObjOk X.prog X.w H s.heap p (L2.DX.itemsO p a) from I.hok p _ hp).1
  obtain ⟨ps, es, ep, hps, hn, raw, l1, l2, he⟩ := ents_of I hd
  refine callType_codes (Q₁ := fun obj s₁ => obj = .ref s.heap.objs.size ∧ s₁ = { s with heap := s.heap.push { cls := .type "list", data := .seq #[] } }) PySem.F.called_list (PySem.F.typeCall_list_1 _) PySem.F.entry_list_init (code_list_new _ ⟨rfl, rfl⟩) ?_
  rintro obj s1 ⟨rfl, rfl⟩
  have hr : p < s.heap.objs.size := by
    obtain ⟨o, e, _⟩ := view
    exact Heap.lt_size e
  have eS : (s.heap.push { cls := .type "list", data := .seq #[] }).get? s.heap.objs.size = some { cls := .type "list", data := .seq #[] } := Heap.get?_push_size _ rfl
  have pu : ∀ b o, s.heap.get? b = some o → (s.heap.push { cls := .type "list", data := .seq #[] }).get? b = some o := fun b o e => Heap.get?_push_of_some _ e
  refine ⟨⟨_, eS, rfl⟩, PySem.F.args_list_init_2 _ _, list_start (P := X.prog) (w := X.w) (A := X.A.in1) s.heap.objs.size (I.ok.hd hc) ?_ (raw.push _) (Nat.ne_of_gt hr) (Nat.ne_of_lt raw.lt) eS (by omega) fun h' tk acc c as k1 k2 k3 k4 k5 => ⟨rfl, ?_⟩⟩
  · obtain ⟨o, e, z⟩ := view
    exact ⟨o, pu _ _ e, z⟩
  have kS : ∀ b o, s.heap.get? b = some o → h'.get? b = some o := fun b o e => k1 b o (Nat.ne_of_lt (Heap.lt_size e)) (pu b o e)
  have I0 : Inv X pins σ H { s with heap := h', toks := tk } := I.kept (t' := tk) kS
  have n0 : H s.heap.objs.size = none := I.hok.fresh (Nat.le_refl _)
  have I1 : Inv X pins σ (upd H s.heap.objs.size (.lst (as.map V.ref))) { s with heap := h', toks := tk } := by
    refine I0.take (h' := h') (t' := tk) (fun b ob _ e => e) (I.fpOk (Nat.le_refl _) n0) ⟨?_, acc.toList, c, ?_, ?_⟩
    · rw [List.length_map]
      omega
    · rw [k5]
      exact vals_maps V.ref Value.ref as fun _ _ => rfl
    · rw [Array.toArray_toList]
      exact k2
  have nb : ∀ b ∈ as, b ≠ s.heap.objs.size := fun b hb => Nat.ne_of_gt (k4.above b hb)
  obtain ⟨H2, I2, g, qt⟩ := made_pairs (ps := ps) I k4 (Nat.le_refl _) (by omega) he (fun b _ o e => e) I1 fun b hb => by
    rw [upd_ne (nb b hb)]
    exact I.hok.fresh (Nat.le_of_lt (k4.above b hb))
  refine ⟨.ref s.heap.objs.size, H2, I2, rfl, q ps H2 _ as hps (fun b o e => g b o ?_) n0 (g _ _ upd_same) (by omega) fun j b hj => ⟨nb b (List.mem_of_getElem? hj), qt j b hj⟩⟩
  rw [upd_ne (ne_of_none e n0)]
  exact e
end
def pairD (r : D × D) : D := .tup [r.1, r.2]
def D.listItems (d : D) : M D := match d.rowsD with
  | some rs => .ret (.lst (rs.map pairD))
  | none => .fail
/-- data that can be sorted -/
def okSort (ds : List D) : Bool := ds.all fun d => d.pu && decide (d.py.depth ≤ 30) && ds.all fun e => PySem.W.alike d.py e.py
section
variable {K : PySem.W.Frag} {ρ : List En} {te : TE} {m : M D}
theorem sga_ix {B : List Addr} {H : Hp} : ∀ {xs : List V} {ds : List D}, xs.length = ds.length → (∀ (i : Nat) (x : V) (d : D), xs[i]? = some x → ds[i]? = some d → Sg K B H x d) → SgA K B H xs ds
  | [], [], _, _ => .nil
  | [], _ :: _, h, _ => nomatch h
  | _ :: _, [], h, _ => nomatch h
  | x :: xs, d :: ds, h, k => .cons (k 0 x d rfl rfl) (sga_ix (Nat.succ.inj h) fun i y e h1 h2 => k (i + 1) y e (by simpa using h1) (by simpa using h2))
theorem RN.listItems (h : RR K te ρ m) : RN K (tCB rListItX (tCons (tItX te) tNil)) ρ (m.bind D.listItems) := fun P w B W H σ e Q q =>
  h _ (wp_bind.mp w) B W H σ e _ fun v d H1 g1 s1 w1 => by
    have w2 : wp (match d.rowsD with | some rs => M.ret (.lst (rs.map pairD)) | none => .fail) P := w1
    cases hr : d.rowsD with
    | none =>
      rw [hr] at w2
      exact w2.elim
    | some rs =>
      rw [hr] at w2
      obtain ⟨a, rfl, na, hd, _⟩ := sr_rows s1 hr
      refine ⟨a, rfl, rfl, hd, fun p np => ?_⟩
      have g2 : Gs W H1 (upd H1 p (L2.DX.itemsO p a)) := Gs.new np
      obtain ⟨a', e', _, hd', hp⟩ := sr_rows (s1.gs e.bw.sub g2) hr
      cases e'
      refine ⟨p, a, rfl, upd_same, hd', fun ps H' l bs hps k nl eL lb hb => ?_⟩
      obtain ⟨l1, at_⟩ := hp ps hps
      have g3 : Gs W (upd H1 p (L2.DX.itemsO p a)) H' := Gs.kp k
      have nl0 : H l = none := g1.gw.free l (g2.gw.free l nl)
      refine q l (.lst (rs.map pairD)) H' ((g1.trans g2).trans g3) nl0 ⟨_, eL, sga_ix ?_ fun i x z e1 e2 => ?_⟩ w2
      · rw [List.length_map, List.length_map, lb, l1]
      · rw [List.getElem?_map] at e1 e2
        cases eb : bs[i]? with
        | none =>
          rw [eb] at e1
          cases e1
        | some b =>
          rw [eb] at e1
          cases e1
          obtain ⟨nb, x, y, ep, eb2⟩ := hb i b eb
          obtain ⟨d1, d2, er, sx, sy⟩ := at_ i x y ep
          rw [er] at e2
          cases e2
          exact .tup trivial eb2 (.cons ((Sg.avo nl sx).gw (Gs.kp k).gw) (.cons ((Sg.avo nl sy).gw (Gs.kp k).gw) .nil))
end
end VB
namespace VB
open PySem PySem.Spec PyProof.Rows L2
def D.keyK : D → Option Key
  | .int i => some (.inl i)
  | .str x => some (.inr x)
  | _ => none
def keysK : List D → Option (List Key)
  | [] => some []
  | d :: ds => match d.keyK, keysK ds with
    | some k, some ks => some (k :: ks)
    | _, _ => none
def D.keyT : D → Option (List Key)
  | .tup ds => keysK ds
  | _ => none
section
variable {K : PySem.W.Frag} {B W : List Addr} {H : Hp}
theorem sg_keyK {v : V} {d : D} {k : Key} (s : Sg K B H v d) (e : d.keyK = some k) : v = kV k := by
  cases s <;> cases e <;> rfl
theorem sg_keysK : ∀ {xs : List V} {ds : List D} {k : List Key}, SgA K B H xs ds → keysK ds = some k → xs = k.map kV
  | _, _, _, .nil, e => by cases e; rfl
  | _, d :: ds, k, .cons h r, e => by
    have e : (match d.keyK, keysK ds with | some k, some ks => some (k :: ks) | _, _ => none) = some k := e
    cases e1 : d.keyK with
    | none =>
      rw [e1] at e
      cases e
    | some j =>
      cases e2 : keysK ds with
      | none =>
        rw [e1, e2] at e
        cases e
      | some js =>
        rw [e1, e2] at e
        cases e
        rw [sg_keyK h e1, sg_keysK r e2]
        rfl
theorem sr_keyK {v : V} {d : D} {k : Key} (s : Sr K B W H v d) (e : d.keyK = some k) : v = kV k := by
  cases d with
  | int i => exact sg_keyK (show Sg K B H v (.int i) from s) e
  | str x => exact sg_keyK (show Sg K B H v (.str x) from s) e
  | _ => cases e
theorem sr_keyT {v : V} {d : D} {k : List Key} (s : Sr K B W H v d) (e : d.keyT = some k) : ∃ b, v = .ref b ∧ H b = some (.tup (k.map kV)) := by
  cases d with
  | tup ds =>
    cases (show Sg K B H v (.tup ds) from s) with
    | @tup a xs _ _ h r =>
      rw [sg_keysK r e] at h
      exact ⟨a, rfl, h⟩
  | _ => cases e
def lookD {κ : Type} [DecidableEq κ] : List κ → List D → κ → Option D
  | k :: ks, d :: ds, j => if k = j then some d else lookD ks ds j
  | _, _, _ => none
def RelD (K : PySem.W.Frag) (B : List Addr) (H : Hp) : Option V → Option D → Prop
  | some z, some e => Sg K B H z e
  | none, none => True
  | _, _ => False
theorem val_look {κ : Type} [DecidableEq κ] : ∀ {kvs : List (κ × V)} {ds : List D}, SgA K B H (kvs.map (·.2)) ds → ∀ k : κ, RelD K B H (valV kvs k) (lookD (kvs.map (·.1)) ds k)
  | [], _, .nil, k => trivial
  | p :: kvs, d :: ds, .cons h r, k => by
    show RelD K B H (valV (p :: kvs) k) (if p.1 = k then some d else lookD (kvs.map (·.1)) ds k)
    by_cases e : p.1 = k
    · rw [valV_pos e, if_pos e]
      exact h
    · rw [valV_neg e, if_neg e]
      exact val_look r k
/-- what the dict x holds at y -/
def D.dlook (x y : D) : Option (Option D) := match x with
  | .dic ks ds => y.keyK.map fun k => lookD ks ds k
  | .dit ks ds => y.keyT.map fun k => lookD ks ds k
  | _ => none
theorem dget_of {v u : V} {x y : D} {o : Option D} (s : Sr K B W H v x) (t : Sr K B W H u y) (e : x.dlook y = some o) : ∃ a r, v = .ref a ∧ L2.IsD H a ∧ DGet H a u r ∧ RelD K B H r o := by
  cases x with
  | dic ks ds =>
    obtain ⟨k, e1, rfl⟩ := Option.map_eq_some_iff.mp e
    obtain ⟨a, kvs, rfl, _, h, rfl, r⟩ := s
    exact ⟨a, _, rfl, .inl ⟨kvs, h⟩, .inl ⟨kvs, k, h, sr_keyK t e1, rfl⟩, val_look r k⟩
  | dit ks ds =>
    obtain ⟨k, e1, rfl⟩ := Option.map_eq_some_iff.mp e
    obtain ⟨a, kvs, rfl, _, h, rfl, r⟩ := s
    obtain ⟨b, rfl, eb⟩ := sr_keyT t e1
    exact ⟨a, _, rfl, .inr ⟨kvs, h⟩, .inr ⟨kvs, k, b, h, rfl, eb, rfl⟩, val_look r k⟩
  | _ => cases e
end
def rDIn : R2 := fun y x H Q => ∃ a o, x = .ref a ∧ DGet H a y o ∧ Q (.bl o.isSome) H
def rDIx : R2 := fun x y H Q => ∃ a v, x = .ref a ∧ DGet H a y (some v) ∧ Q v H
section
variable {X : Cx} {K : PySem.W.Frag}
theorem op_inDc (hu : X.A.units + 65 < cLine) : OpR X (compareOp .In) rDIn := by
  intro pins s σ H y x u v Q I ry rx h
  obtain ⟨a, o, rfl, g, q⟩ := h
  cases (show v = Value.ref a from rx)
  refine d_in (by omega) I g ry fun s' I' => ?_
  exact ⟨.bl o.isSome, H, I', rfl, q⟩
theorem ix_dc (hu : X.A.units + 65 < cLine) : IxR X rDIx := by
  intro value slice pins s σ H x y v u Q I rx ry h hs
  obtain ⟨a, z, rfl, g, q⟩ := h
  cases (show v = Value.ref a from rx)
  have ty := dict_typeIs I g
  unfold subscriptTail
  refine wpAny_bind ?_
  rw [getitemInPython_of_ne ty.not_modules]
  have go : wpAny (model X.prog X.w) X.A (subscripted slice false (.ref a) u) (fun r s3 => wpAny (model X.prog X.w) X.A (letTemporaryGo value (.ref a) r >>= fun _ => pure r) (EP X pins σ Q) X.xe s3) X.xe s := by
    rw [hs]
    refine wpAny_operating (d_getItem (by omega) I g ry fun w' s' I' r' => ?_)
    refine wpAny_bind (wpAny_letTemporaryGo ?_)
    exact wpAny_pure ⟨z, H, I', r', q⟩
  refine wpAny_bind (wpAny_specialOf ty PySem.F.slot_dict_getitem.lookup ?_)
  first | exact wpAny_pure (wpAny_bind go) | exact wpAny_bind (wpAny_pure (wpAny_bind go)) | exact wpAny_bind go
abbrev rInA (K : PySem.W.Frag) : R2 := rOr (rInX K) rDIn
abbrev rIxA (K : PySem.W.Frag) : R2 := rOr (rIx K) rDIx
theorem op_inA (h : X.K = K) (hu : X.A.units + 65 < cLine) : OpR X (compareOp .In) (rInA K) := opr_or (op_inX h hu) (op_inDc hu)
theorem ixA (h : X.K = K) (hu : X.A.units + 65 < cLine) : IxR X (rIxA K) := ixr_or (ixX h) (ix_dc hu)
def M.ofOO {α : Type} (o : Option (Option D)) (k : Option D → M α) : M α := match o with
  | some o => k o
  | none => .fail
theorem ofOO_at {α : Type} {o : Option (Option D)} {k : Option D → M α} {P : α → Prop} (w : wp (M.ofOO o k) P) : ∃ o', o = some o' ∧ wp (k o') P := by
  cases o with
  | none => exact w.elim
  | some o => exact ⟨o, rfl, w⟩
def D.isDc : D → Bool
  | .dic _ _ => true
  | .dit _ _ => true
  | _ => false
def D.inA (x y : D) : M D := if y.isDc = true then M.ofOO (y.dlook x) fun o => .ret (.bl o.isSome) else D.inM x y
def D.ixA (x y : D) : M D := if x.isDc = true then M.ofOO (x.dlook y) M.ofD else D.ix x y
theorem relD_some {B : List Addr} {H : Hp} {r : Option V} {o : Option D} (h : RelD K B H r o) : r.isSome = o.isSome := by
  cases r <;> cases o <;> first | rfl | exact h.elim
theorem inA_d : OpD K (rInA K) D.inA := by
  intro x y P w B W H v u b sv su Q q
  unfold D.inA at w
  by_cases h : y.isDc = true
  · rw [if_pos h] at w
    obtain ⟨o, e, w⟩ := ofOO_at w
    obtain ⟨a, r, rfl, _, g, hr⟩ := dget_of su sv e
    exact .inr ⟨a, r, rfl, g, by rw [relD_some hr]; exact q _ _ H Gs.refl (.bl _) w⟩
  · rw [if_neg h] at w
    exact .inl (in_d x y P w B W H v u b sv su Q q)
theorem ixA_d : OpD K (rIxA K) D.ixA := by
  intro x y P w B W H v u b sv su Q q
  unfold D.ixA at w
  by_cases h : x.isDc = true
  · rw [if_pos h] at w
    obtain ⟨o, e, w⟩ := ofOO_at w
    obtain ⟨d, rfl, w⟩ := ofD_at w
    obtain ⟨a, r, rfl, _, g, hr⟩ := dget_of sv su e
    cases r with
    | none => exact hr.elim
    | some z => exact .inr ⟨a, z, rfl, g, q _ _ H Gs.refl hr w⟩
  · rw [if_neg h] at w
    exact .inl (ix_d x y P w B W H v u b sv su Q q)
end
section
variable {X : Cx} {K : PySem.W.Frag}
def rLenDc : List V → Hp → VK → Prop := fun xs H Q => ∃ (a : Addr) (n : Nat), xs = [.ref a] ∧ ((∃ kvs, Rd H a (.dK kvs) ∧ n = kvs.length) ∨ ∃ kvs, Rd H a (.dT kvs) ∧ n = kvs.length) ∧ Q (.int n) H
theorem call_lenDc : CallR X (.builtin "len") rLenDc := by
  intro pins s σ H xs us Q I r h
  obtain ⟨a, n, rfl, hk, q⟩ := h
  obtain ⟨u, rfl, ru⟩ := r.one
  cases ru
  rcases hk with ⟨kvs, hk, rfl⟩ | ⟨kvs, hk, rfl⟩
  · refine d_len I hk fun t s' I' => ?_
    exact ⟨.int kvs.length, H, I', ⟨_, rfl⟩, q⟩
  · obtain ⟨z, hd, ys, rel, dd⟩ := dt_rd I.hok hk
    have hl : kvs.length = ys.length := Paired.length rel
    rw [sizeLine_eq] at z
    refine call_len_dictH hd dd (by omega) ?_
    rw [← hl]
    exact ⟨.int kvs.length, H, I.tok _, ⟨_, rfl⟩, q⟩
def D.lenA (x : D) : M D := match x with
  | .dic ks _ => .ret (.int ks.length)
  | .dit ks _ => .ret (.int ks.length)
  | .etup => .ret (.int 0)
  | d => d.len
abbrev rLenA (K : PySem.W.Frag) := rOrC (rLenK K) rLenDc
theorem kLenA (h : X.K = K) : CallR X (.builtin "len") (rLenA K) := cr_or (kLen h) call_lenDc
theorem lenA_c : CaD K (rLenA K) (M.one D.lenA) := by
  intro ds P w B W H vs b s Q q
  match ds, w with
  | [x], w =>
    cases x with
    | dic ks ds =>
      cases s with
      | cons s1 s2 =>
        cases s2
        obtain ⟨a, kvs, rfl, _, h, rfl, r⟩ := s1
        exact .inr ⟨a, _, rfl, .inl ⟨kvs, h, (List.length_map _)⟩, q _ _ H Gs.refl (.int _) w⟩
    | dit ks ds =>
      cases s with
      | cons s1 s2 =>
        cases s2
        obtain ⟨a, kvs, rfl, _, h, rfl, r⟩ := s1
        exact .inr ⟨a, _, rfl, .inr ⟨kvs, h, (List.length_map _)⟩, q _ _ H Gs.refl (.int _) w⟩
    | etup =>
      cases s with
      | cons s1 s2 =>
        cases s2
        cases (show Sg K B H _ .etup from s1) with
        | etup hz => exact .inl ⟨_, _, rfl, Or.inr ⟨_, hz H, rfl⟩, q _ _ H Gs.refl (.int 0) w⟩
    | _ =>
      refine .inl (len_c _ P ?_ B W H vs b s Q q)
      exact w
/-- the keys in their order -/
def rListDc : List V → Hp → VK → Prop := fun xs H Q => ∃ a, xs = [V.ref a] ∧ ((∃ kvs : List (Key × V), Rd H a (.dK kvs) ∧ ∀ p, H p = none → Q (.ref p) (upd H p (.lst (kvs.map fun kv => kV kv.1)))) ∨
  ∃ kvs : List (List Key × V), Rd H a (.dT kvs) ∧ ∀ p bs, H p = none → IsKeys H kvs bs → Q (.ref p) (upd H p (.lst (bs.map V.ref))))
theorem call_listDc (hc : X.calm = true) : CallR X (.type "list") rListDc := by
  intro pins s σ H xs us Q I r h
  obtain ⟨a, rfl, h⟩ := h
  rcases h with ⟨kvs, hk, q⟩ | ⟨kvs, hk, q⟩
  · exact call_listD hc pins s σ H _ us Q I r ⟨a, kvs, rfl, hk, q⟩
  · exact call_list_dT hc pins s σ H _ us Q I r ⟨a, kvs, rfl, hk, q⟩
def D.toLstA (x : D) : M D := match x with
  | .dic ks _ => .ret (.lst (ks.map kDD))
  | .dit ks _ => .ret (.lst (ks.map tkD))
  | d => d.toLst
abbrev rLstA (K : PySem.W.Frag) := rOrC (rLstK K) rListDc
theorem kLstA (h : X.K = K) (hc : X.calm = true) : CallR X (.type "list") (rLstA K) := cr_or (kLst h) (call_listDc hc)
theorem sga_tks {B : List Addr} {H : Hp} : ∀ {kvs : List (List Key × V)} {bs : List Addr}, IsKeys H kvs bs → SgA K B H (bs.map V.ref) ((kvs.map (·.1)).map tkD) := fun {kvs bs} h => by
  unfold IsKeys at h
  induction h with
  | nil => exact .nil
  | cons h t ih => exact .cons (.tup trivial h (sg_kDs _)) ih
theorem lstA_c : CaN K (rLstA K) (M.one D.toLstA) := by
  intro ds P w B W H vs b s Q q
  match ds, w with
  | [x], w =>
    cases x with
    | dic ks ds =>
      cases s with
      | cons s1 s2 =>
        cases s2
        obtain ⟨a, kvs, rfl, _, h, rfl, r⟩ := s1
        have w1 : P (.lst ((kvs.map (·.1)).map kDD)) := w
        refine .inr ⟨a, rfl, .inl ⟨kvs, h, fun p np => q p (.lst ((kvs.map (·.1)).map kDD)) _ (Gs.new np) np ⟨_, upd_same, ?_⟩ w1⟩⟩
        have z : SgA K B H ((kvs.map (·.1)).map kV) ((kvs.map (·.1)).map kDD) := sg_kDs _
        rw [List.map_map] at z
        exact z.out np
    | dit ks ds =>
      cases s with
      | cons s1 s2 =>
        cases s2
        obtain ⟨a, kvs, rfl, _, h, rfl, r⟩ := s1
        have w1 : P (.lst ((kvs.map (·.1)).map tkD)) := w
        exact .inr ⟨a, rfl, .inr ⟨kvs, h, fun p bs np ik => q p (.lst ((kvs.map (·.1)).map tkD)) _ (Gs.new np) np ⟨_, upd_same, (sga_tks ik).out np⟩ w1⟩⟩
    | _ =>
      refine .inl (lst_c _ P ?_ B W H vs b s Q q)
      exact w
end
def putKs {κ : Type} [DecidableEq κ] (ks : List κ) (k : κ) : List κ := if k ∈ ks then ks else ks ++ [k]
def putDs {κ : Type} [DecidableEq κ] (ks : List κ) (ds : List D) (k : κ) (x : D) : List D := if k ∈ ks then ks.zipWith (fun j d => if j = k then x else d) ds else ds ++ [x]
section
variable {K : PySem.W.Frag} {B : List Addr} {H : Hp}
theorem put_keys {κ : Type} [DecidableEq κ] (kvs : List (κ × V)) (k : κ) (v : V) : (putK kvs k v).map (·.1) = putKs (kvs.map (·.1)) k := by
  unfold putK putKs
  have e : ((kvs.any fun kv => decide (kv.1 = k)) = true) ↔ k ∈ kvs.map (·.1) := by
    rw [List.any_eq_true]
    simp only [decide_eq_true_eq, List.mem_map]
  by_cases h : k ∈ kvs.map (·.1)
  · rw [if_pos (e.mpr h), if_pos h, List.map_map]
    refine List.map_congr_left fun p _ => ?_
    by_cases z : p.1 = k <;> simp [z]
  · rw [if_neg (fun z => h (e.mp z)), if_neg h, List.map_append]
    rfl
theorem put_vals {κ : Type} [DecidableEq κ] {kvs : List (κ × V)} {ds : List D} {k : κ} {v : V} {x : D} (r : SgA K B H (kvs.map (·.2)) ds) (s : Sg K B H v x) : SgA K B H ((putK kvs k v).map (·.2)) (putDs (kvs.map (·.1)) ds k x) := by
  unfold putK putDs
  have e : ((kvs.any fun kv => decide (kv.1 = k)) = true) ↔ k ∈ kvs.map (·.1) := by
    rw [List.any_eq_true]
    simp only [decide_eq_true_eq, List.mem_map]
  by_cases h : k ∈ kvs.map (·.1)
  · rw [if_pos (e.mpr h), if_pos h]
    clear h e
    induction kvs generalizing ds with
    | nil =>
      cases r
      exact .nil
    | cons p kvs ih =>
      cases r with
      | cons h r =>
        refine .cons ?_ (ih r)
        by_cases z : p.1 = k
        · simp only [z, if_true]
          exact s
        · simp only [z, if_false]
          exact h
  · rw [if_neg (fun z => h (e.mp z)), if_neg h, List.map_append]
    exact r.append (.cons s .nil)
end
/-- a list's item or a dict's value set -/
def rSetA : TSet := fun o i v H Q => rSetL o i v H Q ∨ rSetD o i v H Q
theorem set_A {X : Cx} (hu : X.A.units + 65 < cLine) : PSet X rSetA := by
  intro pins s σ H o i v ov iv u Q I ro ri rv h
  rcases h with h | h
  · exact set_list pins s σ H o i v ov iv u Q I ro ri rv h
  · exact set_dict (by omega) pins s σ H o i v ov iv u Q I ro ri rv h
def D.setA {α : Type} (d y x : D) (k : D → M α) : M α := match d with
  | .lst ds => y.asI.bind fun n => match ixN ds.length n with
    | some j => k (.lst (ds.set j x))
    | none => .fail
  | .dic ks ds => match y.keyK with
    | some j => if ks.length < 16777216 then k (.dic (putKs ks j) (putDs ks ds j x)) else .fail
    | none => .fail
  | .dit ks ds => match y.keyT with
    | some j => if ks.length < 16777216 then k (.dit (putKs ks j) (putDs ks ds j x)) else .fail
    | none => .fail
  | _ => .fail
section
variable {K : PySem.W.Frag} {R : Po → Prop} {u : TS} {ρ : List En} {α : Type} {C : Po → α → Prop} {te tk : TE} {md mk : M D} {i : Nat} {tg : Option Addr} {d : D}
theorem own_goA {F B W : List Addr} {H H1 : Hp} {σ : L2.St} {a : Addr} {o' : HO} {d d' : D} {M : List En → Prop} {Q : L2.St → Hp → Prop} (e : EnvOk K B W H σ ρ) (f : Fr F B W σ ρ) (g : Gs W H H1) (hi : ρ[i]? = some (.own ⟨tg, d⟩)) (hv : σ[i]? = some (some (.ref a)))
    (r : OwAt K B (upd H1 a o') a d') (q : Cn K F W H σ ρ M Q) (p : M (ρ.set i (.own ⟨tg, d'⟩))) : Q σ (upd H1 a o') := by
  have e1 := e.gs g
  obtain ⟨aB, aW, aK⟩ := e1.ownB ⟨i, _, hi, hv⟩
  have aT : NoT H1 a := by
    obtain ⟨b, eb, _, _, _, ow⟩ := e1.sl i _ hi
    rw [hv] at eb
    cases eb
    exact ow.nt
  have e2 := e1.upO (d' := d') (u := o') hi hv r
  have os : ∀ x, Own σ (ρ.set i (.own ⟨tg, d'⟩)) x → Own σ ρ x := fun x ⟨j, dj, h1, h2⟩ => by
    by_cases z : i = j
    · subst z
      exact ⟨i, _, hi, h2⟩
    · rw [List.getElem?_set_ne z] at h1
      exact ⟨j, dj, h1, h2⟩
  obtain ⟨B2, e3, f3⟩ := e2.fix (F := F) f.fb (fun x m o => f.no x m (os x o)) f.wf
  have gw : Gw [a] H1 (upd H1 a o') := Gw.wr (List.mem_singleton_self a) aT
  refine q _ _ _ B2 ⟨fun x o nw nu ex => ?_, fun x z => g.gw.free x (gw.free x z), fun b m c ns nc nu hb => ?_, fun x o => .inl (os x o), fun x ys ex => gw.tups x ys (g.gw.tups x ys ex)⟩ e3 f3 p
  · refine gw.keep x o (fun z => nu ?_) (g.gw.keep x o nw ex)
    rw [List.mem_singleton.mp z]
    exact ⟨i, _, hi, hv⟩
  · refine (g.bag b m c ns nc hb).wr (fun z => aW (z ▸ m)) fun z => nu ?_
    rw [z]
    exact ⟨i, _, hi, hv⟩
theorem G.setA {kk : D → M α} (hi : ρ[i]? = some (.own ⟨tg, d⟩)) (he : RE K te ρ md) (hk : RE K tk ρ mk) (h : ∀ d', G K R u (ρ.set i (.own ⟨tg, d'⟩)) (kk d') C) :
    G K R (tSeq (tAsg te (gSub (tVar i) tk rSetA)) u) ρ (md.bind fun x => mk.bind fun y => D.setA d y x kk) C := fun P r w => ST.seq fun F B W H σ e f E q1 q2 q3 q4 =>
  he _ (wp_bind.mp w) B W H σ e _ fun v x H1 g1 s1 w1 => by
    obtain ⟨a, ea, aB, aW, _, _⟩ := e.sl i _ hi
    refine ⟨_, ea, hk _ (wp_bind.mp w1) B W H1 σ (e.gs g1) _ fun y yd H2 g2 s2 w2 => ?_⟩
    have g12 := g1.trans g2
    obtain ⟨a', ea', _, _, _, ow⟩ := (e.gs g12).sl i _ hi
    rw [ea] at ea'
    cases ea'
    have s1' := s1.gw ((e.gs g1).bw.gw g2)
    have aT : NoT H2 a := ow.nt
    cases d with
    | lst ds =>
      obtain ⟨xs, hx, r'⟩ := ow
      obtain ⟨n, rfl, w3⟩ := asI_at (wp_bind.mp (show wp (yd.asI.bind fun n => match ixN ds.length n with | some j => kk (.lst (ds.set j x)) | none => .fail) (C P) from w2))
      have w3 : wp (match ixN ds.length n with | some j => kk (.lst (ds.set j x)) | none => .fail) (C P) := w3
      cases s2
      cases ej : ixN ds.length n with
      | none =>
        rw [ej] at w3
        exact w3.elim
      | some j =>
        rw [ej] at w3
        exact .inl ⟨a, xs, n, j, rfl, rfl, hx, by rw [r'.length]; exact ej, own_goA (d' := .lst (ds.set j x)) e f g12 hi ea ⟨_, upd_same, (SgA.setAt s1' j r').gw (Gw.wr aB aT)⟩ q1 (h _ P r w3)⟩
    | dic ks ds =>
      obtain ⟨kvs, hx, rfl, r'⟩ := ow
      have w3 : wp (match yd.keyK with | some j => if (kvs.map (·.1)).length < 16777216 then kk (.dic (putKs (kvs.map (·.1)) j) (putDs (kvs.map (·.1)) ds j x)) else .fail | none => .fail) (C P) := w2
      cases ej : yd.keyK with
      | none =>
        rw [ej] at w3
        exact w3.elim
      | some j =>
        rw [ej] at w3
        obtain ⟨hz, w4⟩ := wp_ite w3
        rw [List.length_map] at hz
        refine .inr ⟨a, _, rfl, .inl ⟨kvs, j, hx, sg_keyK s2 ej, by rw [sizeLine_eq]; exact hz, rfl⟩, own_goA (d' := .dic _ _) e f g12 hi ea ⟨_, upd_same, put_keys _ _ _, (put_vals r' s1').gw (Gw.wr aB aT)⟩ q1 (h _ P r w4)⟩
    | dit ks ds =>
      obtain ⟨kvs, hx, rfl, r'⟩ := ow
      have w3 : wp (match yd.keyT with | some j => if (kvs.map (·.1)).length < 16777216 then kk (.dit (putKs (kvs.map (·.1)) j) (putDs (kvs.map (·.1)) ds j x)) else .fail | none => .fail) (C P) := w2
      cases ej : yd.keyT with
      | none =>
        rw [ej] at w3
        exact w3.elim
      | some j =>
        rw [ej] at w3
        obtain ⟨hz, w4⟩ := wp_ite w3
        rw [List.length_map] at hz
        obtain ⟨b, rfl, eb⟩ := sr_keyT (s2.sr (W := W) (e.gs g12).bw.sub) ej
        refine .inr ⟨a, _, rfl, .inr ⟨kvs, j, b, hx, rfl, eb, by rw [sizeLine_eq]; exact hz, rfl⟩, own_goA (d' := .dit _ _) e f g12 hi ea ⟨_, upd_same, put_keys _ _ _, (put_vals r' s1').gw (Gw.wr aB aT)⟩ q1 (h _ P r w4)⟩
    | _ => exact w2.elim
/-- `{}` whose keys will be tuples -/
theorem RN.dnewT {ρ : List En} : RN K tDNewT ρ (.ret (.dit [] [])) := fun P p B W H σ e Q q p0 np => q p0 (.dit [] []) _ (Gs.new np) np ⟨[], upd_same, rfl, .nil⟩ p
end
end VB
namespace VB
open PySem PySem.Spec PyProof.Rows L2
def DcO (u : HO) : Prop := (∃ kvs : List (Key × V), u = .dK kvs) ∨ ∃ kvs : List (List Key × V), u = .dT kvs
theorem DcO.nf {u : HO} (h : DcO u) : ∀ o w, u ≠ .frz o w := fun o w z => by
  rcases h with ⟨_, rfl⟩ | ⟨_, rfl⟩ <;> cases z
theorem DcO.mut {u : HO} (h : DcO u) : Mut (some u) := by
  rcases h with ⟨_, rfl⟩ | ⟨_, rfl⟩ <;> exact True.intro
/-- any dict -/
def DcA (u : HO) : Prop := DcO u ∨ ∃ (w : World) (a : Addr) (kvs : List KvN), u = DicNX w a kvs
theorem DcA.nf {u : HO} (h : DcA u) : ∀ o w, u ≠ .frz o w := fun o w z => by
  rcases h with h | ⟨_, _, _, rfl⟩
  · exact h.nf o w z
  · cases z
theorem DcA.mut {u : HO} (h : DcA u) : Mut (some u) := by
  rcases h with h | ⟨_, _, _, rfl⟩
  · exact h.mut
  · exact True.intro
/-- the dict at a is locked, or unlocked -/
structure Lk (a : Addr) (H H' : Hp) : Prop where
  off : ∀ b, b ≠ a → H' b = H b
  at_ : ∃ u, DcA u ∧ Rd H a u ∧ Rd H' a u
section
variable {K : PySem.W.Frag} {B W : List Addr} {H H' : Hp} {a : Addr}
theorem Lk.lock {u : HO} (d : DcA u) (e : H a = some u) (o : Obj) : Lk a H (upd H a (.frz o u)) := ⟨fun b n => upd_ne n, u, d, .inl e, .inr ⟨o, upd_same⟩⟩
theorem Lk.unlock {u : HO} {o : Obj} (d : DcA u) (e : H a = some (.frz o u)) : Lk a H (upd H a u) := ⟨fun b n => upd_ne n, u, d, .inr ⟨o, e⟩, .inl upd_same⟩
theorem Lk.ne (l : Lk a H H') {b : Addr} {o : HO} (e : H b = some o) (n : ¬ DcA o) (nf : ∀ z w, o ≠ .frz z w) : b ≠ a := by
  rintro rfl
  obtain ⟨u, d, h, _⟩ := l.at_
  rcases h with h | ⟨z, h⟩
  · rw [e] at h
    cases h
    exact n d
  · rw [e] at h
    cases h
    exact nf _ _ rfl
theorem Lk.keep (l : Lk a H H') {b : Addr} {o : HO} (e : H b = some o) (n : ¬ DcA o) (nf : ∀ z w, o ≠ .frz z w) : H' b = some o := by
  rw [l.off b (l.ne e n nf)]
  exact e
theorem Lk.rd (l : Lk a H H') {b : Addr} {w : HO} (h : Rd H b w) (d : DcA w) : Rd H' b w := by
  by_cases z : b = a
  · subst z
    obtain ⟨u, du, hu, hu'⟩ := l.at_
    have e := rd_one h hu d.nf du.nf
    subst e
    exact hu'
  · exact rd_map h fun o e => by
      rw [l.off b z]
      exact e
theorem nd_lst {xs : List V} : ¬ DcA (.lst xs) := fun h => by rcases h with (⟨_, z⟩ | ⟨_, z⟩) | ⟨_, _, _, z⟩ <;> cases z
theorem nd_tup {xs : List V} : ¬ DcA (.tup xs) := fun h => by rcases h with (⟨_, z⟩ | ⟨_, z⟩) | ⟨_, _, _, z⟩ <;> cases z
theorem nd_ins {C dx : Addr} {fs : List (Str × V)} : ¬ DcA (.ins C dx fs) := fun h => by rcases h with (⟨_, z⟩ | ⟨_, z⟩) | ⟨_, _, _, z⟩ <;> cases z
mutual
theorem Lk.sg (l : Lk a H H') : ∀ {v : V} {d : D}, Sg K B H v d → Sg K B H' v d
  | _, _, .non => .non
  | _, _, .bl b => .bl b
  | _, _, .int i => .int i
  | _, _, .str x => .str x
  | _, _, .ty n => .ty n
  | _, _, .raw a => .raw a
  | _, _, .tup n h r => .tup n (l.keep h nd_tup fun _ _ z => nomatch z) (Lk.sga l r)
  | _, _, .etup h => .etup h
  | _, _, .lst n h r => .lst n (l.keep h nd_lst fun _ _ z => nomatch z) (Lk.sga l r)
  | _, _, .dic n h e r => .dic n (l.rd h (.inl (.inl ⟨_, rfl⟩))) e (Lk.sga l r)
  | _, _, .dit n h e r => .dit n (l.rd h (.inl (.inr ⟨_, rfl⟩))) e (Lk.sga l r)
  | _, _, .din n h e q r => .din n (l.rd h (.inr ⟨_, _, _, rfl⟩)) e (Lk.sga l q) (Lk.sga l r)
  | _, _, .ins n h e r => .ins n (l.keep h nd_ins fun _ _ z => nomatch z) e (Lk.sga l r)
theorem Lk.sga (l : Lk a H H') : ∀ {vs : List V} {ds : List D}, SgA K B H vs ds → SgA K B H' vs ds
  | _, _, .nil => .nil
  | _, _, .cons h r => .cons (Lk.sg l h) (Lk.sga l r)
end
mutual
theorem Lk.snp {N : Addr → Prop} (l : Lk a H H') : ∀ {v : V} {d : D}, SnP K B N H v d → SnP K B N H' v d
  | _, _, .flt s q => .flt (l.sg s) q
  | _, _, .tup h r => .tup (l.keep h nd_tup fun _ _ z => nomatch z) (Lk.snpa l r)
  | _, _, .lst n m h r => .lst n m (l.keep h nd_lst fun _ _ z => nomatch z) (Lk.snpa l r)
theorem Lk.snpa {N : Addr → Prop} (l : Lk a H H') : ∀ {vs : List V} {ds : List D}, SnPA K B N H vs ds → SnPA K B N H' vs ds
  | _, _, .nil => .nil
  | _, _, .cons h r => .cons (Lk.snp l h) (Lk.snpa l r)
end
theorem Lk.sr (l : Lk a H H') {v : V} {d : D} (s : Sr K B W H v d) : Sr K B W H' v d := by
  cases d with
  | lst ds =>
    obtain ⟨b, xs, rfl, n, h, r⟩ := s
    exact ⟨b, xs, rfl, n, l.keep h nd_lst (fun _ _ z => nomatch z), l.sga r⟩
  | dic ks ds =>
    obtain ⟨b, xs, rfl, n, h, e, r⟩ := s
    exact ⟨b, xs, rfl, n, l.rd h (.inl (.inl ⟨_, rfl⟩)), e, l.sga r⟩
  | dit ks ds =>
    obtain ⟨b, xs, rfl, n, h, e, r⟩ := s
    exact ⟨b, xs, rfl, n, l.rd h (.inl (.inr ⟨_, rfl⟩)), e, l.sga r⟩
  | din w kk ks ds =>
    obtain ⟨b, xs, rfl, n, h, e, q, r⟩ := s
    exact ⟨b, xs, rfl, n, l.rd h (.inr ⟨_, _, _, rfl⟩), e, l.sga q, l.sga r⟩
  | ins C ks ds =>
    obtain ⟨b, dx, xs, rfl, n, h, e, r⟩ := s
    exact ⟨b, dx, xs, rfl, n, l.keep h nd_ins (fun _ _ z => nomatch z), e, l.sga r⟩
  | _ => exact Lk.sg l s
theorem Lk.bag (l : Lk a H H') {b c : Addr} {ns : List Int} (h : BagC H b c ns) : BagC H' b c ns := by
  obtain ⟨⟨z, s, i, e, v⟩, e2, h2⟩ := h
  exact ⟨⟨z, s, i, l.keep e nd_lst (fun _ _ z => nomatch z), v⟩, l.keep e2 nd_lst (fun _ _ z => nomatch z), h2⟩
theorem Lk.owat (l : Lk a H H') {b : Addr} {d : D} (n : b ≠ a) (h : OwAt K B H b d) : OwAt K B H' b d := h.mv (fun o e => by
  rw [l.off b n]
  exact e) fun _ _ r => l.sga r
theorem Lk.none (l : Lk a H H') {b : Addr} : H' b = none ↔ H b = none := by
  by_cases z : b = a
  · subst z
    obtain ⟨u, _, h, h'⟩ := l.at_
    exact ⟨fun e => absurd e (rd_some h'), fun e => absurd e (rd_some h)⟩
  · rw [l.off b z]
theorem Lk.env (l : Lk a H H') {σ : L2.St} {ρ : List En} (e : EnvOk K B W H σ ρ) (no : ¬ Own σ ρ a) : EnvOk K B W H' σ ρ := by
  refine ⟨⟨e.bw.sub, fun b m z => e.bw.kn b m (l.none.mp z)⟩, e.len, fun i en h => ?_, e.one, e.sep⟩
  have k := e.sl i en h
  cases en with
  | no => trivial
  | dat d =>
    obtain ⟨v, e1, s⟩ := k
    exact ⟨v, e1, l.sg s⟩
  | bag b =>
    obtain ⟨e1, m, c, ns, nc, hb⟩ := k
    exact ⟨e1, m, c, ns, nc, l.bag hb⟩
  | own d =>
    obtain ⟨p, e1, m, n, ht, ow⟩ := k
    exact ⟨p, e1, m, n, ht, l.owat (fun z => no (z ▸ ⟨i, d, h, e1⟩)) ow⟩
  | bor d =>
    obtain ⟨v, e1, s⟩ := k
    exact ⟨v, e1, l.sr s⟩
end
def tLockX (t : TS) : TS := fun D σ H => tLock t D σ H ∨ t D σ H
theorem ps_lockX {X : Cx} {st : Stmt} {t : TS} (h : PS X st t) : PS X st (tLockX t) := by
  refine ⟨fun pins s σ H D I hw => ?_⟩
  rcases hw with hw | hw
  · exact (ps_lock h).run pins s σ H D I hw
  · exact h.run pins s σ H D I hw
/-- the dict of that local is locked -/
def D.isDcA : D → Bool
  | .dic _ _ => true
  | .dit _ _ => true
  | .din _ _ _ _ => true
  | _ => false
def LkAt (i : Nat) (σ : L2.St) (H : Hp) : Prop := ∃ (a : Addr) (od : Obj) (u : HO), σ[i]? = some (some (.ref a)) ∧ H a = some (.frz od u) ∧ DcA u
def STL (K : PySem.W.Frag) (i : Nat) (t : TS) (ρ : List En) (P : Po) : Prop := ∀ (F B W : List Addr) (H : Hp) (σ : L2.St), EnvOk K B W H σ ρ → Fr F B W σ ρ → LkAt i σ H → ∀ E : Ends,
  Cn K F W H σ ρ P.nx E.nx → Cr K P.fr F W H σ ρ P.rt E.rt → Cn K F W H σ ρ P.bk E.bk → Cn K F W H σ ρ P.ct E.ct → t E σ H
section
variable {K : PySem.W.Frag} {ρ : List En} {P : Po} {t : TS} {i : Nat} {d : D}
theorem lk_gu {W : List Addr} {σ σ' : L2.St} {ρ' : List En} {H H1 H' H2 : Hp} {a : Addr} (l : Lk a H H1) (g : Gu W (Own σ ρ) (Own σ' ρ') H1 H') (l2 : Lk a H' H2) (e : H2 a = H a) : Gu W (Own σ ρ) (Own σ' ρ') H H2 := by
  refine ⟨fun b o nW nU h => ?_, fun b z => l.none.mp (g.free b (l2.none.mp z)), fun b m c ns nc nu h => l2.bag (g.bag b m c ns nc nu (l.bag h)), fun b u => (g.own b u).imp id fun z => l.none.mp z, fun b xs h => ?_⟩
  · by_cases z : b = a
    · subst z
      rw [e]
      exact h
    · rw [l2.off b z]
      refine g.keep b o nW nU ?_
      rw [l.off b z]
      exact h
  · exact l2.keep (g.tups b xs (l.keep h nd_tup fun _ _ z => nomatch z)) nd_tup fun _ _ z => nomatch z
theorem ST.lock (hi : ρ[i]? = some (.dat d)) (hd : d.isDcA = true) (h : STL K i t ρ P) : ST K (tLockX t) ρ P := fun F B W H σ e f E q1 q2 q3 q4 => by
  obtain ⟨v, ev, sv⟩ := e.sl i _ hi
  obtain ⟨a, u, rfl, na, hr, du⟩ : ∃ a u, v = .ref a ∧ a ∉ B ∧ Rd H a u ∧ DcA u := by
    cases sv with
    | dic n h _ _ => exact ⟨_, _, rfl, n, h, .inl (.inl ⟨_, rfl⟩)⟩
    | dit n h _ _ => exact ⟨_, _, rfl, n, h, .inl (.inr ⟨_, rfl⟩)⟩
    | din n h _ _ _ => exact ⟨_, _, rfl, n, h, .inr ⟨_, _, _, rfl⟩⟩
    | _ => cases hd
  have no : ¬ Own σ ρ a := fun o => na (e.ownB o).1
  have nW : a ∉ W := fun m => na (e.bw.sub a m)
  rcases hr with hr | ⟨od, hr⟩
  · refine .inl ⟨a, u, hr, du.mut, fun od => ?_⟩
    have l := Lk.lock du hr od
    have ea : upd H a (.frz od u) a = some (.frz od u) := upd_same
    have nx : ∀ {M : List En → Prop} {Q : L2.St → Hp → Prop}, Cn K F W H σ ρ M Q → Cn K F W (upd H a (.frz od u)) σ ρ M fun σ' H' => H' a = some (.frz od u) ∧ Q σ' (upd H' a u) := fun {M Q} q ρ' σ' H' B' g e' f' m => by
      have ek := g.keep a _ nW no ea
      have l2 := Lk.unlock du ek
      refine ⟨ek, q ρ' σ' _ B' (lk_gu l g l2 (by rw [upd_same, hr])) (l2.env e' fun o => (g.own a o).elim no fun z => ?_) f' m⟩
      rw [ea] at z
      cases z
    refine h F B W _ σ (l.env e no) f ⟨a, od, u, ev, ea, du⟩ _ (nx q1) (fun v d H' g r m => ?_) (nx q3) (nx q4)
    have ek := g.keep a _ nW no ea
    have l2 := Lk.unlock du ek
    refine ⟨ek, q2 v d _ ?_ ?_ m⟩
    · have gd : Gu W (Own σ ρ) (Own σ []) (upd H a (.frz od u)) H' := ⟨g.keep, g.free, g.bag, fun x ⟨_, _, z, _⟩ => by simp at z, g.tups⟩
      have g2 := lk_gu l gd l2 (by rw [upd_same, hr])
      exact ⟨g2.keep, g2.free, g2.bag, fun x z => z.elim, g2.tups⟩
    · revert r
      cases P.fr with
      | none => exact fun r => SnP.imp (fun x n => n.imp id fun z => l.none.mp z) (l2.snp r)
      | some b =>
        cases b with
        | false => exact fun r => l2.sg r
        | true =>
          rintro ⟨p, rfl, n, k⟩
          refine ⟨p, rfl, n.imp id fun z => l.none.mp z, l2.owat (fun z => ?_) k⟩
          subst z
          rcases n with n | n
          · exact no n
          · rw [ea] at n
            cases n
  · exact .inr (h F B W H σ e f ⟨a, od, u, ev, hr, du⟩ E q1 q2 q3 q4)
/-- a walk that may take it that the dict is locked -/
def iL (i : Nat) (wi : TI) : TI := fun σ H R => LkAt i σ H → wi σ H R
theorem STL.of_for {wi : TI} {g : TG} (h : ST K (tFor (iL i wi) g t) ρ P) : STL K i (tFor wi g t) ρ P := fun F B W H σ e f l E q1 q2 q3 q4 => h F B W H σ e f E q1 q2 q3 q4 l
end
section
variable {K : PySem.W.Frag} {R : Po → Prop} {t u v : TS} {ρ : List En} {α β L : Type} {m : M α} {C : Po → α → Prop} {te : TE} {i : Nat} {d : D} {embL : L → List En}
theorem G.forPL {wi : TI} {p : Pt} {fr : Option Bool} {mi : M (List D)} {s0 : L} {f : D → L → M L} {kk : L → M α} (hi0 : ρ[i]? = some (.dat d)) (hd : ∀ {P : List D → Prop}, wp mi P → d.isDcA = true) (hR : ∀ P, R P → P.fr = fr) (hi : RI K true (iL i wi) ρ mi) (w0 : Wk ρ (embL s0)) (hk : ∀ s, PB p (embL s) (fun x => f x s) (LTp K fr t embL)) (h2 : ∀ s, G K R v (embL s) (kk s) C) :
    G K R (tSeq (tLockX (tFor wi (p.g K) t)) v) ρ (mi.bind fun ds => (M.fold f ds s0).bind kk) C := fun P r w => ST.seq (ST.lock hi0 (hd (wp_bind.mp w)) (STL.of_for (by
  have e := hR P r
  subst e
  refine ST.forW (P := { P with nx := fun ρ' => ST K v ρ' P }) (f := fun x s => (f x s).bind fun s' => .ret (.nx s')) (P' := fun o => match o with | .nx s => wp (kk s) (C P) | _ => False) hi w0 (fun s x Q w => by
    obtain ⟨ρ', h1, h2⟩ := hk s x (fun s' => Q (.nx s')) (wp_bind.mp w)
    exact ⟨ρ', h1, fun P' r' z => h2 P' r' fun s' q => z _ q⟩) (wp_bind.mpr (wp_mono (wp_bind.mp w) fun ds w1 => ?_)) fun o w1 => ?_
  · rw [loop_fold]
    exact wp_bind.mpr (wp_mono (wp_bind.mp w1) fun s z => z)
  · match o, w1 with
    | .nx s, w1 => exact h2 s P r w1)))
end
def ItR (d : Addr) (o : Obj) (n : Nat) : It :=
  ⟨fun i H => (∃ u, H d = some (.frz o u) ∧ DcO u) ∧ i < n, fun i H x H' => ∃ (T : Addr) (ps : List (V × V)) (k v : V), PsOf H d ps ∧ ps[i]? = some (k, v) ∧ x = .ref T ∧ H T = none ∧ H' = upd H T (.tup [k, v]), fun i H => (∃ u, H d = some (.frz o u) ∧ DcO u) ∧ n ≤ i⟩
theorem DcO.isDc {H : Hp} {d : Addr} {u : HO} (h : DcO u) (r : Rd H d u) : IsDc H d := by
  rcases h with ⟨kvs, rfl⟩ | ⟨kvs, rfl⟩
  · exact .inl ⟨kvs, r⟩
  · exact .inr ⟨kvs, r⟩
section
variable {P : Program} {w : World} {K : PySem.W.Frag} {d : Addr} {o : Obj} {es : Array DictEntry} {ep : Nat}
theorem ents_frz {X : Cx} {pins : List (Addr × Obj)} {σ : L2.St} {H : Hp} {s : Shared} {u : HO} (I : Inv X pins σ H s) (h : H d = some (.frz o u)) (du : DcO u) (hod : o.data = .dict es ep) : ∃ ps : List (V × V), PsOf H d ps ∧ DT.Raw s.heap d es ep ∧ es.size = ps.length ∧ ps.length ≤ sizeLine ∧
    ∀ (i : Nat) (x y : V), ps[i]? = some (x, y) → ∃ en : DictEntry, es[i]? = some en ∧ RelV x en.key ∧ RelV y en.val := by
  obtain ⟨ps, es', ep', h1, _, raw, h2, h3, h4⟩ := ents_of I (du.isDc (.inr ⟨o, h⟩))
  have eo : s.heap.get? d = some o := (I.hok d _ h).1
  obtain ⟨o', e1, e2, e3⟩ := id raw
  rw [eo] at e1
  cases e1
  rw [hod] at e3
  cases e3
  exact ⟨ps, h1, raw, h2, h3, h4⟩
theorem turn_itR {elts : List Expr} {kk : Nat} {tpos : Pos} (it : Addr) (hod : o.data = .dict es ep) : Turn P w K (.Tuple elts kk tpos) (ItR d o es.size) [it] it (fun i h => ∃ ok ov, IsItemIter h it d i es.size ep ok ov) where
  mem := List.mem_singleton_self it
  obj := fun i h st b hb => by
    obtain ⟨ok, ov, e⟩ := st
    rw [List.mem_singleton.mp hb]
    exact ⟨_, e, fun v z => nomatch z⟩
  keep := fun i h h' st k => by
    obtain ⟨ok, ov, e⟩ := st
    exact ⟨ok, ov, k it (List.mem_singleton_self it) _ e⟩
  item := by
    intro X hP hw hK hc i pins s σ H E I hf st hg
    subst hP hw hK
    obtain ⟨⟨u, hu, du⟩, hi⟩ := hg
    obtain ⟨ps, hps, raw, hl, _, ent⟩ := ents_frz I hu du hod
    have ei := List.getElem?_eq_getElem (l := ps) (i := i) (by omega)
    obtain ⟨en, e1, e2, e3⟩ := ent i _ _ ei
    have een : es[i] = en := by
      rw [Array.getElem?_eq_getElem hi] at e1
      exact Option.some.inj e1
    obtain ⟨ok, ov, he⟩ := st
    have hlt : it < s.heap.objs.size := Heap.lt_size he
    refine DT.nextI he raw hi fun h' ho hT hz hk => ?_
    rw [een] at ho hT
    refine ⟨_, rfl, ?_⟩
    refine wpAny_letOwnedTupleGo_items (s := { s with heap := h' }) ho fun h2 he2 sb => ?_
    have hT2 : h2.get? s.heap.objs.size = some { cls := .type "tuple", data := .seq #[en.key, en.val] } := by
      rw [sb.2 _ (Nat.ne_of_gt hlt)]
      exact hT
    have new : ObjOk X.prog X.w (upd H s.heap.objs.size (.tup [ps[i].1, ps[i].2])) h2 s.heap.objs.size (.tup [ps[i].1, ps[i].2]) := by
      refine ⟨by rw [sizeLine_eq]; show 2 ≤ 16777216; omega, [en.key, en.val], .cons e2 (.cons e3 .nil), ⟨_, hT2, rfl, _, rfl⟩⟩
    have I1 : Inv X pins σ (upd H s.heap.objs.size (.tup [ps[i].1, ps[i].2])) { s with heap := h2 } := by
      refine I.turnedNew (t' := s.toks) (ch := [it]) (fun b ob hb e => ?_) hf (Nat.le_refl _) new
      have nb : b ≠ it := fun z => hb (List.mem_singleton.mpr z)
      rw [sb.2 b nb]
      exact hk b ob nb e
    refine ⟨.ref s.heap.objs.size, _, I1, rfl, ⟨_, ps, _, _, hps, ei, rfl, I.hok.fresh (Nat.le_refl _), rfl⟩, ⟨en.key, en.val, he2⟩, fun b hb => ?_⟩
    rw [List.mem_singleton.mp hb, upd_ne (Nat.ne_of_lt hlt)]
    exact (hf it (List.mem_singleton_self it)).1
  done := by
    intro X hP hw hK hc i pins s σ H E I hf st hg
    subst hP hw hK
    obtain ⟨⟨u, hu, du⟩, hi⟩ := hg
    obtain ⟨f0, f1, f2, f3, f4, f5⟩ := hf it (List.mem_singleton_self it)
    obtain ⟨ps, hps, raw, hl, _, ent⟩ := ents_frz I hu du hod
    obtain ⟨ok, ov, he⟩ := st
    refine DT.endI (I.ok.hd hc) he raw hi fun h' eb => ⟨rfl, ?_⟩
    exact I.turned (t' := s.toks) (fun b ob hb e => eb b ob hb e) f0 f1 f3 f4 f5
  self := fun A i s Q E st h => by
    obtain ⟨_, _, e⟩ := st
    exact PySem.W.kcp_self e h
end
theorem PsOf.len {H : Hp} {d : Addr} {ps qs : List (V × V)} (h : PsOf H d ps) (h' : PsOf H d qs) : ps.length = qs.length := by
  rcases h with ⟨kvs, h, e⟩ | ⟨kvs, h, e, _⟩ <;> rcases h' with ⟨kvs', h', e'⟩ | ⟨kvs', h', e', _⟩ <;> have z := rd_one h h' (fun _ _ z => nomatch z) (fun _ _ z => nomatch z) <;> cases z
  · rw [e, e']
  · omega
def iItR (td : TE) : TI := fun σ H R => td σ H fun x H1 => ∃ d o u, x = .ref d ∧ H1 d = some (.frz o u) ∧ DcO u ∧ ∀ ps, PsOf H1 d ps → ps.length ≤ 16777216 → R (ItR d o ps.length) H1
section
variable {X : Cx} {e : Expr} {td : TE} {apos cpos : Pos}
theorem pi_itR {elts : List Expr} {kk : Nat} {tpos : Pos} (he : PE X e td) (hbase : attributeBase e "items" X.env (eval e X.env) = eval e X.env := by rfl) (hline : (apos.endLine == cpos.line) = true := by rfl) : PI X (.Tuple elts kk tpos) (.Call (.Attribute e "items" apos) [] [] cpos) (iItR td) := by
  refine ⟨fun pins s σ H R I h => ?_⟩
  refine wpAny_Call_method0_late hbase hline ?_
  refine thn (he.run pins s σ H _ I h) fun v s1 z => ?_
  obtain ⟨x, H1, I1, r1, d, o, u, e, hd, du, q⟩ := z
  subst e
  cases r1
  have isd := du.isDc (H := H1) (d := d) (.inr ⟨o, hd⟩)
  obtain ⟨h1, h2⟩ := isd.ty I1
  refine ⟨"dict", "dict.items", F.plainAttrs_dict, F.slot_dict_items, F.type_dict_items, h1, h2, ?_⟩
  obtain ⟨ps, es, ep, hps, hn, raw, l1, l2, _⟩ := ents_of I1 isd
  have eo : s1.heap.get? d = some o := (I1.hok d _ hd).1
  have hod : o.data = .dict es ep := by
    obtain ⟨o', e1, e2, e3⟩ := id raw
    rw [eo] at e1
    cases e1
    exact e3
  refine Calls.callWith_builtin rfl (PySem.evalArgs_none (DT.callItems hn raw ?_))
  have I2 : Inv X pins σ H1 { s1 with heap := s1.heap.push { cls := .type "dict_items", data := .fields #[.ref d] } } := I1.kept (t' := s1.toks) fun b ob q => Heap.get?_push_of_some _ q
  refine DT.iterI (d := d) ⟨_, Heap.get?_push_size _ rfl, rfl, rfl⟩ (raw.push _) ?_
  rw [sizeLine_eq] at l2
  have q2 := q ps hps l2
  rw [← l1] at q2
  exact pi_one (tk := s1.toks) I2 _ (turn_itR _ hod) ⟨.none, .none, Heap.get?_push_size _ rfl⟩ q2
end
def D.rowsM (d : D) : M (List D) := match d.rowsD with
  | some rs => .ret (rs.map pairD)
  | none => .fail
theorem rowsM_dc {d : D} {P : List D → Prop} (w : wp d.rowsM P) : d.isDcA = true := by
  cases d with
  | dic ks ds => rfl
  | dit ks ds => rfl
  | _ => exact (show False from w).elim
section
variable {K : PySem.W.Frag} {B W : List Addr} {U : Addr → Prop} {H1 : Hp} {a : Addr} {o : Obj} {u : HO} {d : D} {rs : List (D × D)} {ρ : List En} {i : Nat}
theorem rows_at {H' : Hp} {ps : List (V × V)} {j : Nat} {k v : V} (s : Sr K B W H1 (.ref a) d) (er : d.rowsD = some rs) (hr : ∀ w, Rd H1 a w → Rd H' a w) (hp : PsOf H' a ps) (ej : ps[j]? = some (k, v)) : ∃ kd vd, rs[j]? = some (kd, vd) ∧ (∀ B' : List Addr, Sg K B' H' k kd) ∧ Sg K B H1 v vd := by
  cases d with
  | dic ks ds =>
    cases er
    obtain ⟨_, kvs, e, n, h, rfl, r⟩ := s
    cases e
    rcases hp with ⟨kvs', h', rfl⟩ | ⟨kvs', h', _⟩ <;> have z := rd_one (hr _ h) h' (fun _ _ z => nomatch z) (fun _ _ z => nomatch z) <;> cases z
    rw [List.getElem?_map] at ej
    cases eq : kvs[j]? with
    | none =>
      rw [eq] at ej
      cases ej
    | some p =>
      rw [eq] at ej
      cases ej
      obtain ⟨vd, e1, e2⟩ := r.getV (i := j) (v := p.2) (by rw [List.getElem?_map, eq]; rfl)
      exact ⟨kDD p.1, vd, by rw [List.getElem?_zip_eq_some]; exact ⟨by simp [eq], e1⟩, fun B' => sg_kD _, e2⟩
  | dit ks ds =>
    cases er
    obtain ⟨_, kvs, e, n, h, rfl, r⟩ := s
    cases e
    rcases hp with ⟨kvs', h', rfl⟩ | ⟨kvs', h', hl, at_⟩ <;> have z := rd_one (hr _ h) h' (fun _ _ z => nomatch z) (fun _ _ z => nomatch z) <;> cases z
    have hj : j < kvs.length := by
      have := (List.getElem?_eq_some_iff.mp ej).1
      omega
    have eq := List.getElem?_eq_getElem hj
    obtain ⟨b, f1, f2⟩ := at_ j kvs[j].1 kvs[j].2 eq
    rw [ej] at f1
    cases f1
    obtain ⟨vd, e1, e2⟩ := r.getV (i := j) (v := kvs[j].2) (by rw [List.getElem?_map, eq]; rfl)
    exact ⟨tkD kvs[j].1, vd, by rw [List.getElem?_zip_eq_some]; exact ⟨by simp [eq], e1⟩, fun B' => .tup trivial f2 (sg_kDs _), e2⟩
  | _ => cases er
theorem walkd_itR (s : Sr K B W H1 (.ref a) d) (er : d.rowsD = some rs) (lk : H1 a = some (.frz o u)) (du : DcO u) (hk : ∀ H', Kp W U H1 H' → H' a = some (.frz o u)) (hz : rs.length ≤ 16777216) : WalkD K B W U H1 (ItR a o rs.length) (rs.map pairD) where
  len := by rw [List.length_map]; exact hz
  goes := fun i H' hi k => by
    rw [List.length_map] at hi
    exact ⟨⟨u, hk H' k, du⟩, hi⟩
  stops := fun H' k => by
    rw [List.length_map]
    exact ⟨⟨u, hk H' k, du⟩, Nat.le_refl _⟩
  yields := fun i H' x H2 hi k y => by
    obtain ⟨T, ps, kx, vx, hp, ej, rfl, nT, rfl⟩ := y
    refine ⟨Gs.new nT, fun B' kn t => ?_⟩
    have eH := hk H' k
    have hr : ∀ w, Rd H1 a w → Rd H' a w := fun w hw => by
      rcases hw with hw | ⟨o', hw⟩
      · rw [lk] at hw
        cases hw
        exact .inl eH
      · rw [lk] at hw
        cases hw
        exact .inr ⟨_, eH⟩
    obtain ⟨kd, vd, e1, e2, e3⟩ := rows_at (H' := H') s er hr hp ej
    refine ⟨pairD (kd, vd), ?_, sg_pair nT kn (e2 B') (t _ _ e3)⟩
    rw [List.getElem?_map, e1]
    rfl
theorem rs_len {ps : List (V × V)} (s : Sr K B W H1 (.ref a) d) (er : d.rowsD = some rs) (hp : PsOf H1 a ps) : ps.length = rs.length := by
  obtain ⟨a', e, _, _, h⟩ := sr_rows s er
  cases e
  exact (h ps hp).1
theorem RI.itR (h : ρ[i]? = some (.dat d)) : RI K true (iL i (iItR (tVar i))) ρ d.rowsM := fun P w B W H σ e R q lk => by
  obtain ⟨v, ev, sv⟩ := e.sl i _ h
  obtain ⟨a, od, u, ea, hl, du⟩ := lk
  rw [ev] at ea
  cases ea
  have w1 : wp (match d.rowsD with | some rs => M.ret (rs.map pairD) | none => .fail) P := w
  cases er : d.rowsD with
  | none =>
    rw [er] at w1
    exact w1.elim
  | some rs =>
    rw [er] at w1
    have s := sv.sr e.bw.sub
    have na : a ∉ B := by
      cases sv with
      | dic n _ _ _ => exact n
      | dit n _ _ _ => exact n
      | _ => cases er
    have du : DcO u := by
      cases sv with
      | dic n hr _ _ => exact .inl ⟨_, rd_one (.inr ⟨od, hl⟩) hr du.nf (fun _ _ z => nomatch z)⟩
      | dit n hr _ _ => exact .inr ⟨_, rd_one (.inr ⟨od, hl⟩) hr du.nf (fun _ _ z => nomatch z)⟩
      | _ => cases er
    refine ⟨_, ev, a, od, u, rfl, hl, du, fun ps hps hn => ?_⟩
    have el : ps.length = rs.length := rs_len s er hps
    rw [el] at hn ⊢
    exact q _ _ H Gs.refl (walkd_itR s er hl du (fun H' k => k.kp a _ (fun m => na (e.bw.sub a m)) (fun z => na (e.ownB z.2).1) hl) hn) w1
end
end VB
namespace VB
open PySem PySem.Spec PyProof.Rows L2
/-- the dict a comprehension starts with -/
inductive Mt0 : HO → Prop
  | k : Mt0 (.dK [])
  | t : Mt0 (.dT [])
section
variable {X : Cx} {pins : List (Addr × Obj)} {σ : L2.St} {H : Hp} {s : Shared}
theorem mt0_ok {P : Program} {w : World} {u0 : HO} (m : Mt0 u0) (h : Heap) (big : sysModules < h.objs.size) : ObjOk P w H (h.push { cls := .type "dict", data := .dict #[] }) h.objs.size u0 := by
  cases m with
  | k => exact dk_empty h big
  | t => exact dt_empty h big
/-- one more row -/
theorem row_put {E : Value → Shared → Prop} {D : Addr} {H' : Hp} {y z : V} {u r : Value} {Q : Unit → Shared → Prop} (hu : X.A.units + 65 < cLine) (I : Inv X pins σ H s) (g : DPut H D y z H') (ry : RelV y u) (rz : RelV z r) (q : ∀ s', Inv X pins σ H' s' → Q () s') : wpAny (model X.prog X.w) X.A (dictSet D u r) Q E s := by
  rcases g with ⟨kvs, k, e, rfl, l, rfl⟩ | ⟨kvs, k, b, e, rfl, eb, l, rfl⟩
  · exact d_dictSet I e l ry rz q
  · cases (show u = Value.ref b from ry)
    obtain ⟨zz, hd, xs, rel, dd⟩ := dt_of I.hok e
    have lx := Paired.length rel
    have lp := length_putK kvs k z
    refine wpAny_dictSet_heap (hsz := by omega) (show X.A.units < cLine by omega) (key_of I.hok eb) dd fun h' dd' same => q _ ?_
    obtain ⟨ob, es, ep, g1, g2, g3, g4, _, g6⟩ := dd'
    refine d_write I (by rw [e]; trivial) same ⟨ob, g1⟩ ⟨by omega, hd, _, (rel.put k eb rz).keeps fun c ys ec => ?_, ob, es, ep, g1, g2, g3, g4, g6⟩
    have nc : c ≠ D := ne_of ec e fun z => nomatch z
    rw [upd_ne nc]
    exact ec
end
/-- the reading: the new dict is at D, u0 what it starts as -/
def tDcA (u0 : HO) (wi : TI) (g : TG) (tt : TT) (tk tv : TE) (vs : List Nat) : TE := fun σ H Q => wi σ H fun J H1 => ∀ D, H1 D = none → ∃ W : Nat → Nat → Hp → Prop, (∃ m, W 0 m (upd H1 D u0)) ∧ ∀ i m Ha, W i m Ha →
  (J.stop i Ha ∧ Q (.ref D) Ha) ∨ (J.go i Ha ∧ ∃ N : Hp → Prop, (∀ Hb, N Hb → ∃ m', m' < m ∧ W (i + 1) m' Hb) ∧ ∀ x Hb, J.yld i Ha x Hb → g x (wipe σ vs) Hb fun σ2 Hc => wipe σ2 vs = wipe σ vs ∧ tt σ2 Hc fun b Hd =>
    if b = true then tk σ2 Hd fun y He => tv σ2 He fun z Hf => ∃ Hg, DPut Hf D y z Hg ∧ N Hg else N Hd)
abbrev AllB (X : Cx) (scope : Scope) (p : Cx → Prop) : Prop := ∀ (s : Shared) (H : Hp) (C : Addr) (cl : List (Str × Addr)) (fp : List Addr), p (X.blk s H scope (compEnvC scope cl C X.env) fp)
theorem dc_core {X : Cx} {pins : List (Addr × Obj)} {s : Shared} {σ : L2.St} {H : Hp} {Q : VK} {use : Option (Value → Sem Unit)} {Qf : Value → Shared → Prop} {pos' : Pos} {u0 : HO} {kx vx tg iter : Expr} {ifs : List Expr} {scope : Scope} {own : List (Str × Nat)} {pos : Pos} {wi : TI} {g : TG} {tt : TT} {tk tv : TE} (m0 : Mt0 u0) (hu : X.A.units + 65 < cLine) (hc : X.calm = true) (hN : X.N.Nodup) (I : Inv X pins σ H s) (hi : PI X tg iter wi) (ok : BlkOk X.N X.env.scope scope own)
    (hg : AllB X scope fun Y => PG Y tg g) (ht : AllB X scope fun Y => PTs Y ifs tt) (hk : AllB X scope fun Y => PE Y kx tk) (hv : AllB X scope fun Y => PE Y vx tv) (hs : ∀ x, foldedSetIterable iter X.env x = pure x)
    (h : tDcA u0 wi g tt tk tv (own.map (·.2)) σ H Q)
    (hRR : ∀ D C s' m H', Inv X pins σ H' s' → Q (.ref D) H' → s'.heap.Ns C m → FpOk X pins H' C → compPost (model X.prog X.w) X.A X.xe use Qf (.ref D) C (.ok .next) s') :
    wpAny (model X.prog X.w) X.A (comprehension (.DictComp kx vx [⟨tg, iter, ifs, 0⟩] scope pos) scope X.env pos' newDict false (eval iter X.env) use) Qf X.xe s := by
  have free : ∀ y ∈ scope.names, y.2 = .free → ∃ c, X.env.cells.lookup y.1 = some c := fun y my ey => I.ok.has _ ((ok.free y my ey).elim .inl .inr)
  refine wpAny_comprehension_free (use := use) rfl hs (closure_ok free) ok.kind (fun y my ey => (ok.uniq y my).trans (congrArg some ey)) ?_
  refine thn (hi.run pins s σ H _ I h) fun xv s1 hx => thn hx fun itv sA hA => ?_
  obtain ⟨it, fp, tn, J, HA, rfl, IA, T, stA, fA, q⟩ := hA
  refine wpAny_newObj_type (newEnv_comp ?_)
  obtain ⟨D, eD⟩ : ∃ D, sA.heap.objs.size = D := ⟨_, rfl⟩
  have nD : HA D = none := IA.hok.fresh (by omega)
  obtain ⟨Wn, ⟨nn, wn0⟩, turn⟩ := q D nD
  -- the heap with the new dict
  obtain ⟨sB, eB⟩ : ∃ sB : Shared, ({ sA with heap := sA.heap.push { cls := .type "dict", data := .dict #[] } } : Shared) = sB := ⟨_, rfl⟩
  have hB : sB.heap = sA.heap.push { cls := .type "dict", data := .dict #[] } := by rw [← eB]
  have grow : ∀ b o, sA.heap.get? b = some o → sB.heap.get? b = some o := fun b o e => by
    rw [hB]
    exact Heap.get?_push_of_some _ e
  have IB : Inv X pins σ (upd HA D u0) sB := by
    subst eB eD
    exact IA.laid (t' := sA.toks) (fun b o => Heap.get?_push_of_some _) (Nat.le_refl _) (mt0_ok m0 sA.heap IA.big)
  have fpB : ∀ b ∈ fp, FpOk X pins (upd HA D u0) b ∧ b < sB.heap.objs.size := fun b mb => by
    obtain ⟨o, eo, _⟩ := T.obj _ _ stA b mb
    have lt := Heap.lt_size eo
    have z := fA b mb
    have nb : b ≠ D := eD ▸ Nat.ne_of_lt lt
    refine ⟨⟨?_, z.2⟩, Heap.lt_size (grow b o eo)⟩
    rw [upd_ne nb]
    exact z.1
  have stB : tn 0 sB.heap := T.keep _ _ _ stA fun b _ o => grow b o
  have I0 := block_start IB ok hN fpB
  obtain ⟨HB, eHB⟩ : ∃ HB, upd HA D u0 = HB := ⟨_, rfl⟩
  rw [eHB] at wn0 IB fpB I0
  obtain ⟨cl, ecl⟩ : ∃ cl, cellsFrom (sB.heap.objs.size + 1) scope.names (cloFrom X.env.cells scope.names []) = cl := ⟨_, rfl⟩
  have pg := hg sB HB sB.heap.objs.size cl fp
  have pt := ht sB HB sB.heap.objs.size cl fp
  have pk := hk sB HB sB.heap.objs.size cl fp
  have pv := hv sB HB sB.heap.objs.size cl fp
  rw [eB, eD]
  show codeAny _ _ (.compStart (.DictComp kx vx [⟨tg, iter, ifs, 0⟩] scope pos) 0 (.ref it) (.ref D) (compEnvC scope (cellsFrom (sB.heap.objs.size + 1) scope.names (cloFrom X.env.cells scope.names [])) sB.heap.objs.size X.env)) (compPost (model X.prog X.w) X.A X.xe use Qf (.ref D) sB.heap.objs.size) { sB with heap := pushCells (sB.heap.push { cls := .type "dict", data := .dict #[] }) scope.names }
  rw [ecl] at I0 ⊢
  obtain ⟨ce, ece⟩ : ∃ ce, compEnvC scope cl sB.heap.objs.size X.env = ce := ⟨_, rfl⟩
  have locC : ce.locals = sB.heap.objs.size := by
    rw [← ece]
    rfl
  rw [ece] at I0 pg pt pk pv ⊢
  obtain ⟨sC, eC⟩ : ∃ sC : Shared, ({ sB with heap := pushCells (sB.heap.push { cls := .type "dict", data := .dict #[] }) scope.names } : Shared) = sC := ⟨_, rfl⟩
  rw [eC] at I0 ⊢
  have stC : tn 0 sC.heap := T.keep _ _ _ stB fun b _ o e => by
    rw [← eC]
    exact pushCells_keeps _ _ _ _ (Heap.get?_push_of_some _ e)
  have n0 : ∀ b ∈ fp, HB b = none := fun b mb => (fpB b mb).1.1
  have fpX : ∀ {σ' : L2.St} {H' : Hp} {s' : Shared}, Inv (X.blk sB HB scope ce fp) [] σ' H' s' → (∀ b ∈ fp, H' b = none) → ∀ b ∈ fp, FpOk (X.blk sB HB scope ce fp) [] H' b := fun I' hn b mb => by
    have z := I'.ok.exf b mb
    exact ⟨hn b mb, z.1, I'.ok.exfs b mb, .inl mb, fun x c e => z.2 x c e, fun p hp => by simp at hp⟩
  have back : ∀ {H' : Hp} {s' : Shared}, Inv (X.blk sB HB scope ce fp) [] (wipe σ (own.map (·.2))) H' s' → Q (.ref D) H' → compPost (model X.prog X.w) X.A X.xe use Qf (.ref D) sB.heap.objs.size (.ok .next) s' := fun {H' s'} I' qq => by
    have IZ : Inv X pins σ H' s' := IB.call' (ch := fp) I'.os I'.base I'.hok I'.bare fun b mb => by
      obtain ⟨⟨_, z1, _, z3, z4, z5⟩, _⟩ := fpB b mb
      exact ⟨z3, z1, z4, z5⟩
    have nC : H' sB.heap.objs.size = none := by
      have z : H' ce.locals = none := I'.free
      rw [locC] at z
      exact z
    obtain ⟨m, hm, _⟩ := I'.loc
    replace hm : s'.heap.Ns ce.locals m := hm
    rw [locC] at hm
    exact hRR D sB.heap.objs.size s' m H' IZ qq hm (IB.fpOk (Nat.le_refl _) nC)
  have loop : codeAny (model X.prog X.w) X.A (.compLoop (.DictComp kx vx [⟨tg, iter, ifs, 0⟩] scope pos) 0 (.ref it) (.ref D) ce) (compPost (model X.prog X.w) X.A X.xe use Qf (.ref D) sB.heap.objs.size) sC := by
    refine compLoop_anyD (fun n s' => ∃ i H', Inv (X.blk sB HB scope ce fp) [] (wipe σ (own.map (·.2))) H' s' ∧ tn i s'.heap ∧ (∀ b ∈ fp, H' b = none) ∧ Wn i n H') (fun n s5 hn => ?_) nn ⟨0, HB, I0, stC, n0, wn0⟩
    obtain ⟨i, H5, I5, st5, n5, w5⟩ := hn
    rcases turn i n H5 w5 with ⟨stop, qq⟩ | ⟨go, N, hN', step⟩
    · refine thnF (T.done (X.blk sB HB scope ce fp) rfl rfl rfl hc i [] s5 _ H5 (fun _ _ => False) I5 (fpX I5 n5) st5 stop) fun r s6 hr => ?_
      obtain ⟨rfl, I6⟩ := hr
      exact back I6 qq
    · refine thnF (T.item (X.blk sB HB scope ce fp) rfl rfl rfl hc i [] s5 _ H5 (fun _ _ => False) I5 (fpX I5 n5) st5 go) fun r s6 h6 => ?_
      obtain ⟨u, rfl, h6⟩ := h6
      refine thnF h6 fun _ s7 h7 => ?_
      obtain ⟨x, H7, I7, r7, y7, st7, n7⟩ := h7
      refine thnF (pg.run _ s7 _ H7 x u _ (I7.pinned (fpX I7 n7) (T.obj _ _ st7)) r7 (step x H7 y7)) fun _ s8 h8 => ?_
      obtain ⟨σ8, H8, I8, hw8, q8⟩ := h8
      refine thnF (pt.run _ s8 σ8 H8 _ I8 q8) fun b s9 h9 => ?_
      obtain ⟨H9, I9, q9⟩ := h9
      have next : ∀ {s' : Shared} {H' : Hp}, Inv (X.blk sB HB scope ce fp) ([] ++ pinsAt fp s7.heap) σ8 H' s' → N H' → ∃ m, m < n ∧ ∃ i H', Inv (X.blk sB HB scope ce fp) [] (wipe σ (own.map (·.2))) H' s' ∧ tn i s'.heap ∧ (∀ b ∈ fp, H' b = none) ∧ Wn i m H' := fun {s' H'} I' nx => by
        obtain ⟨m', lt, w'⟩ := hN' H' nx
        have pins' : ∀ b ∈ fp, ∀ o, s7.heap.get? b = some o → s'.heap.get? b = some o ∧ H' b = none := fun b mb o e => by
          have z := I'.pin (b, o) (List.mem_append_right _ (List.mem_append_right _ (mem_pinsAt mb e)))
          exact ⟨z.1, z.2.1⟩
        refine ⟨m', lt, i + 1, H', (I'.unpinned (pins := [])).weak ?_ (fun j v e => ?_), T.keep _ _ _ st7 fun b mb o e => (pins' b mb o e).1, fun b mb => ?_, w'⟩
        · rw [← wipe_length σ8 (own.map (·.2)), hw8]
        · rw [← hw8] at e
          exact (wipe_some e).1
        · obtain ⟨o, e, _⟩ := T.obj _ _ st7 b mb
          exact (pins' b mb o e).2
      cases b with
      | false =>
        rw [if_neg Bool.false_ne_true] at q9 ⊢
        exact next I9 q9
      | true =>
        rw [if_pos rfl] at q9 ⊢
        refine thnF (pk.run _ s9 σ8 H9 _ I9 q9) fun kv sK hK => ?_
        obtain ⟨yk, HK, IK, rK, qK⟩ := hK
        refine thnF (pv.run _ sK σ8 HK _ IK qK) fun vv sV hV => ?_
        obtain ⟨yv, HV, IV, rV, HG, put, nx⟩ := hV
        exact row_put (X := X.blk sB HB scope ce fp) hu IV put rK rV fun s12 I12 => next I12 nx
  exact codeAny_compStart_dict loop (T.self X.A 0 _ _ _ stC loop)
theorem pe_dcA {X : Cx} {u0 : HO} {kx vx tg iter : Expr} {ifs : List Expr} {scope : Scope} {own : List (Str × Nat)} {pos : Pos} {wi : TI} {g : TG} {tt : TT} {tk tv : TE} (m0 : Mt0 u0) (hu : X.A.units + 65 < cLine) (hc : X.calm = true) (hN : X.N.Nodup) (hi : PI X tg iter wi) (ok : BlkOk X.N X.env.scope scope own)
    (hg : AllB X scope fun Y => PG Y tg g) (ht : AllB X scope fun Y => PTs Y ifs tt) (hk : AllB X scope fun Y => PE Y kx tk) (hv : AllB X scope fun Y => PE Y vx tv) (hs : ∀ x, foldedSetIterable iter X.env x = pure x := by intro _; rfl) :
    PE X (.DictComp kx vx [⟨tg, iter, ifs, 0⟩] scope pos) (tDcA u0 wi g tt tk tv (own.map (·.2))) := by
  refine ⟨fun pins s σ H Q I h => ?_⟩
  rw [arm_eval_DictComp]
  refine dc_core (use := Option.none) m0 hu hc hN I hi ok hg ht hk hv hs h fun D C s' m H' I' q hn f => ⟨m, hn, fun h2 sb => ⟨.ref D, H', ?_, rfl, q⟩⟩
  obtain ⟨f0, f1, f2, f3, f4, f5⟩ := f
  exact I'.turned (t' := s'.toks) (fun b o nb e => (sb.2 b nb).trans e) f0 f1 f3 f4 f5
/-- a new dict of that kind -/
def D0 : Bool → D
  | false => .dic [] []
  | true => .dit [] []
def U0 : Bool → HO
  | false => .dK []
  | true => .dT []
theorem mt0 : ∀ b, Mt0 (U0 b)
  | false => .k
  | true => .t
/-- one more row of data -/
def D.row {α : Type} (d y x : D) (k : D → M α) : M α := if d.isDc = true then D.setA d y x k else .fail
/-- the rows that the turns come to -/
def M.dc (k : D → M (Option (D × D))) : List D → D → M D
  | [], d => .ret d
  | x :: xs, d => (k x).bind fun o => match o with
    | some r => d.row r.1 r.2 fun d' => M.dc k xs d'
    | none => M.dc k xs d
def DT1 (K : PySem.W.Frag) (tt : TT) (tk tv : TE) (P : Option (D × D) → Prop) (ρ : List En) : Prop := ET K tt ρ fun b => if b = true then EV K tk ρ fun y => EV K tv ρ fun z => P (some (y, z)) else P none
section
variable {K : PySem.W.Frag} {ρ : List En} {tk tv : TE} {tt : TT} {p : Pt} {js : List Nat} {wi : TI} {mi : M (List D)} {kd : Bool}
theorem DT1.plain {mk mv : M D} (hk : RE K tk ρ mk) (hv : RE K tv ρ mv) {P : Option (D × D) → Prop} (w : wp (mk.bind fun y => mv.bind fun z => .ret (some (y, z))) P) : DT1 K tYes tk tv P ρ := ET.yes (by
  rw [if_pos rfl]
  exact EV.imp (hk _ (wp_bind.mp w)) fun y w1 => hv _ (wp_bind.mp w1))
/-- the state between two turns: rows stand at Dl -/
def DS1 (K : PySem.W.Frag) (B W : List Addr) (H1 : Hp) (Dl : Addr) (σ : L2.St) (ρ : List En) (k : D → M (Option (D × D))) (ds : List D) (P : D → Prop) (i : Nat) (H : Hp) : Prop :=
  ∃ d : D, d.isDc = true ∧ OwAt K (Dl :: B) H Dl d ∧ wp (M.dc k (ds.drop i) d) P ∧ EnvOk K (Dl :: B) W H σ ρ ∧ Gs W H1 H
theorem RN.dc {k : D → M (Option (D × D))} (hi : RI K false wi ρ mi) (hs : ∀ j ∈ p.sl, j ∈ js) (hk : PB p (clrL ρ js) k (DT1 K tt tk tv)) : RN K (tDcA (U0 kd) wi (p.g K) tt tk tv js) ρ (mi.bind fun ds => M.dc k ds (D0 kd)) := fun P w B W H σ e Q q =>
  hi _ (wp_bind.mp w) B W H σ e _ fun J ds H1 g1 wk w1 Dl nD => by
    have e1 := e.gs g1
    have dB : Dl ∉ B := e1.bw.notNew nD
    have dW : Dl ∉ W := fun m => dB (e1.bw.sub _ m)
    obtain ⟨e2, o2, b2⟩ := e1.clrs js
    have kp : ∀ {H' : Hp}, Gs W H1 H' → Kp W (fun a => false = true ∧ Own σ ρ a) H1 H' := fun g => ⟨fun a o nW _ h => g.gw.keep a o nW h, g.gw.tups⟩
    have nO : ¬ Own (wipe σ js) (clrL ρ js) Dl := fun o => (e1.ownB (o2 _ o)).2.2 nD
    have nB : ¬ Bor (wipe σ js) (clrL ρ js) Dl := fun o => e1.borK (b2 _ o) nD
    have s0 : OwAt K (Dl :: B) (upd H1 Dl (U0 kd)) Dl (D0 kd) := by
      cases kd
      · exact ⟨[], upd_same, rfl, .nil⟩
      · exact ⟨[], upd_same, rfl, .nil⟩
    refine ⟨fun i m H' => m = ds.length - i ∧ i ≤ ds.length ∧ DS1 K B W H1 Dl (wipe σ js) (clrL ρ js) k ds P i H', ⟨ds.length, by simp, Nat.zero_le _, D0 kd, by cases kd <;> rfl, s0, w1, e2.out nD, Gs.new nD⟩, ?_⟩
    rintro i m H2 ⟨rfl, hle, dd, hdc, hD, w2, en, g⟩
    have kn : H2 Dl ≠ none := hD.kn
    by_cases hlt : i < ds.length
    · refine .inr ⟨wk.goes i H2 hlt (kp g), fun H' => i + 1 ≤ ds.length ∧ DS1 K B W H1 Dl (wipe σ js) (clrL ρ js) k ds P (i + 1) H', fun H' z => ⟨ds.length - (i + 1), by omega, rfl, z⟩, fun x H3 hy => ?_⟩
      obtain ⟨g3, hy⟩ := wk.yields i H2 x H3 hlt (kp g) hy
      obtain ⟨d, hd, s⟩ := hy (Dl :: B) (fun a m => en.bw.kn a m) fun v d s => by
        refine Sg.mv (B := B) (fun b o nb eb => ?_) g.gw.tups (fun b mb => (List.mem_cons.mp mb).elim (fun z => .inr (z ▸ nD)) .inl) s
        exact g.gw.keep b o (fun m => nb (e1.bw.sub _ m)) eb
      rw [List.drop_eq_getElem_cons hlt, show ds[i] = d from Option.some.inj (by rw [← hd, List.getElem?_eq_getElem hlt])] at w2
      have w3 := wp_bind.mp (show wp ((k d).bind fun o => match o with | some r => dd.row r.1 r.2 fun d' => M.dc k (ds.drop (i + 1)) d' | none => M.dc k (ds.drop (i + 1)) dd) P from w2)
      obtain ⟨ρ', hb, hC⟩ := hk d _ w3
      have en3 := en.gs g3
      refine Pt.ok p en3 s hb fun σ4 a4 => ⟨a4.wi js hs |>.trans ?_, hC (Dl :: B) W H3 σ4 a4.en _ fun b H5 g5 c5 => ?_⟩
      · apply List.ext_getElem?
        intro z
        rw [wipe_get, wipe_get, wipe_length]
        by_cases hz : z ∈ js
        · simp only [if_pos hz]
        · simp only [if_neg hz]
      · cases b with
        | true =>
          rw [if_pos rfl] at c5 ⊢
          refine c5 (Dl :: B) W H5 σ4 (a4.en.gs g5) _ fun y dy H6 g6 s6 w6 => ?_
          refine w6 (Dl :: B) W H6 σ4 ((a4.en.gs g5).gs g6) _ fun z dz H7 g7 s7 w7 => ?_
          have g37 := ((g3.trans g5).trans g6).trans g7
          have hD7 : OwAt K (Dl :: B) H7 Dl dd := hD.mv (fun o eo => g37.gw.keep _ _ dW eo) fun _ _ r => r.gw (en.bw.gw g37)
          have en7 := en.gs g37
          have s6' := s6.gw (((a4.en.gs g5).gs g6).bw.gw g7)
          have w8 : wp (dd.row dy dz fun d' => M.dc k (ds.drop (i + 1)) d') P := w7
          obtain ⟨_, w8⟩ := wp_ite w8
          have nt := hD7.nt
          have fin : ∀ {u : HO} {d' : D}, d'.isDc = true → OwAt K (Dl :: B) (upd H7 Dl u) Dl d' → wp (M.dc k (ds.drop (i + 1)) d') P → i + 1 ≤ ds.length ∧ DS1 K B W H1 Dl (wipe σ js) (clrL ρ js) k ds P (i + 1) (upd H7 Dl u) := fun {u d'} h1 h2 h3 => ⟨hlt, d', h1, h2, h3, en7.wr nt (List.mem_cons_self ..) dW nO nB, (g.trans g37).mut nD⟩
          cases dd with
          | dic ks vs =>
            obtain ⟨kvs, hx, rfl, r'⟩ := hD7
            have w9 : wp (match dy.keyK with | some j => if (kvs.map (·.1)).length < 16777216 then M.dc k (ds.drop (i + 1)) (.dic (putKs (kvs.map (·.1)) j) (putDs (kvs.map (·.1)) vs j dz)) else .fail | none => .fail) P := w8
            cases ej : dy.keyK with
            | none =>
              rw [ej] at w9
              exact w9.elim
            | some j =>
              rw [ej] at w9
              obtain ⟨hz, w10⟩ := wp_ite w9
              rw [List.length_map] at hz
              exact ⟨_, .inl ⟨kvs, j, hx, sg_keyK s6 ej, by rw [sizeLine_eq]; exact hz, rfl⟩, fin (d' := .dic (putKs (kvs.map (·.1)) j) (putDs (kvs.map (·.1)) vs j dz)) rfl ⟨_, upd_same, put_keys _ _ _, (put_vals r' s7).gw (Gw.wr (List.mem_cons_self ..) nt)⟩ w10⟩
          | dit ks vs =>
            obtain ⟨kvs, hx, rfl, r'⟩ := hD7
            have w9 : wp (match dy.keyT with | some j => if (kvs.map (·.1)).length < 16777216 then M.dc k (ds.drop (i + 1)) (.dit (putKs (kvs.map (·.1)) j) (putDs (kvs.map (·.1)) vs j dz)) else .fail | none => .fail) P := w8
            cases ej : dy.keyT with
            | none =>
              rw [ej] at w9
              exact w9.elim
            | some j =>
              rw [ej] at w9
              obtain ⟨hz, w10⟩ := wp_ite w9
              rw [List.length_map] at hz
              obtain ⟨b, rfl, eb⟩ := sr_keyT (s6'.sr (W := W) en7.bw.sub) ej
              exact ⟨_, .inr ⟨kvs, j, b, hx, rfl, eb, by rw [sizeLine_eq]; exact hz, rfl⟩, fin (d' := .dit (putKs (kvs.map (·.1)) j) (putDs (kvs.map (·.1)) vs j dz)) rfl ⟨_, upd_same, put_keys _ _ _, (put_vals r' s7).gw (Gw.wr (List.mem_cons_self ..) nt)⟩ w10⟩
          | _ => cases hdc
        | false =>
          rw [if_neg Bool.false_ne_true] at c5 ⊢
          have g35 := g3.trans g5
          exact ⟨hlt, dd, hdc, hD.mv (fun o eo => g35.gw.keep _ _ dW eo) fun _ _ r => r.gw (en.bw.gw g35), c5, en.gs g35, g.trans g35⟩
    · have hi2 : i = ds.length := by omega
      subst hi2
      rw [List.drop_length] at w2
      exact .inl ⟨wk.stops H2 (kp g), q Dl dd H2 (g1.trans g) (g1.gw.free _ nD) hD w2⟩
end
end VB
namespace VB
open PySem PySem.Spec PyProof.Rows L2
def tupTy : Value → Bool
  | .type t => t == "tuple"
  | _ => false
def etB (p : Str × Option Str) (i : Nat) (K : PySem.W.Frag) : Bool := match K.lookup (He.dflAt p i K) with
  | some ⟨cl, _, .seq its _, _⟩ => tupTy cl && its.isEmpty
  | _ => false
theorem etB_ok {p : Str × Option Str} {i : Nat} {K : PySem.W.Frag} (h : etB p i K = true) : ∀ H : Hp, SqT K H (He.dflAt p i K) [] := fun H => by
  unfold etB at h
  generalize He.dflAt p i K = a at h ⊢
  cases e : K.lookup a with
  | none =>
    rw [e] at h
    cases h
  | some o =>
    rw [e] at h
    obtain ⟨cl, dc, dt, sl⟩ := o
    cases dt with
    | seq its n =>
      have h : (tupTy cl && its.isEmpty) = true := h
      obtain ⟨h1, h2⟩ := He.ba h
      have e3 : its = #[] := Array.isEmpty_iff.mp h2
      subst e3
      cases cl with
      | type t =>
        have e4 : t = "tuple" := beq_iff_eq.mp (show (t == "tuple") = true from h1)
        subst e4
        exact .inr ⟨_, #[], n, e, rfl, rfl, Nat.zero_le _, .nil⟩
      | _ => cases h1
    | _ => cases h
def D.down (i : Int) (n : Nat) : List D := (List.range n).map fun k => .int (i - (k : Nat))
theorem down_len {i : Int} {n : Nat} : (D.down i n).length = n := by
  unfold D.down
  rw [List.length_map, List.length_range]
theorem walkd_down {K : PySem.W.Frag} {B W : List Addr} {U : Addr → Prop} {H1 : Hp} {i : Int} {n : Nat} (hz : n ≤ 16777216) : WalkD K B W U H1 (Itc i (-1) n) (D.down i n) where
  len := by rw [down_len]; exact hz
  goes := fun j H' hj k => by
    rw [down_len] at hj
    exact hj
  stops := fun H' k => by
    rw [down_len]
    exact Nat.le_refl n
  yields := fun j H' x H2 hj k y => by
    rw [down_len] at hj
    obtain ⟨rfl, rfl⟩ := y
    refine ⟨Gs.refl, fun B' _ t => ⟨.int (i - (j : Nat)), ?_, ?_⟩⟩
    · unfold D.down
      rw [List.getElem?_map, List.getElem?_range hj]
      rfl
    · rw [show i + (j : Int) * (-1) = i - (j : Nat) by omega]
      exact .int _
end VB
namespace VB
open PySem PySem.Spec PySem.W PyProof.Rows L2
end VB
namespace VB
open PySem PySem.Spec PyProof.Rows L2
end VB
namespace VB
open PySem PySem.Spec PyProof.Rows L2
end VB
namespace VB
open PySem PySem.Spec PyProof.Rows L2
end VB
namespace VB
open PySem PySem.Spec PyProof.Rows L2
section
variable {K : PySem.W.Frag} {ρ : List En} {i : Nat} {d : D} {t : TE} {m : M D}
def RNL (K : PySem.W.Frag) (i : Nat) (t : TE) (ρ : List En) (m : M D) : Prop := ∀ P : D → Prop, wp m P → ∀ (B W : List Addr) (H : Hp) (σ : L2.St), EnvOk K B W H σ ρ → LkAt i σ H → ∀ Q : VK, (∀ a d H', Gs W H H' → H a = none → OwAt K (a :: B) H' a d → P d → Q (.ref a) H') → t σ H Q
theorem RNL.dc {u0 : HO} {wi : TI} {g : TG} {tt : TT} {tk tv : TE} {js : List Nat} (h : RN K (tDcA u0 (iL i wi) g tt tk tv js) ρ m) : RNL K i (tDcA u0 wi g tt tk tv js) ρ m := fun P w B W H σ e l Q q => h P w B W H σ e Q q l
end
end VB
namespace VB
open PySem PySem.Spec PyProof.Rows L2
def addQ {α : Type} : List Addr → Nat → List Addr → (List Addr → Nat → α) → α
  | [], m, acc, k => k acc m
  | a :: as, m, acc, k => match Nat.testBit m a with
    | true => addQ as m acc k
    | false => HandSHeadRun.frNat (m ||| (1 <<< a)) fun m => addQ as m (a :: acc) k
def expQ {α : Type} (g : Addr → Option Obj) : List Addr → Nat → List Addr → (List Addr → Nat → α) → α
  | [], m, acc, k => k acc m
  | a :: as, m, acc, k => match g a with
    | some o => addQ (He.refsD o) m acc fun acc m => expQ g as m acc k
    | none => expQ g as m acc k
def goQ (g : Addr → Option Obj) : Nat → List Addr → Nat → List Addr → List Addr
  | 0, _, _, out => out
  | n + 1, fr, m, out => expQ g fr m [] fun new m => goQ g n new m (out ++ new)
def asQ (g : Addr → Option Obj) (n : Nat) : List Addr := goQ g n [mainGlobals] (1 <<< mainGlobals) [mainGlobals]
def obsRG (n : Nat) (ex : List (PySem.W.Frag → Bool)) (fa : List He.Fa) (fn : List DefQ) (g : Addr → Option Obj) : AlQ := obsQ ex fa fn (He.frG g (sysModules :: cStatics :: asQ g n))
def hookR (n : Nat) (ex : List (PySem.W.Frag → Bool)) (fa : List He.Fa) (fn : List DefQ) : PySem.W.Hook where
  α := AlQ
  obs := fun s => obsRG n ex fa fn s.heap.get?
  val := fun _ => valQ fn
  says := fun _ h => ∃ K : PySem.W.Frag, K.In h ∧ SaysQ ex fa fn K
  of := fun _ _ e => ⟨_, He.frG_in, e⟩
  keeps := fun _ _ _ ⟨K, hK, c⟩ k => ⟨K, PySem.W.Frag.In.keeps hK k, c⟩
theorem obsRG_eq {n : Nat} {ex : List (PySem.W.Frag → Bool)} {fa : List He.Fa} {fn : List DefQ} {g : Addr → Option Obj} {s : Shared} (h : ∀ a, g a = s.heap.get? a) : obsRG n ex fa fn g = (hookR n ex fa fn).obs s := by
  have e : g = s.heap.get? := funext h
  rw [e]
  rfl
end VB
namespace VB
open PySem PySem.W PySem.Calls PySem.Spec PyProof.Rows L2
section
variable {ex ex2 : List (PySem.W.Frag → Bool)} {fa fa2 : List He.Fa} {fn fn2 : List DefQ} {K : PySem.W.Frag} {n : Nat} {g : Addr → Option Obj}
theorem obsQ_app (h1 : obsQ ex fa fn K = valQ fn) (h2 : obsQ ex2 fa2 fn2 K = valQ fn2) : obsQ (ex ++ ex2) (fa ++ fa2) (fn ++ fn2) K = valQ (fn ++ fn2) := by
  have a := SaysQ.all (show SaysQ ex fa fn K from h1)
  have b := SaysQ.all (show SaysQ ex2 fa2 fn2 K from h2)
  have e1 : fn.map (fun d => fnA K (d.p K)) = fn.map DefQ.val := congrArg (fun z : AlQ => z.2) h1
  have e2 : fn2.map (fun d => fnA K (d.p K)) = fn2.map DefQ.val := congrArg (fun z : AlQ => z.2) h2
  unfold obsQ valQ
  rw [List.all_append, List.all_append, List.all_append, List.map_append, List.map_append, e1, e2, a.1, a.2.1, a.2.2.1, a.2.2.2, b.2.1, b.2.2.1, b.2.2.2]
  rfl
theorem obsRG_app (h1 : obsRG n ex fa fn g = valQ fn) (h2 : obsRG n ex2 fa2 fn2 g = valQ fn2) : obsRG n (ex ++ ex2) (fa ++ fa2) (fn ++ fn2) g = valQ (fn ++ fn2) := obsQ_app h1 h2
/-- one part of the look -/
def RunOb (r : PySem.W.OpenRow) (M n : Nat) (ex : List (PySem.W.Frag → Bool)) (fa : List He.Fa) (fn : List DefQ) (w : World) : Prop :=
  ∀ os : OsState, (HandSHeadRun.endF (HandSHeadRun.stepQ (HandSHeadRun.denQ HandSHeadRun.tabQ) r.prog w) M r.prog w os).map (fun s => obsRG n ex fa fn (HandSHeadRun.getT s)) = some (valQ fn)
variable {r : PySem.W.OpenRow} {q : Program} {M : Nat} {loose : List PySem.Str} {w : World}
theorem RunOb.app (h1 : RunOb r M n ex fa fn w) (h2 : RunOb r M n ex2 fa2 fn2 w) : RunOb r M n (ex ++ ex2) (fa ++ fa2) (fn ++ fn2) w := fun os => by
  obtain ⟨s, hs, v1⟩ := Option.map_eq_some_iff.mp (h1 os)
  have z := h2 os
  rw [hs] at z ⊢
  exact congrArg some (obsRG_app v1 (Option.some.inj z))
end
end VB
namespace VB
open PySem PySem.Spec PyProof.Rows L2
section
variable {X : Cx} {e : Expr} {es : List Expr} {ta : TA} {p1 p2 pos : Pos} {pl : Sem Bool} {x : Str} {C0 : Addr}
theorem pe_veinitC (hg : Gl X x) (hm : X.mg x = some (.ref C0)) (hr : PySem.W.readsIn X.K C0 (.type "type") = true) (hs : PySem.W.specialIn X.K (.ref C0) "__getattribute__" = some (some (.builtin "type.__getattribute__")))
    (ef : PySem.W.findCls X.K (.ref C0) (.type "type") "__init__" = some (.val (.builtin "ValueError.__init__"))) (ha : PA X (e :: es) ta) (hdb : (x == ("__debug__" : Str)) = false := by decide)
    (hc : eval (.Call (.Attribute (.Name x p1) "__init__" p2) (e :: es) [] pos) X.env = (do
      let ov ← eval (.Name x p1) X.env
      standAt p2.atName
      let (f, first) ← holding [ov] (getMethod ov "__init__" pl)
      callWith pos f first (backTo pos (starEach (e :: es) X.env)) (backToKw pos (keywordEach [] X.env))) := by rfl)
    (he : starEach (e :: es) X.env = (false, eval e X.env) :: starEach es X.env := by rfl) (hpl : (backTo pos (starEach es X.env)).any (·.1) = false := by rfl) :
    PE X (.Call (.Attribute (.Name x p1) "__init__" p2) (e :: es) [] pos) (tVeI X.K ta) := by
  refine ⟨fun pins s σ H Q I h => ?_⟩
  refine PySem.W.methodCall_KW (pl := pl) (ld_glob I hg hm ?_ hdb) hc
  refine PySem.W.method_cls I.kIn hs ?_
  refine PySem.W.cls_value I.kIn hr ef (by decide +kernel) ?_
  show wpAny _ _ (callWith pos (Value.builtin "ValueError.__init__") [] (backTo pos (starEach (e :: es) X.env)) []) _ _ _
  refine PyProof.Rows.callWith_method1 (thn (ha.run pos pins _ σ H _ (I.tok _) h) fun us s1 ⟨vs, H1, I1, r1, a, C, ws, ev, hl, T, ea, q⟩ => ?_) he hpl
  subst ev
  cases r1 with
  | @cons _ u0 _ ur ra rw' =>
    obtain rfl : u0 = Value.ref a := ra
    have hlen : ur.length ≤ sizeLine := by
      rw [← Paired.length rw', sizeLine_eq]
      omega
    exact oinit_ok T I1 ea hlen fun s' J => ⟨.non, H1, J, rfl, q⟩
end
end VB
namespace VB
open PySem PySem.Spec PyProof.Rows L2
/-- an error's __init__: it keeps what it is given at f -/
def spEr1 (K : PySem.W.Frag) (C : Addr) (f : Str) : Sp := fun vs H Q _ => ∃ (a : Addr) (v : V), vs = [.ref a, v] ∧ OexC K C ∧ PySem.W.findIn K (.ref C) f = some none ∧ H a = some (exo a C none) ∧
  ∀ dx, H dx = none → dx ≠ a → Q .non (upd (upd H dx (exd dx [(f, v)])) a (exo a C (some dx)))
theorem spEr1_len {K : PySem.W.Frag} {C : Addr} {f : Str} {vs : List V} {H : Hp} {Q : VK} {E : XK} (h : spEr1 K C f vs H Q E) : vs.length = 2 := by
  obtain ⟨a, v, rfl, _⟩ := h
  rfl
theorem er1_body {K : PySem.W.Frag} {C : Addr} {f : Str} {N : List Str} {vs : List V} {H : Hp} {Q : VK} {E : XK} (h : spEr1 K C f vs H Q E) (hN : N.length = 2) :
    tSeq (tDrop (tVeI K (tCons (tVar 0) tNil))) (tOst K f (tVar 0) (tVar 1)) ⟨fun _ H' => Q .non H', Q, fun _ _ => False, fun _ _ => False⟩ (start N vs) H := by
  obtain ⟨a, v, rfl, T, hf, ha, q⟩ := h
  have hs : start N [.ref a, v] = [some (.ref a), some v] := by
    unfold L2.start
    rw [show N.length - [V.ref a, v].length = 0 by rw [hN]; rfl]
    rfl
  rw [hs]
  refine ⟨.ref a, rfl, a, C, [], rfl, by decide, T, ha, ?_⟩
  exact ⟨v, rfl, .ref a, rfl, a, C, rfl, T, hf, .inl ⟨ha, fun dx n ne => q dx n ne⟩⟩
/-- an error in the air: its class, its field -/
structure XAt (K : PySem.W.Frag) (B : List Addr) (H : Hp) (C : Addr) (f : Str) (d : D) (cls : Value) (dd : Option Addr) : Prop where
  cls : cls = .ref C
  at_ : ∃ (x : Addr) (v : V), dd = some x ∧ H x = some (.xd [(f, v)]) ∧ Sg K B H v d
/-- raise C(e) -/
theorem mkO_er {K : PySem.W.Frag} {C : Addr} {f : Str} {B W : List Addr} {H : Hp} {σ : L2.St} {ρ : List En} {te : TE} {m : M D} {Qx : XK} (T : OexC K C) (hf : PySem.W.findIn K (.ref C) f = some none) (he : RE K te ρ m) {P : D → Prop} (w : wp m P)
    (e : EnvOk K B W H σ ρ) (q : ∀ (d : D) (cls : Value) (dd : Option Addr) (H' : Hp), Gs W H H' → XAt K B H' C f d cls dd → P d → Qx cls dd H') : tMkO C (spEr1 K C f) [] (tCons te tNil) σ H Qx := by
  refine he _ w B W H σ e _ fun v d H1 g1 s1 p1 => ?_
  refine ⟨by show 1 ≤ 1000; decide, fun a na => ?_⟩
  refine ⟨a, v, rfl, T, hf, upd_same, fun dx nd ne => ⟨rfl, dx, [(f, v)], upd_same, by rw [upd_ne ne]; exact upd_same, by rwa [upd_ne ne] at nd, ?_⟩⟩
  have nd1 : H1 dx = none := by rwa [upd_ne ne] at nd
  have eh : upd (del (upd (upd (upd H1 a (exo a C none)) dx (exd dx [(f, v)])) a (exo a C (some dx))) a) dx (.xd [(f, v)]) = upd H1 dx (.xd [(f, v)]) := by
    funext b
    by_cases h1 : b = dx
    · rw [h1, upd_same, upd_same]
    · rw [upd_ne h1, upd_ne h1]
      unfold del
      by_cases h2 : b = a
      · rw [if_pos h2, h2, na]
      · rw [if_neg h2, upd_ne h2, upd_ne h1, upd_ne h2]
  rw [eh]
  exact q d (.ref C) (some dx) _ (g1.trans (Gs.new nd1)) ⟨rfl, dx, v, rfl, upd_same, s1.gw (Gw.new nd1)⟩ p1
end VB
namespace VB
open PySem PySem.Spec PyProof.Rows L2
/-- how a def ends: data, or an error of the class C with d at f -/
inductive Xr where
  | ok (d : D) | ex (C : Addr) (f : Str) (d : D)
def Xr.on (P : D → Prop) (PX : Addr → Str → D → Prop) : Xr → Prop
  | .ok d => P d
  | .ex C f d => PX C f d
/-- behind a way that may end so -/
def Xr.then {α : Type} (k : D → M α) (kx : Addr → Str → D → M α) : Xr → M α
  | .ok d => k d
  | .ex C f d => kx C f d
def M.ok (m : M D) : M Xr := m.bind fun d => .ret (.ok d)
def Xr.next (k : D → M Xr) : Xr → M Xr := Xr.then k fun C f d => .ret (.ex C f d)
theorem XAt.less {K : PySem.W.Frag} {B F : List Addr} {H : Hp} {C : Addr} {f : Str} {d : D} {cls : Value} {dd : Option Addr} (s : ∀ a ∈ F, a ∈ B) (x : XAt K B H C f d cls dd) : XAt K F H C f d cls dd := by
  obtain ⟨e, y, v, h1, h2, h3⟩ := x
  exact ⟨e, y, v, h1, h2, h3.less s⟩
/-- the wish about errors, from the heap H on -/
def Xw (K : PySem.W.Frag) (F W : List Addr) (U : Addr → Prop) (H : Hp) (PX : Addr → Str → D → Prop) (E : XK) : Prop := ∀ (cls : Value) (dd : Option Addr) (H' : Hp) (C : Addr) (f : Str) (d : D), Gu W U (fun _ => False) H H' → XAt K F H' C f d cls dd → PX C f d → E cls dd H'
theorem Xw.after {K : PySem.W.Frag} {F W : List Addr} {U U' : Addr → Prop} {H H1 : Hp} {PX : Addr → Str → D → Prop} {E : XK} (q : Xw K F W U H PX E) (g : Gu W U U' H H1) : Xw K F W U' H1 PX E := fun cls dd H' C f d g' => q cls dd H' C f d (g.trans g')
/-- a block that may let an error out -/
def GX (K : PySem.W.Frag) (R : Po → Prop) (E : XK) (t : TS) (ρ : List En) (m : M Xr) (C : Po → D → Prop) : Prop := ∀ (P : Po) (PX : Addr → Str → D → Prop), R P → wp m (Xr.on (C P) PX) →
  ∀ (F B W : List Addr) (H : Hp) (σ : L2.St), EnvOk K B W H σ ρ → Fr F B W σ ρ → ∀ Z : Ends, Cn K F W H σ ρ P.nx Z.nx → Cr K P.fr F W H σ ρ P.rt Z.rt → Cn K F W H σ ρ P.bk Z.bk → Cn K F W H σ ρ P.ct Z.ct → Xw K F W (Own σ ρ) H PX E → t Z σ H
/-- an expression that may let an error out -/
def RX (K : PySem.W.Frag) (E : XK) (te : TE) (ρ : List En) (m : M Xr) : Prop := ∀ (P : D → Prop) (PX : Addr → Str → D → Prop), wp m (Xr.on P PX) → ∀ (B W : List Addr) (H : Hp) (σ : L2.St), EnvOk K B W H σ ρ → ∀ Q : VK,
  (∀ v d H', Gs W H H' → Sg K B H' v d → P d → Q v H') → (∀ cls dd H' C f d, Gs W H H' → XAt K B H' C f d cls dd → PX C f d → E cls dd H') → te σ H Q
section
variable {K : PySem.W.Frag} {E : XK} {R : Po → Prop} {ρ : List En} {te ta : TE} {tt : TT} {t u v : TS} {tl : TA} {m m2 : M Xr} {ma md : M D} {mt : M Bool} {C : Po → D → Prop} {ms : List Md} {A : MA} {C0 : Addr} {f : Str}
theorem GX.of (h : G K R t ρ md C) : GX K R E t ρ (M.ok md) C := fun P PX r w F B W H σ e fr Z q1 q2 q3 q4 _ => h P r (wp_bind.mp w) F B W H σ e fr Z q1 q2 q3 q4
theorem GX.one (h : GX K R E (tSeq t tNext) ρ m C) : GX K R E t ρ m C := h
theorem GX.assoc (h : GX K R E (tSeq t (tSeq u v)) ρ m C) : GX K R E (tSeq (tSeq t u) v) ρ m C := h
theorem GX.next (h : GX K R E v ρ m C) : GX K R E (tSeq tNext v) ρ m C := h
/-- if test: raise C0(e) -/
theorem GX.ifRaise (T : OexC K C0) (hf : PySem.W.findIn K (.ref C0) f = some none) (ht : RT K tt ρ mt) (he : RE K te ρ md) (h : GX K R E v ρ m C) :
    GX K R E (tSeq (tIfS tt (fun _ σ H => tMkO C0 (spEr1 K C0 f) [] (tCons te tNil) σ H E) tNext) v) ρ (mt.bind fun b => if b = true then md.bind fun d => .ret (.ex C0 f d) else m) C := fun P PX r w F B W H σ e fr Z q1 q2 q3 q4 q5 =>
  ht _ (wp_bind.mp w) B W H σ e _ fun b H1 g1 w1 => by
    have e1 := e.gs g1
    have g : Gu W (Own σ ρ) (Own σ ρ) H H1 := .of g1 fun _ o => o
    cases b with
    | true =>
      have w2 : wp (md.bind fun d => .ret (.ex C0 f d)) (Xr.on (C P) PX) := w1
      exact mkO_er T hf he (wp_bind.mp w2) e1 fun d cls dd H' g2 x p => q5 cls dd H' C0 f d (.of (g1.trans g2) fun _ z => z.elim) (x.less fr.fb) p
    | false => exact h P PX r w1 F B W H1 σ e1 fr Z (q1.after g) (q2.after g) (q3.after g) (q4.after g) (q5.after g)
/-- name = e -/
theorem GX.asg {i : Nat} {k : D → M Xr} (he : RE K te ρ md) (h : ∀ d, GX K R E u (ρ.set i (.dat d)) (k d) C) : GX K R E (tSeq (tAsg te (gName i)) u) ρ (md.bind k) C := fun P PX r w F B W H σ e fr Z q1 q2 q3 q4 q5 =>
  he _ (wp_bind.mp w) B W H σ e _ fun x d H1 g1 s1 w1 => by
    obtain ⟨B', e2, f2⟩ := (e.gs g1).setF (i := i) fr s1
    have g : Gu W (Own σ ρ) (Own (σ.set i (some x)) (ρ.set i (.dat d))) H H1 := gu_set g1
    exact h d P PX r w1 F B' W H1 _ e2 f2 Z (q1.after g) (q2.after g) (q3.after g) (q4.after g) (q5.after g)
/-- a call as a statement -/
theorem GX.drop {k : D → M Xr} (he : RX K E te ρ m) (h : ∀ d, GX K R E u ρ (k d) C) : GX K R E (tSeq (tDrop te) u) ρ (m.bind (Xr.next k)) C := fun P PX r w F B W H σ e fr Z q1 q2 q3 q4 q5 =>
  he (fun d => wp (k d) (Xr.on (C P) PX)) PX (wp_mono (wp_bind.mp w) fun o z => match o, z with
    | .ok d, z => z
    | .ex _ _ _, z => z) B W H σ e _ (fun x d H1 g1 s1 w1 => by
      have g : Gu W (Own σ ρ) (Own σ ρ) H H1 := .of g1 fun _ o => o
      exact h d P PX r w1 F B W H1 σ (e.gs g1) fr Z (q1.after g) (q2.after g) (q3.after g) (q4.after g) (q5.after g))
    fun cls dd H' C' f' d g x p => q5 cls dd H' C' f' d (.of g fun _ z => z.elim) (x.less fr.fb) p
theorem GX.ret (hR : ∀ P, R P → P.fr = false) (he : RX K E te ρ m) : GX K R E (tSeq (tRet te) v) ρ m CF := fun P PX r w F B W H σ e fr Z q1 q2 q3 q4 q5 =>
  he _ PX w B W H σ e _ (fun x d H1 g1 s1 p => q2 x d H1 (.of g1 fun _ z => z.elim) (by rw [hR P r]; exact s1.less fr.fb) p) fun cls dd H' C' f' d g x p => q5 cls dd H' C' f' d (.of g fun _ z => z.elim) (x.less fr.fb) p
/-- if test: ..; the rest -/
theorem GX.ifS {m1 : M Xr} (ht : RT K tt ρ mt) (h1 : GX K R E (tSeq t v) ρ m1 C) (h2 : GX K R E (tSeq u v) ρ m2 C) : GX K R E (tSeq (tIfS tt t u) v) ρ (mt.bind fun b => if b = true then m1 else m2) C := fun P PX r w F B W H σ e fr Z q1 q2 q3 q4 q5 =>
  ht _ (wp_bind.mp w) B W H σ e _ fun b H1 g1 w1 => by
    have e1 := e.gs g1
    have g : Gu W (Own σ ρ) (Own σ ρ) H H1 := .of g1 fun _ o => o
    cases b with
    | true => exact h1 P PX r w1 F B W H1 σ e1 fr Z (q1.after g) (q2.after g) (q3.after g) (q4.after g) (q5.after g)
    | false => exact h2 P PX r w1 F B W H1 σ e1 fr Z (q1.after g) (q2.after g) (q3.after g) (q4.after g) (q5.after g)
theorem RX.of (h : RE K te ρ md) : RX K E te ρ (M.ok md) := fun P PX w B W H σ e Q q _ => h P (wp_bind.mp w) B W H σ e Q q
/-- (e, f(..)): the last part may raise -/
theorem RX.tup2 {t1 t2 : TE} {m1 : M D} (h1 : RE K t1 ρ m1) (h2 : RX K E t2 ρ m2) : RX K E (tTup (tCons t1 (tCons t2 tNil))) ρ (m1.bind fun x => m2.bind (Xr.next fun y => .ret (.ok (.tup [x, y])))) := fun P PX w B W H σ e Q q qx =>
  h1 _ (wp_bind.mp w) B W H σ e _ fun v x H1 g1 s1 w1 => by
    have e1 := e.gs g1
    refine h2 (fun y => P (.tup [x, y])) PX (wp_mono (wp_bind.mp w1) fun o z => match o, z with
      | .ok d, z => z
      | .ex _ _ _, z => z) B W H1 σ e1 _ (fun z y H2 g2 s2 p => ⟨by show 2 ≤ _; rw [sizeLine_eq]; decide, fun a na => ?_⟩) fun cls dd H' C f d g => qx cls dd H' C f d (g1.trans g)
    have e2 := e1.gs g2
    have r : SgA K B H2 [v, z] [x, y] := .cons (s1.gw (e1.bw.gw g2)) (.cons s2 .nil)
    have gn : Gs W H2 (upd H2 a (.tup [v, z])) := Gs.new na
    exact q _ _ _ ((g1.trans g2).trans gn) (.tup trivial upd_same (r.gw (Gw.new na))) p
end
/-- a def that hands data back or lets an error out -/
def spMX (K : PySem.W.Frag) (ms : List Md) (m : List D → M Xr) : Sp := fun vs H Q E => ∃ (B W : List Addr) (ds : List D) (P : D → Prop) (PX : Addr → Str → D → Prop), BW B W H ∧ AmA K B W H ms vs ds ∧ wp (m ds) (Xr.on P PX) ∧
  (∀ v d H', Gs W H H' → Sg K B H' v d → P d → Q v H') ∧ ∀ cls dd H' C f d, Gs W H H' → XAt K B H' C f d cls dd → PX C f d → E cls dd H'
section
variable {K : PySem.W.Frag} {E : XK} {ρ : List En} {te : TE} {ta : TA} {ms : List Md} {A : MA} {m : List D → M Xr}
theorem RX.call (h : RAm K ta ρ ms A) : RX K E (tCall (spMX K ms m) [] E ta) ρ (A Xr m) := fun P PX w B W H σ e Q q qx => h Xr m _ w B W H σ e _ fun vs ds H1 g1 s1 w1 =>
  ⟨B, W, ds, P, PX, (e.gs g1).bw, by rw [List.append_nil]; exact s1, w1, fun v d H2 g2 s p => q v d H2 (g1.trans g2) s p, fun cls dd H2 C f d g2 x p => qx cls dd H2 C f d (g1.trans g2) x p⟩
end
/-- an __init__ that may raise -/
def spMIX (K : PySem.W.Frag) (C : Addr) (ms : List Md) (m : List D → M Xr) : Sp := fun vs H Q E => ∃ (B W : List Addr) (ds : List D) (P : D → Prop) (PX : Addr → Str → D → Prop) (x dx : Addr) (ws : List V), vs = .ref x :: ws ∧ H x = some (.ins C dx []) ∧ x ∉ B ∧ (∀ b ∈ W, b ∈ B) ∧ BW (x :: B) W H ∧
  AmA K (x :: B) W H ms ws ds ∧ NoX x ms ws ds ∧ wp (m ds) (Xr.on P PX) ∧
  (∀ d H', (∀ a o, a ∉ W → a ≠ x → H a = some o → H' a = some o) → (∀ a, H' a = none → H a = none) → (∀ a xs, H a = some (.tup xs) → H' a = some (.tup xs)) → (∀ b, b ∈ W → ∀ c ns, c ∉ W → c ≠ x → BagC H b c ns → BagC H' b c ns) → OwAt K (x :: B) H' x d → P d → Q .non H') ∧
  ∀ cls dd H' C' f d, (∀ a o, a ∉ W → a ≠ x → H a = some o → H' a = some o) → (∀ a, H' a = none → H a = none) → (∀ a xs, H a = some (.tup xs) → H' a = some (.tup xs)) → (∀ b, b ∈ W → ∀ c ns, c ∉ W → c ≠ x → BagC H b c ns → BagC H' b c ns) → XAt K B H' C' f d cls dd → PX C' f d → E cls dd H'
theorem spMIX_len {K : PySem.W.Frag} {C : Addr} {ms : List Md} {m : List D → M Xr} {vs : List V} {H : Hp} {Q : VK} {E : XK} (h : spMIX K C ms m vs H Q E) : vs.length = ms.length + 1 := by
  obtain ⟨_, _, _, _, _, _, _, _, rfl, _, _, _, _, a, _⟩ := h
  show _ + 1 = _
  rw [a.len.1]
section
variable {K : PySem.W.Frag} {E : XK} {ρ : List En} {te : TE} {tl : TA} {ms ms2 : List Md} {A : MA} {l : List D → M Xr} {C : Addr}
theorem RX.makeD {dvs : List V} {dds : List D} (h : RAm K tl ρ ms A) (hd : Dfs K ms2 dvs dds) : RX K E (tMake C (spMIX K C (ms ++ ms2) l) dvs E tl) ρ (A Xr fun ds => l (ds ++ dds)) := fun P PX w B W H σ e Q q qx =>
  h Xr _ _ w B W H σ e _ fun vs es H1 g1 s1 w1 x dx nx ndx ne => by
    have e1 := e.gs g1
    have xB : x ∉ B := e1.bw.notNew nx
    have nx1 : upd H1 dx (.own x) x = none := by
      rw [upd_ne ne.symm]
      exact nx
    have g2 : Gs W H1 (upd (upd H1 dx (.own x)) x (.ins C dx [])) := (Gs.new ndx).trans (Gs.new nx1)
    have g := g1.trans g2
    have s2 := (s1.append (hd B W H1)).gs e1.bw.sub (Gs.new (p := dx) (o := .own x) ndx)
    have e3 : EnvOk K (x :: B) W (upd (upd H1 dx (.own x)) x (.ins C dx [])) σ ρ := (e1.gs (Gs.new ndx)).out nx1
    have nH : H x = none := g1.gw.free x nx
    have gs : ∀ H2, (∀ a o, a ∉ W → a ≠ x → upd (upd H1 dx (.own x)) x (.ins C dx []) a = some o → H2 a = some o) → (∀ a, H2 a = none → upd (upd H1 dx (.own x)) x (.ins C dx []) a = none) → (∀ a xs, upd (upd H1 dx (.own x)) x (.ins C dx []) a = some (.tup xs) → H2 a = some (.tup xs)) →
        (∀ b, b ∈ W → ∀ c ns, c ∉ W → c ≠ x → BagC (upd (upd H1 dx (.own x)) x (.ins C dx [])) b c ns → BagC H2 b c ns) → Gs W H H2 := fun H2 hk hf ht hg => by
      refine ⟨⟨fun a o na ea => ?_, fun a ea => g.gw.free a (hf a ea), fun a xs ea => ht a xs (g.gw.tups a xs ea)⟩, fun b mb c ns nc hB => ?_⟩
      · refine hk a o na (fun z => ?_) (g.gw.keep a o na ea)
        rw [z, nH] at ea
        cases ea
      · refine hg b mb c ns nc (fun z => ?_) (g.bag b mb c ns nc hB)
        have := hB.2.1
        rw [z, nH] at this
        cases this
    exact ⟨B, W, es ++ dds, P, PX, x, dx, vs ++ dvs, rfl, upd_same, xB, e1.bw.sub, e3.bw, s2.out nx1 e1.bw.sub, nox_of nx1 s2, w1,
      fun d H2 hk hf ht hg k p => ⟨rfl, q _ d H2 (gs H2 hk hf ht hg) (k.sg (fun a m => List.mem_cons_of_mem _ m) xB) p⟩,
      fun cls dd H2 C' f d hk hf ht hg xa p => qx cls dd H2 C' f d (gs H2 hk hf ht hg) xa p⟩
theorem RX.make (h : RAm K tl ρ ms A) : RX K E (tMake C (spMIX K C ms l) [] E tl) ρ (A Xr l) := by
  have z := RX.makeD (E := E) (C := C) (l := l) h (dfs_nil (K := K))
  simp only [List.append_nil] at z
  exact z
theorem RX.makeE {m : M Xr} (h : RAm K tl ρ ms A) (e : A Xr l = m) : RX K E (tMake C (spMIX K C ms l) [] E tl) ρ m := e ▸ RX.make h
end
theorem body_MIX {K : PySem.W.Frag} {C : Addr} {ms : List Md} {N : List Str} {t : TS} {vs : List V} {H : Hp} {Q : VK} {E : XK} {m : List D → M Xr} (h : spMIX K C ms m vs H Q E) (hN : ms.length + 1 ≤ N.length)
    (hb : ∀ ds x, Mds ms ds → ∃ ρ, En.own ⟨some x, .ins C [] []⟩ :: (List.zipWith Md.en ms ds ++ List.replicate (N.length - 1 - ms.length) .no) = ρ ∧ GX K (fun P => P.fr = false) E t ρ (m ds) fun P d => ∀ ρ', ρ'[0]? = some (.own ⟨some x, d⟩) → P.nx ρ') :
    t ⟨fun _ H' => Q .non H', Q, fun _ _ => False, fun _ _ => False⟩ (start N vs) H := by
  obtain ⟨B, W, ds, P, PX, x, dx, ws, rfl, hx, xB, wB, bw, a, nx, w, q, qx⟩ := h
  obtain ⟨ρ, rfl, hb⟩ := hb ds x a.mds
  have hl := a.len
  have zl : (List.zipWith Md.en ms ds).length = ms.length := by rw [List.length_zipWith, hl.2, Nat.min_self]
  have hst : start N (.ref x :: ws) = some (.ref x) :: (ws.map some ++ List.replicate (N.length - 1 - ms.length) none) := by
    unfold L2.start
    rw [List.map_cons, List.length_cons, hl.1]
    rw [show N.length - (ms.length + 1) = N.length - 1 - ms.length by omega]
    rfl
  have nO := ams_own (ms := ms) (ds := ds) (n := N.length - 1 - ms.length)
  have own0 : ∀ a, Own (start N (.ref x :: ws)) (En.own ⟨some x, .ins C [] []⟩ :: (List.zipWith Md.en ms ds ++ List.replicate (N.length - 1 - ms.length) .no)) a ↔ a = x := fun a => by
    rw [hst]
    constructor
    · rintro ⟨i, d, h1, h2⟩
      cases i with
      | zero =>
        cases h2
        rfl
      | succ i =>
        have := List.all_eq_true.mp nO _ (List.mem_of_getElem? (show _ = some (En.own d) from h1))
        cases this
    · rintro rfl
      exact ⟨0, _, rfl, rfl⟩
  have bx : ¬ Bor (start N (.ref x :: ws)) (En.own ⟨some x, .ins C [] []⟩ :: (List.zipWith Md.en ms ds ++ List.replicate (N.length - 1 - ms.length) .no)) x := by
    rw [hst]
    rintro ⟨i, d, h1, hr, h2⟩
    cases i with
    | zero => cases h1
    | succ i =>
      have h1 : (List.zipWith Md.en ms ds ++ List.replicate (N.length - 1 - ms.length) .no)[i]? = some (.bor d) := h1
      have h2 : (ws.map some ++ List.replicate (N.length - 1 - ms.length) none)[i]? = some (some (.ref x)) := h2
      have hi : i < ms.length := by
        rcases Nat.lt_or_ge i ms.length with z | z
        · exact z
        · rw [List.getElem?_append_right (by rw [zl]; exact z)] at h1
          have := (List.mem_replicate.mp (List.mem_of_getElem? h1)).2
          cases this
      rw [List.getElem?_append_left (by rw [zl]; exact hi)] at h1
      rw [List.getElem?_append_left (by rw [List.length_map, hl.1]; exact hi)] at h2
      refine nox_env a nx i d h1 hr ?_
      rw [List.getElem?_map] at h2
      cases ew : ws[i]? with
      | none =>
        rw [ew] at h2
        cases h2
      | some v =>
        rw [ew] at h2
        cases h2
        rfl
  refine hb ⟨fun ρ' => ∃ d, ρ'[0]? = some (.own ⟨some x, d⟩) ∧ P d, fun _ => False, fun _ => False, fun _ => False, false⟩ PX rfl (wp_mono w fun o p => match o, p with
    | .ok d, p => fun ρ' h0 => ⟨d, h0, p⟩
    | .ex _ _ _, p => p) B (x :: B) W H _ ⟨bw, ?_, fun i en hi => ?_, fun i j d1 d2 a h1 h2 h3 h4 => ?_, fun a o b => ?_⟩
    ⟨fun a m => List.mem_cons_of_mem _ m, fun a m => ?_, fun a m o => ?_, wB⟩ _ (fun ρ' σ' H' B' g e' f' pp => ?_) (fun _ _ _ _ _ z => z.elim) (fun _ _ _ _ _ _ _ z => z.elim) (fun _ _ _ _ _ _ _ z => z.elim)
    fun cls dd H' C' f d g xa p => qx cls dd H' C' f d (fun b o nw nx e => g.keep b o nw (fun z => nx ((own0 b).mp z)) e) g.free g.tups (fun b m c ns nc nx h => g.bag b m c ns nc (fun z => nx ((own0 c).mp z)) h) xa p
  · rw [hst]
    simp [hl.1, zl]
  · rw [hst]
    cases i with
    | zero =>
      cases hi
      exact ⟨x, rfl, List.mem_cons_self .., fun m => xB (wB x m), (fun b z => (Option.some.inj z).symm), dx, [], hx, rfl, .nil⟩
    | succ i =>
      have hi : (List.zipWith Md.en ms ds ++ List.replicate (N.length - 1 - ms.length) .no)[i]? = some en := hi
      show EnOk K (x :: B) W H ((ws.map some ++ List.replicate (N.length - 1 - ms.length) none)[i]?) en
      by_cases hlt : i < ms.length
      · rw [List.getElem?_append_left (by rw [zl]; exact hlt)] at hi
        rw [List.getElem?_append_left (by rw [List.length_map, hl.1]; exact hlt)]
        exact ams_env a i en hi
      · rw [List.getElem?_append_right (by rw [zl]; omega), List.getElem?_replicate] at hi
        split at hi
        · cases hi
          trivial
        · cases hi
  · have z : ∀ (k : Nat) (d : Ow), (En.own ⟨some x, .ins C [] []⟩ :: (List.zipWith Md.en ms ds ++ List.replicate (N.length - 1 - ms.length) .no))[k]? = some (.own d) → k = 0 := fun k d hk => by
      cases k with
      | zero => rfl
      | succ k =>
        have := List.all_eq_true.mp nO _ (List.mem_of_getElem? (show _ = some (En.own d) from hk))
        cases this
    rw [z i d1 h1, z j d2 h2]
  · rw [(own0 a).mp o] at b
    exact bx b
  · rcases List.mem_cons.mp m with z | z
    · exact .inr ((own0 a).mpr z)
    · exact .inl z
  · exact xB ((own0 a).mp o ▸ m)
  · obtain ⟨d, h0, pp⟩ := pp
    obtain ⟨a, ea, aB, aW, tg, k⟩ := e'.sl 0 _ h0
    have ax : x = a := tg x rfl
    subst ax
    refine q d H' (fun b o nw nx e => g.keep b o nw (fun z => nx ((own0 b).mp z)) e) g.free g.tups (fun b m c ns nc nx h => g.bag b m c ns nc (fun z => nx ((own0 c).mp z)) h) (k.mv (fun _ z => z) fun _ _ r => r.less fun b m => ?_) pp
    rcases List.mem_cons.mp m with z | z
    · rw [z]
      exact aB
    · exact f'.fb b z
end VB
namespace VB
open PySem PySem.Spec PyProof.Rows L2
/-- isinstance(e, c), isinstance(e, (c1, ..)): e the error that the suite holds, with a field -/
def rIsX (K : PySem.W.Frag) (a : Addr) (cls : Value) (dd : Option Addr) : List V → Hp → VK → Prop := fun xs H Q => ∃ (C x : Addr) (fs : List (Str × V)), cls = .ref C ∧ dd = some x ∧ H x = some (.xd fs) ∧ L2.ExcC K C ∧
  ((∃ (c : V) (u : Value) (b : Bool), xs = [.ref a, c] ∧ ClsV c u ∧ PySem.W.kitOne K (.ref C) u = some b ∧ Q (.bl b) H) ∨
    ∃ (tp : Addr) (cs : List V) (us : List Value) (b : Bool), xs = [.ref a, .ref tp] ∧ H tp = some (.tup cs) ∧ Paired ClsV cs us ∧ PySem.W.kitAny K (.ref C) us = some b ∧ Q (.bl b) H)
theorem call_isX {X : Cx} {a : Addr} {oe : Obj} {cls : Value} {dd : Option Addr} {pn : List (Addr × Obj)} (hz : Zc cls dd oe) (hf : ∃ vs, oe.data = .fields vs) : CallR (X.suite a ((a, oe) :: pn)) (.builtin "isinstance") (rIsX X.K a cls dd) := by
  intro pins s σ H xs us Q I r h
  obtain ⟨C, x, fs, rfl, rfl, hx, T, h⟩ := h
  obtain ⟨hg, _⟩ := I.pin (a, oe) (List.mem_append.mpr (.inl List.mem_cons_self))
  obtain ⟨vs, hv⟩ := hf
  obtain ⟨mA, hns, _⟩ := (show ObjOk X.prog X.w H s.heap x (.xd fs) from I.hok x _ hx)
  obtain ⟨od, ho, _⟩ := lookIn_ns hns
  have J : PySem.W.InstAt s.heap a oe C (some od) := ⟨hg, hz.1, (by unfold PySem.W.notCls; rw [hv] <;> rfl), (by rw [hz.2]; exact ho)⟩
  have hcl : (PySem.W.clsIn X.K C).isSome = true := by
    obtain ⟨cd, hc, _⟩ := PySem.W.any_some T.hd
    rw [hc] <;> rfl
  have kx := PySem.W.kitx_exc (x := a) (ox := oe) (od := some od) hcl T.hg T.hk T.hs T.ha T.hn T.ht T.hm
  rcases h with ⟨c, u, b, rfl, hc, e, q⟩ | ⟨tp, cs, ws, b, rfl, hT, hp, e, q⟩
  · obtain ⟨u1, u2, rfl, r1, r2⟩ := vals2 r
    cases (show u1 = Value.ref a from r1)
    have e2 := hc.eq r2
    subst e2
    exact PySem.W.kia_one kx I.kIn J e (fun z => nomatch z) fun tk => ⟨.bl b, H, I.tok tk, rfl, q⟩
  · obtain ⟨u1, u2, rfl, r1, r2⟩ := vals2 r
    cases (show u1 = Value.ref a from r1)
    cases (show u2 = Value.ref tp from r2)
    obtain ⟨_, its, rv, o, h1, h2, n, h3⟩ := (show ObjOk X.prog X.w H s.heap tp (.tup cs) from I.hok tp _ hT)
    have e3 := ClsV.all hp rv
    subst e3
    obtain ⟨oc, od', dt, sl⟩ := o
    simp only at h2 h3
    subst h2 h3
    exact PySem.W.kia_tup kx I.kIn J h1 e (fun z => nomatch z) fun tk => ⟨.bl b, H, I.tok tk, rfl, q⟩
/-- the wish of what stands within a try: whatever the slots are -/
def EW (W : WX) (n : Nat) : XK := fun cls dd H => ∀ σ : L2.St, σ.length = n → W cls dd σ H
theorem passW {X : Cx} {W : WX} {n : Nat} (tk : Takes X W) (hn : X.N.length = n) : Passes (L2.CX X.prog X.w) X (EW W n) := fun pins σ H s u s' I c => tk u s' (XE.of_call I (fun cls dd H' h => h σ (I.len.trans hn)) c)
theorem take_none {X : Cx} : Takes X (fun _ _ _ _ => False) := fun u s' ⟨_, _, _, _, _, _, _, _, _, _, _, _, _, _, _, _, w⟩ => w.elim
/-- what an except suite does that hands data back: of an error of C0 with d at f -/
def SuX (K : PySem.W.Frag) (C0 : Addr) (f : Str) (n i : Nat) (ts : Addr → Value → Option Addr → TS) (k : D → M D) : Prop := ∀ (a x : Addr) (v : V) (d : D) (B W : List Addr) (H : Hp) (σ : L2.St) (P : D → Prop), σ.length = n → BW B W H → H a = none → H x = some (.xd [(f, v)]) → Sg K B H v d → wp (k d) P →
  ∀ Z : Ends, (∀ u e H', Gs W H H' → Sg K B H' u e → P e → Z.rt u H') → ts a (.ref C0) (some x) Z (σ.set i (some (.ref a))) H
/-- the reading of it: te stands for what is returned, whatever the wish about errors -/
def tTry1 (K : PySem.W.Frag) (c : Value) (i : Nat) (ts : Addr → Value → Option Addr → TS) (Wout : WX) (n : Nat) (te : XK → TE) : TS := fun Z σ H => tRet (te (EW (wAs K c i ts Wout Z) n)) Z σ H
theorem ps_try1 {X : Cx} {x nm : Str} {c : Value} {i n : Nat} {e : Expr} {suite : List Stmt} {b0 : Stmt} {np rp pos pos' : Pos} {te : XK → TE} {ts : Addr → Value → Option Addr → TS} {Wout : WX} (h1 : X.stack = X.env :: X.outer) (h2 : X.env.frame = some X.env.locals) (h3 : X.N.Nodup) (h4 : X.N[i]? = some nm)
    (h5 : X.env.kindOf nm = some .local) (hc : Names X x c) (tk : Takes X Wout) (hn : X.N.length = n)
    (he : ∀ (E : XK) (pn : List (Addr × Obj)) (xe : Value → Shared → Prop), Passes (L2.CX X.prog X.w) (X.tr pn xe) E → PE (X.tr pn xe) e (te E))
    (hsu : ∀ (a : Addr) (oe : Obj) (cls : Value) (d : Option Addr) (pn : List (Addr × Obj)), Zc cls d oe → (∃ vs, oe.data = .fields vs) → PSs (X.suite a ((a, oe) :: pn)) (b0 :: suite) (ts a cls d)) :
    PS X (.Try [.Return (some e) rp] [.ExceptHandler (some (.Name x np)) (some nm) (b0 :: suite) pos'] [] [] pos) (tTry1 X.K c i ts Wout n te) :=
  ps_try_as (tb := fun W => tRet (te (EW W n))) h1 h2 h3 h4 h5 hc tk (fun W pn xe tk' _ => pss_one (ps_ret (he _ pn xe (passW tk' hn)))) hsu
open Classical in
/-- try: return .. / except C0 as e: .. -/
noncomputable def M.tryAs (C0 : Addr) (f : Str) (m : M Xr) (k : D → M D) : M D := m.bind (Xr.then .ret fun C g d => if C = C0 ∧ g = f then k d else .fail)
/-- try: return te / except C0 as e: ts -/
theorem G.tryAs {K : PySem.W.Frag} {R : Po → Prop} {C0 : Addr} {f : Str} {i n : Nat} {te : XK → TE} {ts : Addr → Value → Option Addr → TS} {ρ : List En} {m : M Xr} {k : D → M D} {v : TS} {Wout : WX} (hR : ∀ P, R P → P.fr = false) (hn : ρ.length = n)
    (hm : PySem.W.exmOne K (.ref C0) (.ref C0) = some true) (hx : ∀ E, RX K E (te E) ρ m) (hs : SuX K C0 f n i ts k) :
    G K R (tSeq (tTry1 K (.ref C0) i ts Wout n te) v) ρ (M.tryAs C0 f m k) CF := fun P r w F B W H σ e fr Z q1 q2 q3 q4 =>
  hx _ P.rt (fun C g d => C = C0 ∧ g = f ∧ wp (k d) P.rt) (wp_mono (wp_bind.mp w) fun o z => by
    match o, z with
    | .ok d, z => exact z
    | .ex C g d, z =>
      by_cases h : C = C0 ∧ g = f
      · exact ⟨h.1, h.2, by rw [Xr.then, if_pos h] at z; exact z⟩
      · rw [Xr.then, if_neg h] at z
        exact z.elim) B W H σ e _ (fun u d H' g s p => q2 u d H' (.of g fun _ z => z.elim) (by rw [hR P r]; exact s.less fr.fb) p) fun cls dd H' C g d gg x p => by
    obtain ⟨rfl, rfl, wk⟩ := p
    obtain ⟨rfl, y, u, rfl, hy, su⟩ := x
    intro σ' hl
    refine ⟨true, hm, fun _ a na => ?_, fun z => nomatch z⟩
    exact hs a y u d B W H' σ' P.rt hl ((e.gs gg).bw) na hy su wk _ fun u' d' H2 g2 s2 p2 => q2 u' d' H2 (.of (gg.trans g2) fun _ z => z.elim) (by rw [hR P r]; exact s2.less fr.fb) p2
/-- good = isinstance(e, V) and not isinstance(e, (T, U)); return ("refused", e.f if good else "odd") -/
theorem su_refused {K : PySem.W.Frag} {C0 V0 T0 U0 : Addr} {f : Str} {n i j : Nat} {z1 z2 : Str} (T : L2.ExcC K C0) (kV : PySem.W.kitOne K (.ref C0) (.ref V0) = some true) (kT : PySem.W.kitAny K (.ref C0) [.ref T0, .ref U0] = some false) (hi : i < n) (hj : j < n) (ne : j ≠ i) :
    SuX K C0 f n i (fun a cls dd => tSeq (tAsg (tAndV (tCB (rIsX K a cls dd) (tCons (tVar i) (tCons (tC (.ref V0)) tNil))) (tNotV (tCB (rIsX K a cls dd) (tCons (tVar i) (tCons (tTup (tCons (tC (.ref T0)) (tCons (tC (.ref U0)) tNil))) tNil))))) (gName j))
      (tRet (tTup (tCons (tC (.str z1)) (tCons (tIf (tB (tVar j)) (tXf a cls dd C0 f (tVar i)) (tC (.str z2))) tNil))))) (fun d => D.tupM [.str z1, d]) := fun a x v d B W H σ P hl b na hx s w Z q => by
  have e1 : (σ.set i (some (V.ref a)))[i]? = some (some (.ref a)) := List.getElem?_set_self (by rw [hl]; exact hi)
  refine ⟨.ref a, e1, C0, x, [(f, v)], rfl, rfl, hx, T, .inl ⟨.ref V0, .ref V0, true, rfl, .own V0, kV, true, rfl, ?_⟩⟩
  rw [if_pos rfl]
  refine ⟨.ref a, e1, by show 2 ≤ _; rw [sizeLine_eq]; decide, fun p np => ?_⟩
  have hx1 : upd H p (.tup [V.ref T0, V.ref U0]) x = some (.xd [(f, v)]) := by
    rw [upd_ne (ne_of_none hx np)]
    exact hx
  refine ⟨C0, x, [(f, v)], rfl, rfl, hx1, T, .inr ⟨p, [.ref T0, .ref U0], [.ref T0, .ref U0], false, rfl, upd_same, .cons (.own T0) (.cons (.own U0) .nil), kT, false, rfl, ?_⟩⟩
  show gName j (V.bl true) _ _ _
  have e2 : ((σ.set i (some (V.ref a))).set j (some (V.bl true)))[i]? = some (some (.ref a)) := by rw [List.getElem?_set_ne ne]; exact e1
  have e3 : ((σ.set i (some (V.ref a))).set j (some (V.bl true)))[j]? = some (some (.bl true)) := List.getElem?_set_self (by rw [List.length_set, hl]; exact hj)
  refine ⟨.bl true, e3, true, rfl, .ref a, e2, rfl, rfl, x, [(f, v)], v, rfl, hx1, (by rw [lookup_put, if_pos rfl]), by show 2 ≤ _; rw [sizeLine_eq]; decide, fun p2 np2 => ?_⟩
  have g1 : Gs W H (upd H p (.tup [V.ref T0, V.ref U0])) := Gs.new np
  have g2 : Gs W (upd H p (.tup [V.ref T0, V.ref U0])) (upd (upd H p (.tup [V.ref T0, V.ref U0])) p2 (.tup [.str z1, v])) := Gs.new np2
  refine q _ (.tup [.str z1, d]) _ (g1.trans g2) (.tup trivial upd_same (.cons (.str z1) (.cons ((s.gw (Gw.new np)).gw (Gw.new np2)) .nil))) ?_
  exact (wp_ite w).2
end VB
namespace VB
open PySem PySem.Spec PyProof.Rows L2
def rStrT : List V → Hp → VK → Prop := fun xs H Q => ∃ b, xs = [.bl b] ∧ Q (.str (if b = true then "True" else "False")) H
theorem cr_strB {X : Cx} : CallR X (.type "str") rStrT := by
  intro pins s σ H xs us Q I r h
  obtain ⟨b, rfl, q⟩ := h
  obtain ⟨u, rfl, rb⟩ := vals1 r
  cases rb
  exact PySem.P.str_of_bool ⟨.str _, H, I.tok _, ⟨_, rfl⟩, q⟩
def D.strB : D → M D
  | .bl b => .ret (.str (if b = true then "True" else "False"))
  | _ => .fail
theorem strB_c {K : PySem.W.Frag} : CaD K rStrT (M.one D.strB) := .one fun x P w B W H v bw s Q q => by
  cases x with
  | bl b =>
    cases s
    exact ⟨b, rfl, q _ _ H Gs.refl (.str _) w⟩
  | _ => exact (show False from w).elim
def rIsiE (K : PySem.W.Frag) : List V → Hp → VK → Prop := fun xs H Q => rIsi K xs H Q ∨ ∃ (a : Addr) (kvs : List (List Key × V)) (c : V) (u : Value) (b : Bool), xs = [.ref a, c] ∧ Rd H a (.dT kvs) ∧ ClsV c u ∧ PySem.W.kitOne K (.type "dict") u = some b ∧ Q (.bl b) H
def rIsiTE (K : PySem.W.Frag) : List V → Hp → VK → Prop := fun xs H Q => rIsiT K xs H Q ∨ ∃ (a tp : Addr) (kvs : List (List Key × V)) (cs : List V) (us : List Value) (b : Bool), xs = [.ref a, .ref tp] ∧ Rd H a (.dT kvs) ∧ H tp = some (.tup cs) ∧ Paired ClsV cs us ∧ PySem.W.kitAny K (.type "dict") us = some b ∧ Q (.bl b) H
theorem cr_isiE {X : Cx} {K : PySem.W.Frag} (hK : X.K = K) : CallR X (.builtin "isinstance") (rIsiE K) := by
  subst hK
  intro pins s σ H xs us Q I r h
  rcases h with h | ⟨a, kvs, c, u, b, rfl, hd, hc, e, q⟩
  · exact call_isi pins s σ H xs us Q I r h
  · obtain ⟨u1, u2, rfl, r1, r2⟩ := vals2 r
    cases (show u1 = Value.ref a from r1)
    have e2 := hc.eq r2
    subst e2
    obtain ⟨_, _, _, _, o, es, ep, h1, h2, _⟩ := dt_rd I.hok hd
    exact PySem.W.kia_one PySem.W.kitx_dict I.kIn ⟨o, h1, h2.1⟩ e (fun z => nomatch z) fun tk => ⟨.bl b, H, I.tok tk, rfl, q⟩
theorem cr_isiTE {X : Cx} {K : PySem.W.Frag} (hK : X.K = K) : CallR X (.builtin "isinstance") (rIsiTE K) := by
  subst hK
  intro pins s σ H xs us Q I r h
  rcases h with h | ⟨a, tp, kvs, cs, ws, b, rfl, hd, hT, hp, e, q⟩
  · exact call_isiT pins s σ H xs us Q I r h
  · obtain ⟨u1, u2, rfl, r1, r2⟩ := vals2 r
    cases (show u1 = Value.ref a from r1)
    cases (show u2 = Value.ref tp from r2)
    obtain ⟨_, _, _, _, o, es, ep, h1, h2, _⟩ := dt_rd I.hok hd
    obtain ⟨_, its, rv, o2, g1, g2, n, g3⟩ := (show ObjOk X.prog X.w H s.heap tp (.tup cs) from I.hok tp _ hT)
    have e3 := ClsV.all hp rv
    subst e3
    obtain ⟨oc, od', dt, sl⟩ := o2
    simp only at g2 g3
    subst g2 g3
    exact PySem.W.kia_tup PySem.W.kitx_dict I.kIn ⟨o, h1, h2.1⟩ g1 e (fun z => nomatch z) fun tk => ⟨.bl b, H, I.tok tk, rfl, q⟩
def D.isiE (x y : D) : M D := match x with
  | .dit _ _ => D.isi (.dic [] []) y
  | x => D.isi x y
def D.isiTE (Cs : List Addr) (cs : List D) (x : D) : M D := match x with
  | .dit _ _ => D.isiT Cs cs (.dic [] [])
  | x => D.isiT Cs cs x
theorem isiE_c {K : PySem.W.Frag} : CaD K (rIsiE K) (M.two D.isiE) := .two fun x y P w B W H v u b sv su Q q => by
  have other : wp (D.isi x y) P → rIsiE K [v, u] H Q := fun w => .inl (isi_c [x, y] P (show wp (M.two D.isi [x, y]) P from w) B W H [v, u] b (.cons sv (.cons su .nil)) Q q)
  cases x with
  | dit ks ds =>
    obtain ⟨a, kvs, rfl, _, h, _⟩ := sv
    cases y with
    | ty c =>
      cases su
      have w : wp (match kitB "dict" c with | some b => M.ret (D.bl b) | none => .fail) P := w
      cases e2 : kitB "dict" c with
      | none =>
        rw [e2] at w
        exact w.elim
      | some k =>
        rw [e2] at w
        exact .inr ⟨a, kvs, _, _, k, rfl, h, .ty c, kit_ty e2, q _ _ H Gs.refl (.bl _) w⟩
    | _ => exact (show False from w).elim
  | _ => exact other w
theorem RE.isiTE {K : PySem.W.Frag} {Cs : List Addr} {ρ : List En} {te : TE} {md : M D} {t : TA} {cs : List D} (k : KC K Cs) (h : RR K te ρ md) (ht : ∀ (σ : L2.St) (H : Hp) (Q : List V → Hp → Prop), Q (cs.map D.cV) H → t σ H Q) : RE K (tCB (rIsiTE K) (tCons te (tCons (tTup t) tNil))) ρ (md.bind (D.isiTE Cs cs)) := fun P w B W H σ e Q q =>
  h _ (wp_bind.mp w) B W H σ e _ fun v x H1 g1 s1 w1 => by
    show tTup t σ H1 fun x H2 => rIsiTE K [v, x] H2 Q
    have old : wp (D.isiT Cs cs x) P → tTup t σ H1 fun x H2 => rIsiTE K [v, x] H2 Q := fun w2 => by
      obtain ⟨⟨h1, h2, h3⟩, w2⟩ := wp_ite w2
      refine ht σ H1 _ ⟨by rw [sizeLine_eq, List.length_map]; omega, fun p np => ?_⟩
      cases ea : D.anyK Cs x cs with
      | none =>
        rw [ea] at w2
        exact w2.elim
      | some b =>
        rw [ea] at w2
        exact .inl ⟨v, p, cs.map D.cV, x.tyV, cs.map D.cU, b, rfl, upd_same, cls_pair h2, kn_tyx k h1 (s1.gs e.bw.sub (Gs.new np)), anyK_ok k ea, q _ _ _ (g1.trans (Gs.new np)) (.bl b) w2⟩
    cases x with
    | dit ks ds =>
      obtain ⟨a, kvs, rfl, aW, hd, _⟩ := s1
      obtain ⟨⟨h1, h2, h3⟩, w2⟩ := wp_ite (show wp (D.isiT Cs cs (.dic [] [])) P from w1)
      refine ht σ H1 _ ⟨by rw [sizeLine_eq, List.length_map]; omega, fun p np => ?_⟩
      cases ea : D.anyK Cs (.dic [] []) cs with
      | none =>
        rw [ea] at w2
        exact w2.elim
      | some b =>
        rw [ea] at w2
        refine .inr ⟨a, p, kvs, cs.map D.cV, cs.map D.cU, b, rfl, rd_gw aW (Gw.new np) hd, upd_same, cls_pair h2, anyK_ok k ea, q _ _ _ (g1.trans (Gs.new np)) (.bl b) w2⟩
    | _ => exact old w1
theorem reads_kV {h : Heap} : ∀ {k : List Key} {its : List Value}, Vals (k.map kV) its → ReadsAll h its (k.map kD) []
  | [], _, .nil => ReadsAll.nil
  | j :: k, _, .cons r0 r => by
    have one : ∀ {u : Value}, RelV (kV j) u → Reads h u (kD j) [] := fun {u} r0 => by
      cases j with
      | inl i =>
        obtain ⟨t, rfl⟩ := r0
        exact Reads.int i t
      | inr x =>
        obtain ⟨t, rfl⟩ := r0
        exact Reads.str x t
    exact ReadsAll.cons (one r0) (reads_kV r)
theorem kt_reads {X : Cx} {pins : List (Addr × Obj)} {σ : L2.St} {H : Hp} {s : Shared} {P : Program} {w : World} (I : Inv X pins σ H s) : ∀ {kvs : List (List Key × V)} {xs : List (List Key × Addr × Value)}, KT H kvs xs →
    ReadsAll s.heap ((xs.map (entryOfKey (tupleKind (mixKind P w)))).map (·.key)) (kvs.map fun p => PyData.tuple (p.1.map kD)) [] ∧ Vals (kvs.map (·.2)) ((xs.map (entryOfKey (tupleKind (mixKind P w)))).map (·.val))
  | [], _, .nil => ⟨ReadsAll.nil, .nil⟩
  | p :: kvs, _, .cons h r => by
    obtain ⟨h1, h2, h3⟩ := h
    obtain ⟨q1, q2⟩ := kt_reads (P := P) (w := w) I r
    obtain ⟨its, rv, ⟨o, ho, hc, n, hd⟩, _⟩ := I.tuple (SqT.of h2)
    have one : Reads s.heap (.ref _) (.tuple (p.1.map kD)) [] := Reads.tuple ho hc hd (reads_kV rv)
    exact ⟨ReadsAll.cons one q1, .cons h3 q2⟩
def pyT (ks : List (List Key)) (es : List PyData) : PyData := .dict ((ks.map fun k => PyData.tuple (k.map kD)).zip es)
theorem dt_reads {X : Cx} {pins : List (Addr × Obj)} {σ : L2.St} {H : Hp} {s : Shared} (I : Inv X pins σ H s) (hs : sysOk X.K = true) {a : Addr} {kvs : List (List Key × V)} {es : List PyData} (hl : Rd H a (.dT kvs)) (ha : DqA X.K H (kvs.map (·.2)) es) : ∃ as, Reads s.heap (.ref a) (pyT (kvs.map (·.1)) es) as ∧ sysModules ∉ as := by
  obtain ⟨_, hn, xs, kt, o, en, ep, ho, hx, hd, he, _⟩ := dt_rd I.hok hl
  obtain ⟨q1, q2⟩ := kt_reads (P := X.prog) (w := X.w) I kt
  obtain ⟨as, hr, na⟩ := DqA.reads I hs ha _ q2
  have len := ha.length
  rw [List.length_map] at len
  have zl : ((kvs.map (·.1)).map fun k => PyData.tuple (k.map kD)).length = es.length := by
    rw [List.length_map, List.length_map]
    exact len
  refine ⟨_, Reads.dict (as := []) (bs := as) ho hx.1 hd ?_ ?_, fun m => ?_⟩
  · have em : (kvs.map (·.1)).map (fun k => PyData.tuple (k.map kD)) = kvs.map fun p => PyData.tuple (p.1.map kD) := List.map_map
    rw [List.map_fst_zip (Nat.le_of_eq zl), he, em]
    exact q1
  · rw [List.map_snd_zip (Nat.le_of_eq zl.symm), he]
    exact hr
  · rcases List.mem_append.mp m with m | m
    · rw [← List.mem_singleton.mp m] at hn
      simp at hn
    · exact na m
def rReprE (K : PySem.W.Frag) : List V → Hp → VK → Prop := fun vs H Q => rReprX K vs H Q ∨ ∃ (a : Addr) (kvs : List (List Key × V)) (es : List PyData), vs = [.ref a] ∧ Rd H a (.dT kvs) ∧ DqA K H (kvs.map (·.2)) es ∧ (pyT (kvs.map (·.1)) es).showable = true ∧ (pyT (kvs.map (·.1)) es).depth ≤ 60 ∧ (pyT (kvs.map (·.1)) es).shown.length ≤ sizeLine ∧ Q (.str (pyT (kvs.map (·.1)) es).shown) H
theorem cr_reprE {X : Cx} {K : PySem.W.Frag} (hK : X.K = K) (hs : sysOk K = true) (hg : X.A.guards = some []) (hu : X.A.units + 64 < cLine) : CallR X (.builtin "repr") (rReprE K) := by
  subst hK
  intro pins s σ H xs us Q I r h
  rcases h with h | ⟨a, kvs, es, rfl, hd, ha, h1, h3, h4, q⟩
  · exact call_reprX rfl hs hg hu pins s σ H xs us Q I r h
  · cases r with
    | cons r0 rn =>
      cases rn
      cases r0
      obtain ⟨as, hr, na⟩ := dt_reads I hs hd ha
      exact repr_of_reads' hr h1 (fun _ => na) hg (by omega) (fun _ _ e => e) (fun h' u tk hk => ⟨.str _, H, I.kept hk, ⟨_, rfl⟩, q⟩) h4
def D.reprE (d : D) : M D := match d with
  | .dit ks ds => if (D.plA ds && (pyT ks (D.pyA ds)).showable && (decide ((pyT ks (D.pyA ds)).depth ≤ 60) && decide ((pyT ks (D.pyA ds)).shown.length ≤ 16777216))) = true then .ret (.str (pyT ks (D.pyA ds)).shown) else .fail
  | d => D.reprM d
theorem reprE_c {K : PySem.W.Frag} : CaD K (rReprE K) (M.one D.reprE) := .one fun x P w B W H v b s Q q => by
  have other : wp (D.reprM x) P → rReprE K [v] H Q := fun w => .inl (repr_c [x] P (show wp (M.one D.reprM [x]) P from w) B W H [v] b (.cons s .nil) Q q)
  cases x with
  | dit ks ds =>
    obtain ⟨a, kvs, rfl, _, hd, rfl, r⟩ := s
    obtain ⟨h, w⟩ := wp_ite (show wp (if (D.plA ds && (pyT (kvs.map (·.1)) (D.pyA ds)).showable && (decide ((pyT (kvs.map (·.1)) (D.pyA ds)).depth ≤ 60) && decide ((pyT (kvs.map (·.1)) (D.pyA ds)).shown.length ≤ 16777216))) = true then M.ret (.str (pyT (kvs.map (·.1)) (D.pyA ds)).shown) else .fail) P from w)
    simp only [Bool.and_eq_true, decide_eq_true_eq] at h
    exact .inr ⟨a, kvs, _, rfl, hd, SgA.dq r h.1.1, h.1.2, h.2.1, by rw [sizeLine_eq]; exact h.2.2, q _ _ H Gs.refl (.str _) w⟩
  | _ => exact other w
def D.joinA (x y : D) : M D := match y with
  | .tup ds => D.join x (.lst ds)
  | y => D.join x y
theorem RE.joinA {K : PySem.W.Frag} {ρ : List En} {ta tb : TE} {ma mb : M D} (ha : RR K ta ρ ma) (hb : RR K tb ρ mb) : RE K (tM1 (rJoinK K) ta tb) ρ (ma.bind fun x => mb.bind fun y => D.joinA x y) := fun P w B W H σ e Q q =>
  ha _ (wp_bind.mp w) B W H σ e _ fun v x H1 g1 s1 w1 => by
    have w2 := wp_bind.mp w1
    cases x with
    | str a =>
      cases s1
      refine ⟨⟨a, rfl⟩, hb _ w2 B W H1 σ (e.gs g1) _ fun u y H2 g2 s2 w3 => ?_⟩
      have go : ∀ ds : List D, wp (D.join (.str a) (.lst ds)) P → ∃ ys : List Str, ds = ys.map D.str ∧ (ys.map (·.length)).sum + ys.length * a.length ≤ 16777216 ∧ P (.str (Txt.join a ys)) := fun ds w3 => by
        have w3 : wp (match D.strs ds with | some ys => if (ys.map (·.length)).sum + ys.length * a.length ≤ 16777216 then M.ret (D.str (Txt.join a ys)) else .fail | none => .fail) P := w3
        cases ez : D.strs ds with
        | none =>
          rw [ez] at w3
          exact w3.elim
        | some ys =>
          rw [ez] at w3
          obtain ⟨h1, w4⟩ := wp_ite w3
          exact ⟨ys, strs_at ez, h1, w4⟩
      cases y with
      | lst ds =>
        obtain ⟨ys, rfl, h1, w4⟩ := go ds w3
        obtain ⟨c, xs, rfl, _, h, r⟩ := s2
        rw [r.strs] at h
        exact ⟨a, c, ys, rfl, rfl, Or.inl (SqL.of h), h1, q _ _ H2 (g1.trans g2) (.str _) w4⟩
      | tup ds =>
        obtain ⟨ys, rfl, h1, w4⟩ := go ds w3
        obtain ⟨c, xs, rfl, h, r⟩ : ∃ c xs, u = .ref c ∧ H2 c = some (.tup xs) ∧ SgA K B H2 xs (ys.map D.str) := by
          cases s2 with
          | tup _ h r => exact ⟨_, _, rfl, h, r⟩
        rw [r.strs] at h
        exact ⟨a, c, ys, rfl, rfl, Or.inr (SqT.of h), h1, q _ _ H2 (g1.trans g2) (.str _) w4⟩
      | _ => exact (show False from w3).elim
    | _ => exact (wp_false (wp_mono w2 fun y z => by cases y <;> exact z)).elim
end VB
namespace VB
open PySem PySem.Spec PyProof.Rows L2
/-- an own error class over ValueError, as it stands in the written part -/
def oexC (K : PySem.W.Frag) (C : Addr) : Bool := match K.lookup C with
  | some ⟨.type "type", _, .cls cd, sl⟩ => (match cd.mro, sl.toList with
    | .ref C' :: bm, [_, _, _, _, some (.builtin n), _] => C' == C && (n == "ValueError.__new__" && (!cd.hasDel && (cd.hasDict && PySem.HandSPX.refsVE bm)))
    | _, _ => false)
  | _ => false
theorem oexC_ok {K : PySem.W.Frag} {C : Addr} (h : oexC K C = true) : ∃ nm q N bs bm sn sub ab col dd k0 k1 k2 k3 k5, K.lookup C = some (excClassObj nm q C N bs bm true sn sub ab col dd k0 k1 k2 k3 k5 "ValueError.__new__") ∧ PySem.HandSPX.refsVE bm = true := by
  unfold oexC at h
  split at h
  · rename_i dd cd sl ho
    split at h
    · rename_i C' bm k0 k1 k2 k3 n k5 em es
      obtain ⟨h1, h⟩ := Bool.and_eq_true_iff.mp h
      obtain ⟨h2, h⟩ := Bool.and_eq_true_iff.mp h
      obtain ⟨h3, h⟩ := Bool.and_eq_true_iff.mp h
      obtain ⟨h4, h5⟩ := Bool.and_eq_true_iff.mp h
      cases beq_iff_eq.mp h1
      cases beq_iff_eq.mp h2
      obtain ⟨nm, bs, mro, ns, qn, hd, sn, sub, ab, col, del⟩ := cd
      have h3 : (!del) = true := h3
      have h4 : hd = true := h4
      cases del with
      | true => cases h3
      | false =>
        subst h4
        have em : mro = .ref C :: bm := em
        subst em
        obtain ⟨l⟩ := sl
        have es : l = [k0, k1, k2, k3, some (.builtin "ValueError.__new__"), k5] := es
        subst es
        exact ⟨nm, qn, ns, bs, bm, sn, sub, ab, col, dd, k0, k1, k2, k3, k5, ho, h5⟩
    · cases h
  · cases h
/-- what is asked of an error class W with a field f and its __init__ at fI -/
structure ErF (K : PySem.W.Frag) (W fI : Addr) (f : Str) : Prop where
  ox : OexC K W
  ii : PySem.W.findIn K (.ref W) "__init__" = some (some (.ref fI))
  ti : PySem.W.typeIn K (.ref fI) = some (.type "function")
  nf : PySem.W.findIn K (.ref W) f = some none
  ex : L2.ExcC K W
  xf : XfC K W
  me : PySem.W.exmOne K (.ref W) (.ref W) = some true
def erB (x f : Str) (K : PySem.W.Frag) : Bool :=
  oexC K (He.ga K x) && (He.eqO (PySem.W.findIn K (.ref (He.ga K x)) "__setattr__") (some (some (.builtin "object.__setattr__"))) && (decide (PySem.W.subIn K (.ref (He.ga K x)) (.type "BaseException") = some true) && (decide (PySem.W.typeIn K (.ref (He.ga K x)) = some (.type "type")) && (PySem.W.keepIn K (.ref (He.ga K x)) &&
  (He.eqO (PySem.W.findIn K (.ref (He.ga K x)) "__init__") (some (some (.ref (atM x "__init__" K)))) && (decide (PySem.W.typeIn K (.ref (atM x "__init__" K)) = some (.type "function")) && (decide (PySem.W.findIn K (.ref (He.ga K x)) f = some none) &&
  (He.eqO (PySem.W.findIn K (.ref (He.ga K x)) "__getattribute__") (some (some (.builtin "BaseException.__getattribute__"))) && (decide (PySem.W.findIn K (.ref (He.ga K x)) "__getattr__" = some none) && (PySem.W.hasDictIn K (He.ga K x) && (He.eqO (PySem.W.findIn K (.ref (He.ga K x)) "__class__") (some (some (.builtin "object.__class__"))) &&
  (He.eqO (PySem.W.specialIn K (.builtin "object.__class__") "__get__") (some (some (.builtin "getset_descriptor.__get__"))) && (decide (PySem.W.takesIn K (.builtin "object.__class__") = some true) && (decide (PySem.W.mroIn K (He.ga K x) (.type "object") = some true) && decide (PySem.W.subIn K (.ref (He.ga K x)) (.ref (He.ga K x)) = some true)))))))))))))))
theorem erB_ok {x f : Str} {K : PySem.W.Frag} (h : erB x f K = true) : ErF K (He.ga K x) (atM x "__init__" K) f := by
  obtain ⟨a1, h⟩ := He.ba h
  obtain ⟨a2, h⟩ := He.ba h
  obtain ⟨a3, h⟩ := He.ba h
  obtain ⟨a4, h⟩ := He.ba h
  obtain ⟨a5, h⟩ := He.ba h
  obtain ⟨a6, h⟩ := He.ba h
  obtain ⟨a7, h⟩ := He.ba h
  obtain ⟨a8, h⟩ := He.ba h
  obtain ⟨b1, h⟩ := He.ba h
  obtain ⟨b2, h⟩ := He.ba h
  obtain ⟨b3, h⟩ := He.ba h
  obtain ⟨b4, h⟩ := He.ba h
  obtain ⟨b5, h⟩ := He.ba h
  obtain ⟨b6, h⟩ := He.ba h
  obtain ⟨b7, b8⟩ := He.ba h
  have s1 := of_decide_eq_true a3
  exact ⟨⟨oexC_ok a1, He.eqO_ok a2, s1, of_decide_eq_true a4, a5⟩, He.eqO_ok a6, of_decide_eq_true a7, of_decide_eq_true a8, ⟨He.eqO_ok b1, of_decide_eq_true b2, s1, b3, He.eqO_ok b4, He.eqO_ok b5, of_decide_eq_true b6, of_decide_eq_true b7⟩,
    ⟨He.eqO_ok b1, of_decide_eq_true b2, s1, b3⟩, PySem.W.exm_ref s1 b3 (of_decide_eq_true a4) (of_decide_eq_true b8)⟩
/-- the class above all own errors -/
structure VeF (K : PySem.W.Frag) (V : Addr) : Prop where
  r : PySem.W.readsIn K V (.type "type") = true
  s : PySem.W.specialIn K (.ref V) "__getattribute__" = some (some (.builtin "type.__getattribute__"))
  e : PySem.W.findCls K (.ref V) (.type "type") "__init__" = some (.val (.builtin "ValueError.__init__"))
def vvB (v : Option PySem.W.CFound) : Bool := match v with
  | some (.val (.builtin n)) => n == "ValueError.__init__"
  | _ => false
theorem vvB_ok {v : Option PySem.W.CFound} (h : vvB v = true) : v = some (.val (.builtin "ValueError.__init__")) := by
  unfold vvB at h
  split at h
  · rename_i n
    cases beq_iff_eq.mp h
    rfl
  · cases h
def veB (x : Str) (K : PySem.W.Frag) : Bool := PySem.W.readsIn K (He.ga K x) (.type "type") && (He.eqO (PySem.W.specialIn K (.ref (He.ga K x)) "__getattribute__") (some (some (.builtin "type.__getattribute__"))) && vvB (PySem.W.findCls K (.ref (He.ga K x)) (.type "type") "__init__"))
theorem veB_ok {x : Str} {K : PySem.W.Frag} (h : veB x K = true) : VeF K (He.ga K x) := by
  obtain ⟨h1, h⟩ := He.ba h
  obtain ⟨h2, h3⟩ := He.ba h
  exact ⟨h1, He.eqO_ok h2, vvB_ok h3⟩
/-- isinstance of an error of the class x with the class y, with one of the classes ys -/
def kiB (x y : Str) (b : Bool) (K : PySem.W.Frag) : Bool := decide (PySem.W.kitOne K (.ref (He.ga K x)) (.ref (He.ga K y)) = some b)
theorem kiB_ok {x y : Str} {b : Bool} {K : PySem.W.Frag} (h : kiB x y b K = true) : PySem.W.kitOne K (.ref (He.ga K x)) (.ref (He.ga K y)) = some b := of_decide_eq_true h
def kaB (x : Str) (ys : List Str) (b : Bool) (K : PySem.W.Frag) : Bool := decide (PySem.W.kitAny K (.ref (He.ga K x)) (ys.map fun y => .ref (He.ga K y)) = some b)
theorem kaB_ok {x : Str} {ys : List Str} {b : Bool} {K : PySem.W.Frag} (h : kaB x ys b K = true) : PySem.W.kitAny K (.ref (He.ga K x)) (ys.map fun y => .ref (He.ga K y)) = some b := of_decide_eq_true h
end VB
namespace K17
open PySem PySem.Spec PyProof.Rows L2 VB
def top (i : Nat) : Stmt := PySem.Challenge.pw_vouchchains_k17_refused.main.body.getD i (.Pass ⟨0, 0, 0, 0⟩)
abbrev s_Wrong_init : Stmt := inClass (top 3) 0
abbrev s_is_word : Stmt := top 9
abbrev s_is_name : Stmt := top 10
abbrev s_is_flagged : Stmt := top 13
abbrev s_are_flagged : Stmt := top 14
abbrev s_flag_at : Stmt := top 15
abbrev s_needed_flags : Stmt := top 16
abbrev s_Region_init : Stmt := inClass (top 18) 0
abbrev s_Region_contains : Stmt := inClass (top 18) 10
abbrev s_law_bag : Stmt := top 21
abbrev s_law_take : Stmt := top 22
abbrev s_law_mixed : Stmt := top 23
abbrev s_law_labels : Stmt := top 24
abbrev s_law_name : Stmt := top 25
abbrev s_law_drawn_flags : Stmt := top 27
abbrev s_law_is_word : Stmt := top 28
abbrev s_law_is_row : Stmt := top 29
abbrev s_law_is_good : Stmt := top 30
abbrev s_law_odd_row : Stmt := top 31
abbrev s_law_spoilt : Stmt := top 32
abbrev s_law_tried : Stmt := top 33
abbrev s_law : Stmt := top 34
def dq_Wrong_init : DefQ := ⟨atM "Wrong" "__init__", "__init__", "Wrong.__init__", defArgs s_Wrong_init, defBody s_Wrong_init, defScope s_Wrong_init, [], []⟩
def dq_is_word : DefQ := ⟨atG "is_word", "is_word", "is_word", defArgs s_is_word, defBody s_is_word, defScope s_is_word, [], []⟩
def dq_is_name : DefQ := ⟨atG "is_name", "is_name", "is_name", defArgs s_is_name, defBody s_is_name, defScope s_is_name, [], []⟩
def dq_is_flagged : DefQ := ⟨atG "is_flagged", "is_flagged", "is_flagged", defArgs s_is_flagged, defBody s_is_flagged, defScope s_is_flagged, [], []⟩
def dq_are_flagged : DefQ := ⟨atG "are_flagged", "are_flagged", "are_flagged", defArgs s_are_flagged, defBody s_are_flagged, defScope s_are_flagged, [], []⟩
def dq_flag_at : DefQ := ⟨atG "flag_at", "flag_at", "flag_at", defArgs s_flag_at, defBody s_flag_at, defScope s_flag_at, [], []⟩
def dq_needed_flags : DefQ := ⟨atG "needed_flags", "needed_flags", "needed_flags", defArgs s_needed_flags, defBody s_needed_flags, defScope s_needed_flags, [], []⟩
def dq_Region_init : DefQ := ⟨atM "Region" "__init__", "__init__", "Region.__init__", defArgs s_Region_init, defBody s_Region_init, defScope s_Region_init, [.adr (He.dflAt ("Region", some "__init__") 0)], []⟩
def dq_Region_contains : DefQ := ⟨atM "Region" "__contains__", "__contains__", "Region.__contains__", defArgs s_Region_contains, defBody s_Region_contains, defScope s_Region_contains, [], []⟩
def dq_law_bag : DefQ := ⟨atG "_law_bag", "_law_bag", "_law_bag", defArgs s_law_bag, defBody s_law_bag, defScope s_law_bag, [], []⟩
def dq_law_take : DefQ := ⟨atG "_law_take", "_law_take", "_law_take", defArgs s_law_take, defBody s_law_take, defScope s_law_take, [], []⟩
def dq_law_mixed : DefQ := ⟨atG "_law_mixed", "_law_mixed", "_law_mixed", defArgs s_law_mixed, defBody s_law_mixed, defScope s_law_mixed, [], []⟩
def dq_law_labels : DefQ := ⟨atG "_law_labels", "_law_labels", "_law_labels", defArgs s_law_labels, defBody s_law_labels, defScope s_law_labels, [], []⟩
def dq_law_name : DefQ := ⟨atG "_law_name", "_law_name", "_law_name", defArgs s_law_name, defBody s_law_name, defScope s_law_name, [], []⟩
def dq_law_drawn_flags : DefQ := ⟨atG "_law_drawn_flags", "_law_drawn_flags", "_law_drawn_flags", defArgs s_law_drawn_flags, defBody s_law_drawn_flags, defScope s_law_drawn_flags, [], []⟩
def dq_law_is_word : DefQ := ⟨atG "_law_is_word", "_law_is_word", "_law_is_word", defArgs s_law_is_word, defBody s_law_is_word, defScope s_law_is_word, [], []⟩
def dq_law_is_row : DefQ := ⟨atG "_law_is_row", "_law_is_row", "_law_is_row", defArgs s_law_is_row, defBody s_law_is_row, defScope s_law_is_row, [], []⟩
def dq_law_is_good : DefQ := ⟨atG "_law_is_good", "_law_is_good", "_law_is_good", defArgs s_law_is_good, defBody s_law_is_good, defScope s_law_is_good, [], []⟩
def dq_law_odd_row : DefQ := ⟨atG "_law_odd_row", "_law_odd_row", "_law_odd_row", defArgs s_law_odd_row, defBody s_law_odd_row, defScope s_law_odd_row, [], []⟩
def dq_law_spoilt : DefQ := ⟨atG "_law_spoilt", "_law_spoilt", "_law_spoilt", defArgs s_law_spoilt, defBody s_law_spoilt, defScope s_law_spoilt, [], []⟩
def dq_law_tried : DefQ := ⟨atG "_law_tried", "_law_tried", "_law_tried", defArgs s_law_tried, defBody s_law_tried, defScope s_law_tried, [], []⟩
def dq_law : DefQ := ⟨atG "law", "law", "law", defArgs s_law, defBody s_law, defScope s_law, [], []⟩
def fn : List DefQ := [dq_Wrong_init, dq_is_word, dq_is_name, dq_is_flagged, dq_are_flagged, dq_flag_at, dq_needed_flags, dq_Region_init, dq_Region_contains, dq_law_bag, dq_law_take, dq_law_mixed, dq_law_labels, dq_law_name, dq_law_drawn_flags, dq_law_is_word, dq_law_is_row, dq_law_is_good, dq_law_odd_row, dq_law_spoilt, dq_law_tried, dq_law]
def ex : List (PySem.W.Frag → Bool) := [clB ["Region"], etB ("Region", some "__init__") 0, erB "Wrong" "place", veB "VouchError", kiB "Wrong" "VouchError" true, kaB "Wrong" ["TooMany", "Unfit"] false]
def fa : List He.Fa := [.glo "is_word", .glo "is_name", .glo "is_flagged", .glo "are_flagged", .glo "flag_at", .glo "needed_flags", .glo "_law_bag", .glo "_law_take", .glo "_law_mixed", .glo "_law_labels", .glo "_law_name", .glo "_law_drawn_flags", .glo "_law_is_word", .glo "_law_is_row", .glo "_law_is_good", .glo "_law_odd_row", .glo "_law_spoilt", .glo "_law_tried", .glo "law", .glo "Region", .glo "TooMany", .glo "Unfit", .glo "VouchError", .glo "Wrong", .str "LETTERS" "abcdefghijklmnopqrstuvwxyz", .int "MOST_LETTERS" 8, .free "abs", .free "all", .free "bool", .free "dict", .free "int", .free "isinstance", .free "len", .free "list", .free "range", .free "repr", .free "set", .free "str", .free "tuple", .noat "Region" "kept_flags", .meth "Region" "__contains__", .mkr "Region"]
abbrev R : PySem.W.OpenRow := PySem.W.OpenLaw.row PySem.Challenge.rw_vouchchains_k17_refused
abbrev hk : PySem.W.Hook := VB.hookR 6 ex fa fn
def ob (s : PySem.W.SharedT) : VB.AlQ := VB.obsRG 6 ex fa fn (HandSHeadRun.getT s)
theorem ob_eq (s : PySem.W.SharedT) : ob s = hk.obs s.abs := VB.obsRG_eq (HandSHeadRun.getT_eq s)
end K17
namespace K17
open PySem PySem.W PySem.Calls PySem.Spec PyProof.Rows L2 VB
set_option maxHeartbeats 0 in
theorem law0 (H : (PySem.W.OpenLaw.row PySem.Challenge.rw_vouchchains_k17_refused).wellSaid = true → (PySem.W.OpenLaw.row PySem.Challenge.rw_vouchchains_k17_refused).Holds) : PySem.Challenge.rw_vouchchains_k17_refused.Holds := by
  w_on; o_law
  exact H (by assumption)
theorem run (w : World) : HandSHeadRun.RunEq R (PySem.W.view R.prog [34]) hk ob 20000 (["_wall", "VouchError", "Wrong", "TooMany", "Unfit", "LETTERS", "MOST_LETTERS", "is_word", "is_name", "begins", "is_flagged", "are_flagged", "flag_at", "needed_flags", "is_under", "Region", "cells", "_law_bag", "_law_take", "_law_mixed", "_law_labels", "_law_name", "_law_in", "_law_drawn_flags", "_law_is_word", "_law_is_row", "_law_is_good", "_law_odd_row", "_law_spoilt", "_law_tried"]) w := by
  intro os
  kernel_rfl
end K17
namespace VB
open PySem PySem.Spec PyProof.Rows L2
abbrev Nme := List Str
abbrev Rg := List (Nme × Bool)
def knm (n : Nme) : List Key := n.map Sum.inr
theorem knm_inj {m n : Nme} (h : knm m = knm n) : m = n := List.map_inj_right (fun _ _ e => Sum.inr.inj e) |>.mp h
/-- rows as a dict -/
def rgD (F : Rg) : D := .dit (F.map fun r : Nme × Bool => knm r.1) (F.map fun r => .bl r.2)
/-- a row as a pair -/
def rwD (r : Nme × Bool) : D := .tup [nm r.1, .bl r.2]
def lkF : Rg → Nme → Option Bool
  | [], _ => none
  | r :: F, n => if r.1 = n then some r.2 else lkF F n
def flagN (F : Rg) (n : Nme) : Nat → Bool
  | 0 => (lkF F []).getD false
  | k + 1 => match lkF F (n.take (k + 1)) with
    | some b => b
    | none => flagN F n k
/-- the flag of the longest row's name with which n begins -/
def flagOf (F : Rg) (n : Nme) : Bool := flagN F n n.length
/-- the rows' names differ -/
abbrev NdF (F : Rg) : Prop := (F.map Prod.fst).Nodup
theorem lkF_mem : ∀ {F : Rg} {n : Nme} {b : Bool}, lkF F n = some b → (n, b) ∈ F
  | r :: F, n, b, h => by
    have h : (if r.1 = n then some r.2 else lkF F n) = some b := h
    by_cases e : r.1 = n
    · rw [if_pos e] at h
      cases h
      subst e
      exact List.mem_cons_self ..
    · rw [if_neg e] at h
      exact List.mem_cons_of_mem _ (lkF_mem h)
theorem lkF_none : ∀ {F : Rg} {n : Nme}, lkF F n = none ↔ ∀ b, (n, b) ∉ F
  | [], n => ⟨fun _ b m => (nomatch m), fun _ => rfl⟩
  | r :: F, n => by
    unfold lkF
    by_cases e : r.1 = n
    · rw [if_pos e]
      subst e
      exact ⟨fun h => (nomatch h), fun h => absurd (List.mem_cons_self ..) (h r.2)⟩
    · rw [if_neg e, lkF_none]
      refine ⟨fun h b m => ?_, fun h b m => h b (List.mem_cons_of_mem _ m)⟩
      rcases List.mem_cons.mp m with z | m
      · exact e (by rw [← z])
      · exact h b m
theorem lkF_of : ∀ {F : Rg} {n : Nme} {b : Bool}, NdF F → (n, b) ∈ F → lkF F n = some b
  | r :: F, n, b, nd, m => by
    obtain ⟨h1, h2⟩ := List.nodup_cons.mp nd
    unfold lkF
    rcases List.mem_cons.mp m with z | m
    · rw [← z]
      exact if_pos rfl
    · rw [if_neg fun e => h1 (by rw [e]; exact List.mem_map.mpr ⟨_, m, rfl⟩)]
      exact lkF_of h2 m
/-- shorter looks do not see what stands behind -/
theorem flagN_take {F : Rg} {m n : Nme} : ∀ k, m.take k = n.take k → flagN F m k = flagN F n k
  | 0, _ => rfl
  | k + 1, h => by
    unfold flagN
    rw [h, flagN_take (m := m) (n := n) k (by
      have := congrArg (List.take k) h
      rw [List.take_take, List.take_take, Nat.min_eq_left (Nat.le_succ k)] at this
      exact this)]
theorem flagOf_dropLast {F : Rg} {n : Nme} (h : n ≠ []) : flagOf F n = match lkF F n with
    | some b => b
    | none => flagOf F n.dropLast := by
  obtain ⟨k, hk⟩ : ∃ k, n.length = k + 1 := by
    cases n with
    | nil => exact absurd rfl h
    | cons x n => exact ⟨n.length, rfl⟩
  unfold flagOf
  rw [hk]
  show (match lkF F (n.take (k + 1)) with | some b => b | none => flagN F n k) = _
  rw [← hk, List.take_length]
  cases lkF F n with
  | some b => rfl
  | none =>
    show flagN F n k = _
    rw [List.length_dropLast, hk, Nat.add_sub_cancel]
    refine flagN_take k ?_
    rw [List.dropLast_eq_take, hk, Nat.add_sub_cancel, List.take_take, Nat.min_self]
theorem flagOf_nil {F : Rg} : flagOf F [] = (lkF F []).getD false := rfl
/-- what a row's flag would be without it -/
def under (F : Rg) (n : Nme) : Bool := match n with
  | [] => false
  | x :: n => flagOf F (x :: n).dropLast
theorem flagOf_under {F : Rg} {n : Nme} : flagOf F n = match lkF F n with
    | some b => b
    | none => under F n := by
  cases n with
  | nil =>
    rw [flagOf_nil]
    cases lkF F [] <;> rfl
  | cons x n => exact flagOf_dropLast (fun z => nomatch z)
/-- the rows that are needed -/
def needF (F : Rg) : Rg := F.filter fun r => r.2 != under F r.1
theorem needF_nd {F : Rg} (nd : NdF F) : NdF (needF F) := (List.Sublist.map _ List.filter_sublist).nodup nd
theorem needF_lk {F : Rg} (nd : NdF F) {n : Nme} : lkF (needF F) n = match lkF F n with
    | some b => if b = under F n then none else some b
    | none => none := by
  cases e : lkF F n with
  | none =>
    refine lkF_none.mpr fun b m => lkF_none.mp e b ((List.mem_filter.mp m).1)
  | some b =>
    show _ = if b = under F n then none else some b
    by_cases z : b = under F n
    · rw [if_pos z]
      refine lkF_none.mpr fun c m => ?_
      obtain ⟨m1, m2⟩ := List.mem_filter.mp m
      have : lkF F n = some c := lkF_of nd m1
      rw [e] at this
      cases this
      simp [z] at m2
    · rw [if_neg z]
      refine lkF_of (needF_nd nd) (List.mem_filter.mpr ⟨lkF_mem e, ?_⟩)
      simp [z]
theorem needF_flag {F : Rg} (nd : NdF F) : ∀ (k : Nat) (n : Nme), n.length ≤ k → flagOf (needF F) n = flagOf F n := by
  intro k
  induction k with
  | zero =>
    intro n h
    obtain rfl : n = [] := List.length_eq_zero_iff.mp (by omega)
    rw [flagOf_nil, flagOf_nil, needF_lk nd]
    cases lkF F [] with
    | none => rfl
    | some b =>
      show (if b = false then none else some b : Option Bool).getD false = b
      cases b <;> rfl
  | succ k ih =>
    intro n h
    have hu : under (needF F) n = under F n := by
      cases n with
      | nil => rfl
      | cons x n => exact ih _ (by rw [List.length_dropLast]; omega)
    rw [flagOf_under, flagOf_under, hu, needF_lk nd]
    cases lkF F n with
    | none => rfl
    | some b =>
      show (match (if b = under F n then none else some b : Option Bool) with | some b => b | none => under F n) = b
      by_cases z : b = under F n
      · rw [if_pos z]
        exact z.symm
      · rw [if_neg z]
theorem need_flag {F : Rg} (nd : NdF F) (n : Nme) : flagOf (needF F) n = flagOf F n := needF_flag nd n.length n (Nat.le_refl _)
theorem keyT_nm (n : Nme) : (nm n).keyT = some (knm n) := by
  show keysK (n.map D.str) = _
  induction n with
  | nil => rfl
  | cons x n ih =>
    show (match (D.str x).keyK, keysK (n.map D.str) with | some k, some ks => some (k :: ks) | _, _ => none) = _
    rw [ih]
    rfl
theorem look_rg (n : Nme) : ∀ F : Rg, lookD (F.map fun r : Nme × Bool => knm r.1) (F.map fun r => .bl r.2) (knm n) = (lkF F n).map D.bl
  | [] => rfl
  | r :: F => by
    show (if knm r.1 = knm n then some (D.bl r.2) else lookD (F.map fun r : Nme × Bool => knm r.1) (F.map fun r => .bl r.2) (knm n)) = _
    unfold lkF
    by_cases e : r.1 = n
    · rw [if_pos (congrArg knm e), if_pos e]
      rfl
    · rw [if_neg fun z => e (knm_inj z), if_neg e]
      exact look_rg n F
theorem dlook_rg (F : Rg) (n : Nme) : (rgD F).dlook (nm n) = some ((lkF F n).map D.bl) := by
  show (nm n).keyT.map (fun k => lookD _ _ k) = _
  rw [keyT_nm]
  exact congrArg some (look_rg n F)
theorem inA_rg (F : Rg) (n : Nme) : D.inA (nm n) (rgD F) = .ret (.bl (lkF F n).isSome) := by
  unfold D.inA
  rw [if_pos (show (rgD F).isDc = true from rfl), dlook_rg]
  show M.ret (D.bl ((lkF F n).map D.bl).isSome) = _
  rw [Option.isSome_map]
theorem ixA_rg {F : Rg} {n : Nme} {b : Bool} (h : lkF F n = some b) : D.ixA (rgD F) (nm n) = .ret (.bl b) := by
  unfold D.ixA
  rw [if_pos (show (rgD F).isDc = true from rfl), dlook_rg, h]
  rfl
theorem tk_nm (n : Nme) : tkD (knm n) = nm n := by
  unfold tkD knm
  rw [List.map_map]
  rfl
theorem rows_rg (F : Rg) : D.rowsM (rgD F) = .ret (F.map rwD) := by
  have e : (rgD F).rowsD = some (F.map fun r => (nm r.1, D.bl r.2)) := by
    show some (((F.map fun r : Nme × Bool => knm r.1).map tkD).zip (F.map fun r : Nme × Bool => D.bl r.2)) = _
    rw [List.map_map, List.zip_map']
    congr 1
    refine List.map_congr_left fun r _ => ?_
    show (tkD (knm r.1), D.bl r.2) = _
    rw [tk_nm]
  unfold D.rowsM
  rw [e]
  show M.ret ((F.map fun r => (nm r.1, D.bl r.2)).map pairD) = _
  rw [List.map_map]
  rfl
/-- one row more, with a new name -/
theorem setA_rg {α : Type} {F : Rg} {n : Nme} {b : Bool} {k : D → M α} (h : lkF F n = none) (hl : F.length < 16777216) : D.setA (rgD F) (nm n) (.bl b) k = k (rgD (F ++ [(n, b)])) := by
  show (match (nm n).keyT with | some j => if (F.map fun r : Nme × Bool => knm r.1).length < 16777216 then k (.dit (putKs (F.map fun r : Nme × Bool => knm r.1) j) (putDs (F.map fun r : Nme × Bool => knm r.1) (F.map fun r : Nme × Bool => D.bl r.2) j (.bl b))) else .fail | none => .fail) = _
  rw [keyT_nm]
  have nin : knm n ∉ F.map fun r : Nme × Bool => knm r.1 := fun m => by
    obtain ⟨r, mr, e⟩ := List.mem_map.mp m
    exact lkF_none.mp h r.2 (by rw [← knm_inj e]; exact mr)
  show (if (F.map fun r : Nme × Bool => knm r.1).length < 16777216 then _ else _) = _
  rw [if_pos (by rw [List.length_map]; exact hl)]
  unfold putKs putDs
  rw [if_neg nin, if_neg nin]
  unfold rgD
  rw [List.map_append, List.map_append]
  rfl
/-- a row put otherwise -/
def setF1 (F : Rg) (n : Nme) (b : Bool) : Rg := if (lkF F n).isSome = true then F.map fun r => if r.1 = n then (n, b) else r else F ++ [(n, b)]
theorem setA_rg2 {α : Type} {F : Rg} {n : Nme} {b : Bool} {k : D → M α} (hl : F.length < 16777216) : D.setA (rgD F) (nm n) (.bl b) k = k (rgD (setF1 F n b)) := by
  cases e : lkF F n with
  | none =>
    rw [setA_rg e hl]
    unfold setF1
    rw [e]
    rfl
  | some c =>
    show (match (nm n).keyT with | some j => if (F.map fun r : Nme × Bool => knm r.1).length < 16777216 then k (.dit (putKs (F.map fun r : Nme × Bool => knm r.1) j) (putDs (F.map fun r : Nme × Bool => knm r.1) (F.map fun r : Nme × Bool => D.bl r.2) j (.bl b))) else .fail | none => .fail) = _
    rw [keyT_nm]
    have min : knm n ∈ F.map fun r => knm r.1 := List.mem_map.mpr ⟨_, lkF_mem e, rfl⟩
    show (if (F.map fun r : Nme × Bool => knm r.1).length < 16777216 then _ else _) = _
    rw [if_pos (by rw [List.length_map]; exact hl)]
    unfold putKs putDs setF1
    rw [if_pos min, if_pos min, e]
    show k _ = k (rgD (F.map fun r => if r.1 = n then (n, b) else r))
    congr 1
    unfold rgD
    congr 1
    · rw [List.map_map]
      refine List.map_congr_left fun r _ => ?_
      show knm r.1 = knm (if r.1 = n then (n, b) else r).1
      by_cases z : r.1 = n
      · rw [if_pos z, z]
      · rw [if_neg z]
    · clear min e
      induction F with
      | nil => rfl
      | cons r F ih =>
        show (if knm r.1 = knm n then D.bl b else D.bl r.2) :: _ = D.bl (if r.1 = n then (n, b) else r).2 :: _
        have ih := ih (by simp only [List.length_cons] at hl; omega)
        rw [show (List.zipWith (fun j d => if j = knm n then D.bl b else d) (F.map fun r : Nme × Bool => knm r.1) (F.map fun r : Nme × Bool => D.bl r.2)) = _ from ih]
        congr 1
        by_cases z : r.1 = n
        · rw [if_pos z, if_pos (congrArg knm z)]
        · rw [if_neg z, if_neg fun q => z (knm_inj q)]
theorem setF1_nd {F : Rg} {n : Nme} {b : Bool} (nd : NdF F) : NdF (setF1 F n b) := by
  unfold setF1
  cases e : lkF F n with
  | none =>
    rw [if_neg (fun z : (none : Option Bool).isSome = true => nomatch z)]
    show ((F ++ [(n, b)]).map Prod.fst).Nodup
    rw [List.map_append]
    refine List.nodup_append.mpr ⟨nd, List.pairwise_singleton _ _, fun x mx y my => ?_⟩
    obtain ⟨r, mr, rfl⟩ := List.mem_map.mp mx
    rw [List.mem_singleton.mp my]
    intro z
    exact lkF_none.mp e r.2 (by rw [← show r.1 = n from z]; exact mr)
  | some c =>
    rw [if_pos (show (some c).isSome = true from rfl)]
    show ((F.map fun r => if r.1 = n then (n, b) else r).map Prod.fst).Nodup
    rw [List.map_map, show (Prod.fst ∘ fun r : Nme × Bool => if r.1 = n then (n, b) else r) = Prod.fst from funext fun r => by
      show (if r.1 = n then (n, b) else r).1 = r.1
      by_cases z : r.1 = n
      · rw [if_pos z, z]
      · rw [if_neg z]]
    exact nd
theorem setF1_len {F : Rg} {n : Nme} {b : Bool} : (setF1 F n b).length ≤ F.length + 1 := by
  unfold setF1
  split
  · rw [List.length_map]
    omega
  · rw [List.length_append]
    exact Nat.le_refl _
theorem setF1_mem {F : Rg} {n : Nme} {b : Bool} {r : Nme × Bool} (m : r ∈ setF1 F n b) : r = (n, b) ∨ r ∈ F := by
  unfold setF1 at m
  split at m
  · obtain ⟨q, mq, e⟩ := List.mem_map.mp m
    by_cases z : q.1 = n
    · rw [if_pos z] at e
      exact .inl e.symm
    · rw [if_neg z] at e
      exact .inr (e ▸ mq)
  · rcases List.mem_append.mp m with m | m
    · exact .inr m
    · exact .inl (List.mem_singleton.mp m)
theorem cutG_last {α : Type} (xs : List α) : cutG xs none (some (-1)) = xs.dropLast := by
  have h1 : HT.sIx xs.length 0 none = 0 := rfl
  have h2 : HT.sIx xs.length xs.length (some (-1)) = xs.length - 1 := by
    show (if (-1 : Int) < 0 then ((-1 : Int) + (xs.length : Int)).toNat else min (-1 : Int).toNat xs.length) = _
    rw [if_pos (by decide)]
    omega
  unfold cutG
  rw [h1, h2, List.drop_zero, List.dropLast_eq_take, Nat.sub_zero]
end VB
namespace VB
open PySem PySem.Spec PyProof.Rows L2
structure SetK {κ : Type} [DecidableEq κ] {P : Program} {w : World} (knd : HeapKind P w κ) : Prop where
  cls : ∀ {A : Around} {E : Value → Shared → Prop} {s : Shared} {k : κ} {b : Addr} {Q : Bool → Shared → Prop}, knd.is s.heap k b → Q false s → wpAny (model P w) A (ofAClassStatement 8 (.ref b)) Q E s
  hsh : ∀ {A : Around} {E : Value → Shared → Prop} {s : Shared} {k : κ} {b : Addr} {Q : Bool → Shared → Prop}, knd.is s.heap k b → (∀ c, Q c s) → wpAny (model P w) A (hashByValue 8 (.ref b)) Q E s
  seqs : ∀ {h h' : Heap} {k : κ} {b : Addr}, (∀ c o vs n, h.get? c = some o → o.data = .seq vs n → h'.get? c = some o) → knd.is h k b → knd.is h' k b
abbrev RwG (κ : Type) := Addr × κ
section
variable {κ : Type} [DecidableEq κ] {P : Program} {w : World} {knd : HeapKind P w κ}
theorem SetK.same (SK : SetK knd) {h h' : Heap} {k : κ} {a b : Addr} {o : Obj} {es : Array (Int × Value)} {ep : Nat} {t : SetTable} (x : knd.is h k b) (ho : h.get? a = some o) (hd : o.data = .set es ep t) (sb : Heap.SameBut a h h') : knd.is h' k b :=
  SK.seqs (fun c u vs n e1 e2 => (sb.2 c fun z => by
    rw [z, ho] at e1
    cases e1
    rw [hd] at e2
    cases e2).trans e1) x
theorem SetK.keep (SK : SetK knd) {h h' : Heap} {k : κ} {b : Addr} (x : knd.is h k b) (kp : ∀ c o, h.get? c = some o → h'.get? c = some o) : knd.is h' k b := SK.seqs (fun c o _ _ e _ => kp c o e) x
section
variable {A : Around} {E : Value → Shared → Prop} {s : Shared}
/-- what the search looks at shows nothing -/
theorem SetK.seen (SK : SetK knd) {k : κ} {b : Addr} {Q : Bool → Shared → Prop} (x : knd.is s.heap k b) {ys : List Value} (hy : ∀ y ∈ ys, ∃ k1 c, y = Value.ref c ∧ knd.is s.heap k1 c) (q : Q false s) :
    wpAny (model P w) A (searchCouldBeSeen (.ref b) ys) Q E s := by
  unfold searchCouldBeSeen
  refine wpAny_bind ?_
  refine wpAny_forIn_list _ (fun more st s1 => st.1 = none ∧ s1 = s ∧ ∀ y ∈ more, ∃ k1 c, y = Value.ref c ∧ knd.is s.heap k1 c) _ ?_ ?_ _ _ ⟨rfl, rfl, hy⟩
  · rintro v more st s1 ⟨hn, rfl, al⟩
    obtain ⟨k1, c, rfl, xc⟩ := al v (List.mem_cons_self ..)
    have al1 : ∀ y ∈ more, ∃ k1 c, y = Value.ref c ∧ knd.is s1.heap k1 c := fun u m => al u (List.mem_cons_of_mem _ m)
    dsimp only
    by_cases same : (b == c || (carriedByValue (.ref b) && carriedByValue (.ref c))) = true
    · exact wp_if_pos same (wpAny_pure ⟨rfl, rfl, al1⟩)
    · refine wp_if_neg same (wpAny_bind (knd.quiet x ?_))
      simp only [Bool.not_true, Bool.false_eq_true, if_false]
      refine wpAny_bind (knd.quiet xc ?_)
      simp only [Bool.not_true, Bool.false_eq_true, if_false]
      refine wpAny_bind (SK.cls x ?_)
      simp only [Bool.false_eq_true, if_false]
      refine wpAny_bind (SK.cls xc ?_)
      simp only [Bool.false_eq_true, if_false]
      exact wpAny_pure ⟨rfl, rfl, al1⟩
  · rintro ⟨z, y⟩ s1 ⟨hn, rfl, _⟩
    simp only at hn
    subst hn
    exact wpAny_pure q
end
def rowsG (knd : HeapKind P w κ) (L : List (RwG κ)) : List (Int × Value) := L.map fun r => (knd.hash r.2, Value.ref r.1)
structure TabG (knd : HeapKind P w κ) (h : Heap) (a : Addr) (L : List (RwG κ)) (es : Array (Int × Value)) (ep : Nat) (t : SetTable) : Prop where
  ob : ∃ o, h.get? a = some o ∧ o.ExactSet ∧ o.data = .set es ep t
  el : es.toList = rowsG knd L
  ok : TabOk t (L.map fun r => knd.hash r.2)
  nd : (L.map Prod.snd).Nodup
  kt : ∀ r ∈ L, knd.is h r.2 r.1
  ld : w.params.followText "set-order" = true ∨ t.led = true
  rm : 5 * L.length < 3 * t.mask
  lt : L.length < 64
theorem rowsG_len {L : List (RwG κ)} {es : Array (Int × Value)} (e : es.toList = rowsG knd L) : es.size = L.length := by
  have z := congrArg List.length e
  unfold rowsG at z
  rw [Array.length_toList, List.length_map] at z
  exact z
/-- the way's c-th state -/
abbrev stp (t : SetTable) (h : Int) (c : Nat) : SetTable.Probe := nth t.mask (runAt t.mask (SetTable.bits h % (t.mask + 1)) (SetTable.bits h)) c
theorem stp_add (t : SetTable) (h : Int) (c q : Nat) : nth t.mask (stp t h c) q = stp t h (c + q) := (nth_add t.mask c _ q).symm
theorem nth_dm (m : Nat) : ∀ (n : Nat) (p : SetTable.Probe), p.dummy = none → (nth m p n).dummy = none
  | 0, _, z => z
  | n + 1, p, z => nth_dm m n (adv m p) (by
    unfold adv
    split <;> exact z)
section
variable {A : Around} {E : Value → Shared → Prop} {s : Shared} {a : Addr} {L : List (RwG κ)} {es : Array (Int × Value)} {ep : Nat} {t : SetTable}
theorem fits_of (h1 : t.place.size = es.size) (h2 : t.dummies = #[]) (h3 : es.size ≤ t.mask) : t.fits es.size = true := by
  unfold SetTable.fits SetTable.fill
  rw [h2, Bool.and_eq_true, beq_iff_eq, decide_eq_true_eq]
  exact ⟨h1, by rw [h1]; exact h3⟩
theorem TabG.plsz (R : TabG knd s.heap a L es ep t) : t.place.size = L.length := by
  have z := R.ok.sz
  rw [List.length_map] at z
  exact z
theorem TabG.fit (R : TabG knd s.heap a L es ep t) : t.fits es.size = true := fits_of (R.plsz.trans (rowsG_len R.el).symm) R.ok.dm (by
  have z1 := rowsG_len R.el
  have z2 := R.rm
  omega)
theorem TabG.row (R : TabG knd s.heap a L es ep t) {i : Nat} {r : RwG κ} (h : L[i]? = some r) : es[i]? = some (knd.hash r.2, Value.ref r.1) := by
  rw [← Array.getElem?_toList, R.el]
  unfold rowsG
  rw [List.getElem?_map, h]
  rfl
theorem TabG.way0 (R : TabG knd s.heap a L es ep t) : ¬ t.gaveWay = true := by
  unfold SetTable.gaveWay
  rw [mask_odd R.ok.mok]
  decide
theorem TabG.find (SK : SetK knd) (R : TabG knd s.heap a L es ep t) {x : Addr} {k : κ} (hx : knd.is s.heap k x) (hu : knd.room A) {K : Nat} (b1 : K < 10 * SetTable.turns t.mask)
    (b2 : way t.mask (knd.hash k) K ∉ t.place.toList) (b3 : ∀ c, c < K → way t.mask (knd.hash k) c ∈ t.place.toList) {Q : SetFound → Shared → Prop}
    (q1 : k ∈ L.map Prod.snd → Q (.there none) s) (q2 : k ∉ L.map Prod.snd → Q (.free (way t.mask (knd.hash k) K) false) s) :
    ∀ (f c : Nat) (stand : Option SetTable.Probe), stand.getD (t.probeStart (knd.hash k)) = stp t (knd.hash k) c → c ≤ K → K - c < f →
      (∀ (i : Nat) (r : RwG κ), L[i]? = some r → r.2 = k → ∃ d, c ≤ d ∧ d < K ∧ t.place.toList[i]? = some (way t.mask (knd.hash k) d)) →
      wpAny (model P w) A (setSearchFrom a (.ref x) (knd.hash k) true f stand) Q E s
  | 0, c, stand, _, _, z, _ => absurd z (Nat.not_lt_zero _)
  | f + 1, c, stand, hst, hcK, hf, ahead => by
    obtain ⟨o, ho, hex, hd⟩ := R.ob
    generalize hh : knd.hash k = hk at *
    have jq : ∀ q, (nth t.mask (stp t hk c) q).j = way t.mask hk (c + q) := fun q => congrArg SetTable.Probe.j (stp_add t hk c q)
    have cK : c + (K - c) = K := by omega
    rw [setSearchFrom_succ]
    refine wpAny_bind (wpAny_setState_of ho hd R.fit ?_)
    dsimp only
    refine wp_if_neg R.way0 ?_
    try refine wpAny_bind (wpAny_pure ?_)
    have spec := go_spec t R.ok.ris R.ok.dm (fun i => (es[i]?.map (·.1)).getD 0) hk (10 * SetTable.turns t.mask) (K - c) (stp t hk c) (nth_dm _ _ _ rfl) (by omega)
      (fun q hq => by
        rw [jq]
        exact b3 (c + q) (by omega)) (by
        rw [jq, cK]
        exact b2)
    have hat : ∀ (i : Nat) (r : RwG κ), L[i]? = some r → (fun i => (es[i]?.map (·.1)).getD 0) i = knd.hash r.2 := fun i r e => by
      show (es[i]?.map (·.1)).getD 0 = _
      rw [R.row e]
      rfl
    -- a row with this key does not stand on the way where no hash is met
    have miss : ∀ (i : Nat) (r : RwG κ) (d m : Nat), L[i]? = some r → r.2 = k → c ≤ d → t.place.toList[i]? = some (way t.mask hk d) → d < c + m → (∀ k' i' : Nat, k' < m → t.place.toList[i']? = some (nth t.mask (stp t hk c) k').j → (fun i => (es[i]?.map (·.1)).getD 0) i' ≠ hk) → False := fun i r d m e1 e2 e3 e4 e5 e6 =>
      e6 (d - c) i (by omega) (by
        rw [jq, show c + (d - c) = d by omega]
        exact e4) ((hat i r e1).trans (by rw [e2]; exact hh))
    rcases spec with ⟨q, i, hq, hi, _, hno, met⟩ | ⟨hno, met⟩
    · have met1 : t.probe (fun i => (es[i]?.map (·.1)).getD 0) hk (stand.getD (t.probeStart hk)) = some (.candidate (way t.mask hk (c + q)) i (stp t hk (c + (q + 1)))) := by
        rw [hst, ← jq, ← stp_add]
        exact met
      rw [met1]
      dsimp only
      rw [jq] at hi
      have il : i < L.length := by
        have z1 := (List.getElem?_eq_some_iff.mp hi).1
        have z2 := R.plsz
        rw [Array.length_toList] at z1
        omega
      obtain ⟨r, er⟩ : ∃ r, L[i]? = some r := ⟨_, List.getElem?_eq_getElem il⟩
      have rm : r ∈ L := List.mem_of_getElem? er
      have tail : wpAny (model P w) A (searchRest a (.ref x) hk true f es t (way t.mask hk (c + q)) i (stp t hk (c + (q + 1)))) Q E s := by
        unfold searchRest
        rw [R.row er]
        dsimp only
        refine wpAny_bind (wpAny_holding (knd.eqBool hu (R.kt r rm) hx ?_))
        refine wpAny_bind (wpAny_setState_of ho hd R.fit ?_)
        dsimp only
        by_cases ek : r.2 = k
        · exact wp_if_pos (by simp [ek]) (wpAny_pure (q1 (List.mem_map.mpr ⟨r, rm, ek⟩)))
        · refine wp_if_neg (by simp [ek]) ?_
          try refine wpAny_bind (wpAny_pure ?_)
          rw [sameMem]
          dsimp only
          have sl : t.slot (way t.mask hk (c + q)) = .live i := slot_live R.ok.ris hi
          simp only [if_true, sl, R.row er]
          refine wpAny_bind (wpAny_isSame_ref_self (wpAny_bind (wpAny_pure ?_)))
          simp only [if_true]
          refine wp_if_neg (by simp [ek]) ?_
          have next := TabG.find SK R hx hu b1 (by rw [hh]; exact b2) (by rw [hh]; exact b3) q1 (by rw [hh]; exact q2) f (c + (q + 1)) (some (stp t hk (c + (q + 1)))) (by rw [hh]; rfl) (by omega) (by omega) (fun i0 r0 e0 k0 => by
            obtain ⟨d, d1, d2, d3⟩ := ahead i0 r0 e0 k0
            rw [hh]
            refine ⟨d, ?_, d2, d3⟩
            rcases Nat.lt_trichotomy d (c + q) with z | z | z
            · exact (miss i0 r0 d q e0 k0 d1 d3 z hno).elim
            · subst z
              have s0 := slot_live R.ok.ris d3
              rw [sl] at s0
              injection s0 with s0
              subst s0
              rw [er] at e0
              cases e0
              exact (ek k0).elim
            · omega)
          rw [hh] at next
          exact next
      by_cases hl : t.led = true
      · refine wp_if_neg (by simp [hl]) ?_
        try refine wpAny_bind (wpAny_pure ?_)
        exact tail
      · refine wp_if_pos (by simp [hl]) ?_
        refine wpAny_bind (SK.seen hx (fun y my => ?_) ?_)
        · obtain ⟨e, he, ee⟩ := List.mem_map.mp my
          have m1 : e ∈ es ∧ e.1 = hk := by simpa using he
          have m2 : e ∈ es.toList := by simpa using m1.1
          rw [R.el] at m2
          obtain ⟨r2, mr, e2⟩ := List.mem_map.mp m2
          exact ⟨r2.2, r2.1, by rw [← ee, ← e2], R.kt r2 mr⟩
        · refine wp_if_neg (by decide) ?_
          try refine wpAny_bind (wpAny_pure ?_)
          exact tail
    · have met1 : t.probe (fun i => (es[i]?.map (·.1)).getD 0) hk (stand.getD (t.probeStart hk)) = some (.empty (way t.mask hk K) none) := by
        have z : way t.mask hk K = (nth t.mask (stp t hk c) (K - c)).j := by rw [jq, cK]
        rw [hst, z]
        exact met
      rw [met1]
      dsimp only
      refine wpAny_pure (q2 fun m => ?_)
      obtain ⟨r0, mr, k0⟩ := List.mem_map.mp m
      obtain ⟨i0, hi0, e0⟩ := List.getElem_of_mem mr
      have e1 : L[i0]? = some r0 := by rw [List.getElem?_eq_getElem hi0, e0]
      obtain ⟨d, d1, d2, d3⟩ := ahead i0 r0 e1 k0
      exact miss i0 r0 d (K - c) e1 k0 d1 d3 (by omega) hno
theorem TabG.search (SK : SetK knd) (R : TabG knd s.heap a L es ep t) {x : Addr} {k : κ} (hx : knd.is s.heap k x) (hu : knd.room A) {Q : SetFound → Shared → Prop} (q1 : k ∈ L.map Prod.snd → Q (.there none) s)
    (q2 : ∀ K, k ∉ L.map Prod.snd → way t.mask (knd.hash k) K ∉ t.place.toList → (∀ c, c < K → way t.mask (knd.hash k) c ∈ t.place.toList) → Q (.free (way t.mask (knd.hash k) K) false) s) :
    wpAny (model P w) A (setSearch a (.ref x) (knd.hash k) true) Q E s := by
  have room := R.rm
  obtain ⟨K, b1, b2, b3⟩ := R.ok.first (by rw [List.length_map]; omega) (knd.hash k)
  have small : K < 100000 := by
    have : 10 * SetTable.turns t.mask ≤ 1420 := by
      unfold SetTable.turns
      rcases R.ok.mok with e | e | e <;> omega
    omega
  unfold setSearch
  refine R.find SK hx hu b1 b2 b3 q1 (fun n => q2 K n b2 b3) 100000 0 none rfl (Nat.zero_le _) (by omega) fun i r er ek => ?_
  have e1 : (L.map fun r => knd.hash r.2)[i]? = some (knd.hash k) := by
    rw [List.getElem?_map, er, ← ek]
    rfl
  have il : i < t.place.toList.length := by
    have z1 := (List.getElem?_eq_some_iff.mp er).1
    have z2 := R.plsz
    rw [Array.length_toList]
    omega
  obtain ⟨d, d1, d2⟩ := R.ok.before b2 e1 (List.getElem?_eq_getElem il)
  exact ⟨d, Nat.zero_le _, d1, by rw [List.getElem?_eq_getElem il, d2]⟩
end
end
abbrev mixT (P : Program) (w : World) : HeapKind P w (List Key) := tupleKind (mixKind P w)
abbrev KtM (P : Program) (w : World) (h : Heap) (k : List Key) (a : Addr) : Prop := IsTupleKey (mixKind P w) h k a
abbrev hashM (P : Program) (w : World) (k : List Key) : Int := tupleKeyHash (mixKind P w) k
def plainV : Value → Prop
  | .int _ _ => True
  | .str _ _ => True
  | _ => False
theorem items_plain {P : Program} {w : World} {k : List Key} {vs : List Value} (h : ItemsAre (mixKind P w) k vs) : ∀ v ∈ vs, plainV v := by
  induction h with
  | nil => exact fun _ m => nomatch m
  | @cons k0 v0 ks vs h1 _ ih =>
    intro v m
    rcases List.mem_cons.mp m with rfl | m
    · rcases keyIs_shape (show keyIs k0 v = true from h1) with ⟨i, t, _, rfl⟩ | ⟨z, t, _, rfl⟩
      · exact True.intro
      · exact True.intro
    · exact ih v m
theorem plain_cls {v : Value} (h : plainV v) (n : Nat) : ofAClassStatement n v = pure false := by
  cases v <;> first | exact h.elim | (cases n <;> rfl)
theorem plain_hash {v : Value} (h : plainV v) (n : Nat) : ∃ b, hashByValue n v = pure b := by
  cases v <;> first | exact h.elim | (cases n <;> exact ⟨_, rfl⟩)
section
variable {P : Program} {w : World} {A : Around} {E : Value → Shared → Prop} {s : Shared}
theorem kt_cls {k : List Key} {b : Addr} {Q : Bool → Shared → Prop} (x : KtM P w s.heap k b) (q : Q false s) : wpAny (model P w) A (ofAClassStatement 8 (.ref b)) Q E s := by
  obtain ⟨o, arr, n, e1, _, e2, its⟩ := id x
  have tq : (("tuple" : String) == "tuple") = true := by decide
  unfold ofAClassStatement
  refine wpAny_bind (wpAny_typeOf x.typeIs ?_)
  dsimp only
  simp only [tq, if_true, Bool.not_true, Bool.false_eq_true, if_false]
  try refine wpAny_bind (wpAny_pure ?_)
  try simp only [Bool.not_true, Bool.false_eq_true, if_false]
  show wpAny _ _ (seqItems? (.ref b) >>= _) _ _ s
  refine wpAny_bind (wpAny_seqItems e1 e2 ?_)
  dsimp only
  refine wpAny_bind ?_
  show wpAny _ _ (forIn arr _ _) _ _ s
  rw [← Array.forIn_toList]
  refine wpAny_forIn_list _ (fun more st s1 => st.1 = none ∧ s1 = s ∧ ∀ v ∈ more, plainV v) _ ?_ ?_ _ _ ⟨rfl, rfl, items_plain its⟩
  · rintro v more st s1 ⟨hn, rfl, pl⟩
    rw [plain_cls (pl v (List.mem_cons_self ..))]
    refine wpAny_bind (wpAny_pure ?_)
    simp only [Bool.false_eq_true, if_false]
    exact wpAny_pure ⟨rfl, rfl, fun u m => pl u (List.mem_cons_of_mem _ m)⟩
  · rintro ⟨z, y⟩ s1 ⟨hn, rfl, _⟩
    simp only at hn
    subst hn
    exact wpAny_pure q
theorem kt_hash {k : List Key} {b : Addr} {Q : Bool → Shared → Prop} (x : KtM P w s.heap k b) (q : ∀ c, Q c s) : wpAny (model P w) A (hashByValue 8 (.ref b)) Q E s := by
  obtain ⟨o, arr, n, e1, _, e2, its⟩ := id x
  unfold hashByValue
  refine wpAny_bind (wpAny_specialOf x.typeIs PySem.F.slot_tuple_hash.lookup ?_)
  show wpAny _ _ (seqItems? (.ref b) >>= _) _ _ s
  refine wpAny_bind (wpAny_seqItems e1 e2 ?_)
  refine wpAny_bind ?_
  show wpAny _ _ (forIn arr _ _) _ _ s
  rw [← Array.forIn_toList]
  refine wpAny_forIn_list _ (fun more st s1 => st.1 = none ∧ s1 = s ∧ ∀ v ∈ more, plainV v) _ ?_ ?_ _ _ ⟨rfl, rfl, items_plain its⟩
  · rintro v more st s1 ⟨hn, rfl, pl⟩
    obtain ⟨c, hc⟩ := plain_hash (pl v (List.mem_cons_self ..)) 7
    rw [hc]
    refine wpAny_bind (wpAny_pure ?_)
    cases c with
    | true =>
      simp only [Bool.not_true, Bool.false_eq_true, if_false]
      exact wpAny_pure ⟨rfl, rfl, fun u m => pl u (List.mem_cons_of_mem _ m)⟩
    | false =>
      simp only [Bool.not_false, if_true]
      first
        | exact wpAny_pure (wpAny_pure (q false))
        | exact wpAny_bind (wpAny_pure (wpAny_pure (wpAny_pure (q false))))
        | exact wpAny_bind (wpAny_pure (wpAny_pure (q false)))
  · rintro ⟨z, y⟩ s1 ⟨hn, rfl, _⟩
    simp only at hn
    subst hn
    exact wpAny_pure (q true)
end
theorem kt_seqs {P : Program} {w : World} {h h' : Heap} {k : List Key} {b : Addr} (x : KtM P w h k b) (kp : ∀ c o vs n, h.get? c = some o → o.data = .seq vs n → h'.get? c = some o) : KtM P w h' k b := by
  obtain ⟨u, arr, n, e1, e2, e3, its⟩ := x
  exact ⟨u, arr, n, kp b u _ _ e1 e3, e2, e3, its⟩
theorem sk_mix {P : Program} {w : World} : SetK (mixT P w) := ⟨fun x q => kt_cls x q, fun x q => kt_hash x q, fun kp x => kt_seqs x kp⟩
abbrev Rw := RwG (List Key)
abbrev rowsM (P : Program) (w : World) (L : List Rw) : List (Int × Value) := rowsG (mixT P w) L
abbrev TabT (P : Program) (w : World) (h : Heap) (a : Addr) (L : List Rw) (es : Array (Int × Value)) (ep : Nat) (t : SetTable) : Prop := TabG (mixT P w) h a L es ep t
theorem rowsM_len {P : Program} {w : World} {L : List Rw} {es : Array (Int × Value)} (e : es.toList = rowsM P w L) : es.size = L.length := rowsG_len e
end VB
namespace VB
open PySem PySem.Spec PyProof.Rows L2
section
variable {κ : Type} [DecidableEq κ] {P : Program} {w : World} {knd : HeapKind P w κ} {A : Around} {E : Value → Shared → Prop} {s : Shared} {a : Addr} {L : List (RwG κ)} {es : Array (Int × Value)} {ep : Nat} {t : SetTable}
/-- the rows in another order -/
theorem rows_pick (L : List (RwG κ)) (es : Array (Int × Value)) (el : es.toList = rowsG knd L) : ∀ l : List Nat, (∀ i ∈ l, i < L.length) →
    l.filterMap (fun i => es[i]?) = rowsG knd (l.filterMap fun i => L[i]?) ∧ ((l.filterMap fun i => L[i]?).map fun r => knd.hash r.2) = l.map fun i => (es.map (·.1)).getD i 0
  | [], _ => ⟨rfl, rfl⟩
  | i :: l, hl => by
    obtain ⟨ih1, ih2⟩ := rows_pick L es el l fun j m => hl j (List.mem_cons_of_mem _ m)
    have il := hl i (List.mem_cons_self ..)
    have eL : L[i]? = some L[i] := List.getElem?_eq_getElem il
    have eE : es[i]? = some (knd.hash L[i].2, Value.ref L[i].1) := by
      rw [← Array.getElem?_toList, el]
      unfold rowsG
      rw [List.getElem?_map, eL]
      rfl
    have eH : (es.map (·.1)).getD i 0 = knd.hash L[i].2 := by
      rw [Array.getD_eq_getD_getElem?, Array.getElem?_map, eE]
      rfl
    constructor
    · rw [List.filterMap_cons_some eE, List.filterMap_cons_some eL, ih1]
      rfl
    · rw [List.filterMap_cons_some eL, List.map_cons, List.map_cons, ih2, eH]
theorem pick_all {α : Type} (L : List α) : (List.range L.length).filterMap (fun i => L[i]?) = L := by
  have z : ∀ n, n ≤ L.length → (List.range n).filterMap (fun i => L[i]?) = L.take n := fun n => by
    induction n with
    | zero => intro _; rfl
    | succ n ih =>
      intro hn
      rw [List.range_succ, List.filterMap_append, ih (Nat.le_of_lt hn), List.take_succ]
      congr 1
  rw [z _ (Nat.le_refl _), List.take_length]
theorem relayT (SK : SetK knd) {o : Obj} (ho : s.heap.get? a = some o) (hx : o.ExactSet) (hd : o.data = .set es ep t) (el : es.toList = rowsG knd L) (sz : t.place.size = es.size) (dm : t.dummies = #[]) (le : es.size ≤ t.mask)
    (nd : (L.map Prod.snd).Nodup) (kt : ∀ r ∈ L, knd.is s.heap r.2 r.1) (ld : w.params.followText "set-order" = true ∨ t.led = true) (lt : L.length < 64) {wanted M : Nat}
    (e1 : SetTable.sizeAbove wanted - 1 = M) (mk : MaskOk M) (e2 : SetTable.sizeAbove wanted ≤ 128) (rm : 5 * L.length < 3 * M) {Q : Unit → Shared → Prop}
    (q : ∀ h' L1 es1 ep1 t1, Heap.SameBut a s.heap h' → TabG knd h' a L1 es1 ep1 t1 → L1.Perm L → Q () { s with heap := h' }) : wpAny (model P w) A (setRelay a wanted) Q E s := by
  have zl := rowsG_len el
  obtain ⟨t1, order, er, pr, T, em, eled, _, _⟩ := relaid_ok t (hs := es.map (·.1)) (wanted := wanted) e1 mk (by rw [Array.size_map, zl]; omega)
  rw [Array.size_map, zl] at pr
  obtain ⟨r1, r2⟩ := rows_pick L es el order.toList fun i m => List.mem_range.mp (pr.mem_iff.mp m)
  have pm : (order.toList.filterMap fun i => L[i]?).Perm L := by
    have z := pr.filterMap fun i => L[i]?
    rw [pick_all] at z
    exact z
  generalize (order.toList.filterMap fun i => L[i]?) = L1 at r1 r2 pm
  have r1a : (order.filterMap (es[·]?)).toList = rowsG knd L1 := by rw [Array.toList_filterMap]; exact r1
  rw [← r2] at T
  have z2 := rowsG_len r1a
  have z3 := pm.length_eq
  rw [setRelay_eq]
  refine wpAny_bind (wpAny_setState_of ho hd (fits_of sz dm le) ?_)
  dsimp only
  refine wp_if_neg (by rw [sizeLine_eq]; omega) ?_
  try refine wpAny_bind (wpAny_pure ?_)
  rw [er]
  dsimp only
  refine wpAny_bind ?_
  refine wp_if_neg (by rw [z2, z3, zl]; simp) ?_
  try refine wpAny_bind (wpAny_pure ?_)
  refine wpAny_pure ?_
  dsimp only
  refine wpAny_storeSet_of ho hd ?_ (by rw [z2, z3, sizeLine_eq]; omega)
  have sb : Heap.SameBut a s.heap (s.heap.update a (Obj.putSet (order.filterMap (es[·]?)) t1)) := Heap.SameBut.update ..
  exact q _ L1 _ (ep + 1) t1 sb ⟨⟨_, store_at ho hd, ⟨hx.1, hx.2.1, hx.2.2⟩, rfl⟩, r1a, T, (pm.map Prod.snd).nodup_iff.mpr nd, fun r m => SK.same (kt r (pm.mem_iff.mp m)) ho hd sb, ld.imp id fun z => eled.trans z, by rw [z3, em]; exact rm, by rw [z3]; exact lt⟩ pm
/-- one tuple more -/
theorem TabG.add (SK : SetK knd) (R : TabG knd s.heap a L es ep t) {x : Addr} {k : κ} (hx : knd.is s.heap k x) (hu : knd.room A) (lt : L.length + 1 < 64) {Q : Bool → Shared → Prop}
    (q : ∀ b h' L1 es1 ep1 t1, Heap.SameBut a s.heap h' → TabG knd h' a L1 es1 ep1 t1 → (k ∈ L.map Prod.snd → L1 = L) → (k ∉ L.map Prod.snd → L1.Perm ((x, k) :: L)) → Q b { s with heap := h' }) :
    wpAny (model P w) A (setAddHashed a (.ref x) (knd.hash k)) Q E s := by
  obtain ⟨o, ho, hex, hd⟩ := R.ob
  have zl := rowsG_len R.el
  have room := R.rm
  have zp := R.plsz
  unfold setAddHashed
  refine wpAny_holding ?_
  rw [show (100000 : Nat) = 99999 + 1 from rfl, setAddHashedIn_succ]
  refine wpAny_bind (wpAny_setState_of ho hd R.fit ?_)
  dsimp only
  refine wp_if_neg (by simp [byScan, Value.scannable]) ?_
  try refine wpAny_bind (wpAny_pure ?_)
  refine wpAny_bind (R.search SK hx hu (fun m => ?_) fun K nm b2 b3 => ?_)
  · dsimp only
    exact wpAny_pure (q false s.heap L es ep t (Heap.SameBut.refl a s.heap) R (fun _ => rfl) fun z => absurd m z)
  · dsimp only
    refine wpAny_bind (wpAny_setState_of ho hd R.fit ?_)
    dsimp only
    obtain ⟨p1, p2, p3, p4, p5, _, _, _, p9⟩ := R.ok.put b2 b3
    generalize t.put (way t.mask (knd.hash k) K) = pt at p1 p3 p4 p5 p9 ⊢
    obtain ⟨t0, pl⟩ := pt
    dsimp only at p1 p3 p4 p5 p9 ⊢
    subst p1
    -- what stands behind the question whether the hash is by value
    have rest : ∀ c : Bool, wpAny (model P w) A (do
        storeSet a (SetTable.insertAt es (SetTable.below t.place (way t.mask (knd.hash k) K)) (knd.hash k, Value.ref x)) (if c = true then t0 else { t0 with plain := false })
        if (!false && (if c = true then t0 else { t0 with plain := false }).tooFull) = true then do
          setRelay a (SetTable.grown (es.size + 1))
          pure true
        else pure true) Q E s := fun c => by
      have u1 : (if c = true then t0 else { t0 with plain := false }).place = t0.place := by cases c <;> rfl
      have u2 : (if c = true then t0 else { t0 with plain := false }).dummies = t0.dummies := by cases c <;> rfl
      have u3 : (if c = true then t0 else { t0 with plain := false }).mask = t0.mask := by cases c <;> rfl
      have u4 : (if c = true then t0 else { t0 with plain := false }).led = t0.led := by cases c <;> rfl
      have u5 : (if c = true then t0 else { t0 with plain := false }).fill = t0.fill := by cases c <;> rfl
      generalize (if c = true then t0 else { t0 with plain := false }) = t1 at u1 u2 u3 u4 u5 ⊢
      have ok1 : TabOk t1 ((L.map fun r => knd.hash r.2).take (SetTable.below t.place (way t.mask (knd.hash k) K)) ++ knd.hash k :: (L.map fun r => knd.hash r.2).drop (SetTable.below t.place (way t.mask (knd.hash k) K))) :=
        ⟨by rw [u1]; exact p3.ris, u2.trans p3.dm, by rw [u1]; exact p3.sz, by rw [u3]; exact p3.mok, by rw [u1, u3]; exact p3.bd, by rw [u1, u3]; exact p3.reach⟩
      have el1 : (SetTable.insertAt es (SetTable.below t.place (way t.mask (knd.hash k) K)) (knd.hash k, Value.ref x)).toList = rowsG knd (L.take (SetTable.below t.place (way t.mask (knd.hash k) K)) ++ (x, k) :: L.drop (SetTable.below t.place (way t.mask (knd.hash k) K))) := by
        rw [SetTable.toList_insertAt, R.el]
        unfold rowsG
        rw [List.map_append, List.map_cons, List.map_take, List.map_drop]
      generalize SetTable.below t.place (way t.mask (knd.hash k) K) = pl at p2 ok1 el1 ⊢
      have pm : (L.take pl ++ (x, k) :: L.drop pl).Perm ((x, k) :: L) := by
        refine List.perm_middle.trans ?_
        rw [List.take_append_drop]
      have ok2 : TabOk t1 ((L.take pl ++ (x, k) :: L.drop pl).map fun r => knd.hash r.2) := by
        rw [List.map_append, List.map_cons, List.map_take, List.map_drop]
        exact ok1
      have nd1 : ((L.take pl ++ (x, k) :: L.drop pl).map Prod.snd).Nodup := (pm.map Prod.snd).nodup_iff.mpr (List.nodup_cons.mpr ⟨nm, R.nd⟩)
      have z1 := rowsG_len el1
      generalize SetTable.insertAt es pl (knd.hash k, Value.ref x) = es1 at el1 z1 ⊢
      generalize L.take pl ++ (x, k) :: L.drop pl = L1 at pm ok2 nd1 el1 z1
      have z2 : L1.length = L.length + 1 := pm.length_eq
      refine wpAny_bind (wpAny_storeSet_of ho hd ?_ (by rw [z1, z2, sizeLine_eq]; omega))
      have sb : Heap.SameBut a s.heap (s.heap.update a (Obj.putSet es1 t1)) := Heap.SameBut.update ..
      have ho1 := store_at (es' := es1) (t' := t1) ho hd
      generalize s.heap.update a (Obj.putSet es1 t1) = h1 at sb ho1 ⊢
      have kt1 : ∀ r ∈ L1, knd.is h1 r.2 r.1 := fun r m => by
        rcases List.mem_cons.mp (pm.mem_iff.mp m) with e | m
        · rw [e]
          exact SK.same hx ho hd sb
        · exact SK.same (R.kt r m) ho hd sb
      have ld1 : w.params.followText "set-order" = true ∨ t1.led = true := R.ld.imp id fun z => by rw [u4, p5]; exact z
      have em : t1.mask = t.mask := u3.trans p4
      have ef : t1.fill = L.length + 1 := by rw [u5, p9, List.length_map]
      have sz1 : t1.place.size = es1.size := by
        have z := ok2.sz
        rw [List.length_map] at z
        rw [z, z1]
      by_cases full : t1.tooFull = true
      · have big : 3 * t.mask ≤ 5 * (L.length + 1) := by
          have z := full
          unfold SetTable.tooFull at z
          rw [decide_eq_true_eq, ef, em] at z
          omega
        rw [if_pos (by rw [full]; rfl), zl]
        have two : (t.mask = 7 ∧ L.length = 4) ∨ (t.mask = 31 ∧ L.length = 18) := by
          rcases R.ok.mok with e | e | e
          · exact .inl ⟨e, by omega⟩
          · exact .inr ⟨e, by omega⟩
          · omega
        have fin : ∀ M, SetTable.sizeAbove (SetTable.grown (L.length + 1)) - 1 = M → MaskOk M → SetTable.sizeAbove (SetTable.grown (L.length + 1)) ≤ 128 → 5 * (L.length + 1) < 3 * M →
            wpAny (model P w) A (setRelay a (SetTable.grown (L.length + 1)) >>= fun _ => pure true) Q E { s with heap := h1 } := fun M g1 g2 g3 g4 =>
          wpAny_bind (relayT SK (s := { s with heap := h1 }) (L := L1) ho1 ⟨hex.1, hex.2.1, hex.2.2⟩ rfl el1 sz1 ok2.dm (by rw [z1, z2, em]; rcases two with ⟨e, e2⟩ | ⟨e, e2⟩ <;> omega) nd1 kt1 ld1 (by rw [z2]; exact lt) g1 g2 g3 (by rw [z2]; exact g4)
            fun h2 L2 es2 ep2 t2 sb2 R2 pm2 => wpAny_pure (q true h2 L2 es2 ep2 t2 (sb.trans sb2) R2 (fun z => absurd z nm) fun _ => pm2.trans pm))
        rcases two with ⟨_, e2⟩ | ⟨_, e2⟩
        · exact fin 31 (by rw [e2, size_20]) (.inr (.inl rfl)) (by rw [e2, size_20]; decide) (by omega)
        · exact fin 127 (by rw [e2, size_76]) (.inr (.inr rfl)) (by rw [e2, size_76]; decide) (by omega)
      · rw [if_neg (fun z => full (by simpa using z))]
        refine wpAny_pure (q true h1 L1 es1 (ep + 1) t1 sb ⟨⟨_, ho1, ⟨hex.1, hex.2.1, hex.2.2⟩, rfl⟩, el1, ok2, nd1, kt1, ld1, ?_, by rw [z2]; exact lt⟩ (fun z => absurd z nm) fun _ => pm)
        have z := full
        unfold SetTable.tooFull at z
        rw [decide_eq_true_eq, ef] at z
        rw [z2]
        omega
    by_cases hp : t0.plain = true
    · first
        | (refine wpAny_bind ?_; refine wp_if_pos hp (SK.hsh hx fun c => ?_); exact rest c)
        | refine wp_if_pos hp (wpAny_bind (SK.hsh hx fun c => rest c))
    · first
        | (refine wpAny_bind ?_; refine wp_if_neg hp (wpAny_pure ?_); exact rest true)
        | exact wp_if_neg hp (wpAny_bind (wpAny_pure (rest true)))
end
end VB
namespace VB
open PySem PySem.Spec PyProof.Rows L2
theorem nd_le {α : Type} [DecidableEq α] : ∀ {ys zs : List α}, ys.Nodup → (∀ z ∈ ys, z ∈ zs) → ys.length ≤ zs.length
  | [], _, _, _ => Nat.zero_le _
  | y :: ys, zs, nd, sub => by
    obtain ⟨n1, n2⟩ := List.nodup_cons.mp nd
    have m := sub y (List.mem_cons_self ..)
    have ih := nd_le (ys := ys) (zs := zs.erase y) n2 fun z mz => (List.mem_erase_of_ne (fun e : z = y => n1 (by rw [← e]; exact mz))).mpr (sub z (List.mem_cons_of_mem _ mz))
    rw [List.length_erase_of_mem m] at ih
    have : 0 < zs.length := List.length_pos_of_mem m
    rw [List.length_cons]
    omega
/-- what stands in the set behind the first i items -/
structure Gth {κ : Type} (ks : List (RwG κ)) (i : Nat) (L : List (RwG κ)) : Prop where
  sub : ∀ r ∈ L, r ∈ ks.take i
  all : ∀ r ∈ ks.take i, r.2 ∈ L.map Prod.snd
  len : L.length ≤ i
theorem take_one {α : Type} {l : List α} {i : Nat} {x : α} (e : l[i]? = some x) : l.take (i + 1) = l.take i ++ [x] := by
  rw [List.take_succ, e]
  rfl
theorem Gth.step {κ : Type} [DecidableEq κ] {ks L L1 : List (RwG κ)} {i : Nat} {r : RwG κ} (g : Gth ks i L) (e : ks[i]? = some r) (c1 : r.2 ∈ L.map Prod.snd → L1 = L) (c2 : r.2 ∉ L.map Prod.snd → L1.Perm (r :: L)) : Gth ks (i + 1) L1 := by
  by_cases m : r.2 ∈ L.map Prod.snd
  · rw [c1 m]
    refine ⟨fun x mx => ?_, fun x mx => ?_, Nat.le_succ_of_le g.len⟩
    · rw [take_one e]
      exact List.mem_append_left _ (g.sub x mx)
    · rw [take_one e] at mx
      rcases List.mem_append.mp mx with z | z
      · exact g.all x z
      · rw [List.mem_singleton.mp z]
        exact m
  · have pm := c2 m
    refine ⟨fun x mx => ?_, fun x mx => ?_, by rw [pm.length_eq, List.length_cons]; exact Nat.succ_le_succ g.len⟩
    · rw [take_one e]
      rcases List.mem_cons.mp (pm.mem_iff.mp mx) with z | z
      · exact List.mem_append_right _ (List.mem_singleton.mpr z)
      · exact List.mem_append_left _ (g.sub x z)
    · rw [(pm.map Prod.snd).mem_iff, List.map_cons]
      rw [take_one e] at mx
      rcases List.mem_append.mp mx with z | z
      · exact List.mem_cons_of_mem _ (g.all x z)
      · rw [List.mem_singleton.mp z]
        exact List.mem_cons_self ..
section
variable {κ : Type} [DecidableEq κ] {P : Program} {w : World} {knd : HeapKind P w κ} {A : Around} {E : Value → Shared → Prop} {s : Shared}
theorem TabG.keep {h h' : Heap} {a : Addr} {L : List (RwG κ)} {es : Array (Int × Value)} {ep : Nat} {t : SetTable} (R : TabG knd h a L es ep t) (ka : ∀ o, h.get? a = some o → h'.get? a = some o) (kk : ∀ r ∈ L, knd.is h' r.2 r.1) : TabG knd h' a L es ep t := by
  obtain ⟨o, ho, r⟩ := R.ob
  exact ⟨⟨o, ka o ho, r⟩, R.el, R.ok, R.nd, kk, R.ld, R.rm, R.lt⟩
theorem tabG0 {h : Heap} {a : Addr} (e : h.get? a = some (set0 w)) : TabG knd h a [] #[] 0 (.fresh 0 0 (!w.params.followText "set-order")) := by
  refine ⟨⟨_, e, ⟨rfl, rfl, rfl⟩, rfl⟩, rfl, ⟨List.Pairwise.nil, rfl, rfl, .inl rfl, fun x m => (nomatch m), fun i z j e => by simp at e⟩, List.nodup_nil, fun r m => (nomatch m), ?_, by show 5 * 0 < 3 * 7; decide, by show 0 < 64; decide⟩
  show _ ∨ (!w.params.followText "set-order") = true
  cases w.params.followText "set-order"
  · exact .inr rfl
  · exact .inl rfl
/-- the walk that fills the set -/
theorem tabG_loop (SK : SetK knd) {I S : Addr} {fp wr : List Addr} {G : Array GenState → Array GenState → Prop} {n : Nat} {Pv : Nat → Value → Prop} {St : Nat → Shared → Prop} {R : Result → Shared → Prop}
    (W : WalksS P w A.in1 I fp wr G n Pv St) (nS : S ∉ fp) (ks : List (RwG κ)) (en : n = ks.length) (U : List (κ)) (lU : U.length < 63) (sub : ∀ r ∈ ks, r.2 ∈ U) (val : ∀ i v, Pv i v → ∃ r, ks[i]? = some r ∧ v = .ref r.1)
    (h0 : Heap) (kt : ∀ r ∈ ks, knd.is h0 r.2 r.1) (nS0 : h0.get? S = none) (nw0 : ∀ b ∈ wr, h0.get? b = none) (hu : knd.room A.in1) :
    ∀ (m i : Nat) (s : Shared), n - i = m → i ≤ n → St i s → (∀ b o, h0.get? b = some o → s.heap.get? b = some o) → (∃ L es ep t, TabG knd s.heap S L es ep t ∧ Gth ks i L) →
      (∀ s' L es ep t, Moved (S :: wr) G s s' → TabG knd s'.heap S L es ep t → Gth ks n L → (∀ b o, h0.get? b = some o → s'.heap.get? b = some o) → R (.ok (.ret .none)) s') →
      codeAny (model P w) A (.builtin "set.update.loop" ⟨[.ref S, .ref I], []⟩) R s := by
  have nW : S ∉ wr := fun m => nS (W.sub _ m)
  have wide : ∀ b ∈ wr, b ∈ S :: wr := fun b m => List.mem_cons_of_mem _ m
  have old : ∀ {s s1 : Shared}, Moved wr G s s1 → (∀ b o, h0.get? b = some o → s.heap.get? b = some o) → ∀ b o, h0.get? b = some o → s1.heap.get? b = some o := fun mv k b o e =>
    mv.heap b o (fun m => by rw [nw0 b m] at e; cases e) (k b o e)
  intro m
  induction m with
  | zero =>
    intro i s hm hi st k0 ⟨L, es, ep, t, T, g⟩ fin
    obtain rfl : i = n := by omega
    refine codeAny_builtin PyProof.Rows.F.entry_set_update_loop ?_
    rw [Around.under_plainId PyProof.Rows.F.plain_set_update_loop _]
    show wpAny _ A.in1 (pyNext (.ref I) >>= _) _ _ s
    refine wpAny_bind (W.done s _ _ st fun s1 mv => ?_)
    show wpAny _ A.in1 (ret Value.none) _ _ s1
    have k1 := old mv k0
    exact wpAny_pure (fin s1 L es ep t (mv.mono wide) (T.keep (fun o e => mv.heap S o nW e) fun r mr => SK.keep (kt r (List.mem_of_mem_take (g.sub r mr))) k1) g k1)
  | succ m ih =>
    intro i s hm hi st k0 ⟨L, es, ep, t, T, g⟩ fin
    have lti : i < n := by omega
    refine codeAny_builtin PyProof.Rows.F.entry_set_update_loop ?_
    rw [Around.under_plainId PyProof.Rows.F.plain_set_update_loop _]
    show wpAny _ A.in1 (pyNext (.ref I) >>= _) _ _ s
    refine wpAny_bind (W.item i s _ _ lti st fun v s1 pv st1 mv => ?_)
    obtain ⟨r, er, rfl⟩ := val i v pv
    have k1 := old mv k0
    have T1 : TabG knd s1.heap S L es ep t := T.keep (fun o e => mv.heap S o nW e) fun x mx => SK.keep (kt x (List.mem_of_mem_take (g.sub x mx))) k1
    have kr : knd.is s1.heap r.2 r.1 := SK.keep (kt r (List.mem_of_getElem? er)) k1
    show wpAny _ A.in1 (holding [Value.ref r.1] (setAdd S (.ref r.1)) >>= _) _ _ s1
    refine wpAny_bind (wpAny_holding ?_)
    unfold setAdd
    refine wpAny_holding (wpAny_bind (knd.pyHash hu kr ?_))
    refine T1.add SK (s := { s1 with toks := s1.toks + knd.draws r.2 }) kr hu (by
      have z := nd_le (zs := U) T.nd fun k mk => by
        obtain ⟨q, mq, rfl⟩ := List.mem_map.mp mk
        exact sub q (List.mem_of_mem_take (g.sub q mq))
      rw [List.length_map] at z
      omega) fun b h2 L1 es1 ep1 t1 sb T2 c1 c2 => ?_
    have far : ∀ b, b ≠ S → ∀ o, s1.heap.get? b = some o → h2.get? b = some o := fun b nb o e => (sb.2 b nb).trans e
    have k2 : ∀ b o, h0.get? b = some o → h2.get? b = some o := fun b o e => far b (fun z => by rw [z, nS0] at e; cases e) o (k1 b o e)
    refine wpAny_pure ⟨plainId_quiet PyProof.Rows.F.plain_set_update_loop _, ih (i + 1) _ (by omega) lti (W.frame _ s1 _ _ st1 (Nat.le_add_right _ _) fun b mb o e => far b (fun z => nS (z ▸ mb)) o e) k2 ⟨L1, es1, ep1, t1, T2, g.step er c1 c2⟩ fun s3 L3 es3 ep3 t3 mv3 T3 g3 k3 => ?_⟩
    exact fin s3 L3 es3 ep3 t3 (Moved.trans W.gtrans ((mv.mono wide).then_heap (Nat.le_add_right _ _) fun b o mb e => far b (fun z => mb (z ▸ List.mem_cons_self ..)) o e) mv3) T3 g3 k3
end
end VB
namespace VB
open PySem PySem.Spec PyProof.Rows L2
section
variable {κ : Type} [DecidableEq κ] {P : Program} {w : World} {knd : HeapKind P w κ} {A : Around} {E : Value → Shared → Prop} {s : Shared}
set_option maxHeartbeats 6400000 in
/-- set(xs), xs a list of such tuples -/
theorem setG_of_list (SK : SetK knd) {l : Addr} {items : Array Value} {Q : Value → Shared → Prop} (ks : List (RwG κ)) (hh : A.handled = none) (hl : s.heap.IsList l items) (ei : items.toList = ks.map fun r => Value.ref r.1) (kt : ∀ r ∈ ks, knd.is s.heap r.2 r.1) (U : List κ) (lU : U.length < 63) (sub : ∀ r ∈ ks, r.2 ∈ U) (hu : ∀ A' : Around, A'.units ≤ A.units + 3 → knd.room A')
    (fin : ∀ (h' : Heap) (tk : Nat) (L : List (RwG κ)) es ep t, TabG knd h' s.heap.objs.size L es ep t → Gth ks ks.length L → (∀ b o, s.heap.get? b = some o → h'.get? b = some o) → Q (.ref s.heap.objs.size) { s with heap := h', toks := tk }) :
    wpAny (model P w) A (call (.type "set") [.ref l]) Q E s := by
  have isz : items.size = ks.length := by
    have z := congrArg List.length ei
    rw [Array.length_toList, List.length_map] at z
    exact z
  obtain ⟨c0, tl0, mro0⟩ := PySem.F.called_set.mro
  have made0 := PySem.F.called_set.made
  have sub0 := PySem.F.called_set.sub
  have nt0 := PySem.F.called_set.notType
  have cc0 := PySem.F.called_set.canCreate
  have tc0 := PySem.F.typeCall_set_1 (.ref l)
  refine wpAny_call (codeAny_of_tree ?_)
  show wpAny _ _ (callAny (.type "set") _) _ _ _
  refine wpAny_pure ⟨Code.quiet_builtin _ (by decide +kernel), codeAny_builtin PySem.F.entry_type_call ?_⟩
  rw [Around.under_plain (weight_type_call_type "set" [.ref l] []) rfl]
  repeat (any_goals (first | assumption | wp_step))
  refine codeAny_mono (code_set_led1 (.ref l) (E := E) (Q₁ := fun v s1 => v = .ref s.heap.objs.size ∧ s1 = { s with heap := s.heap.push (set0 w) }) ⟨rfl, rfl⟩) fun r1 s1 q1 => ?_
  cases r1 with
  | error e => exact q1
  | ok fl =>
    cases fl with
    | ret v =>
      obtain ⟨rfl, rfl⟩ := q1
      have gS : (s.heap.push (set0 w)).get? s.heap.objs.size = some (set0 w) := Heap.get?_push_size _ rfl
      have tS : Shared.TypeIs { s with heap := s.heap.push (set0 w) } (.ref s.heap.objs.size) "set" := ⟨_, gS, rfl⟩
      have li0 := PySem.F.called_set.init.lookup
      have bi0 := PySem.F.called_set.init.bind (.ref s.heap.objs.size)
      repeat (any_goals (first | assumption | wp_step))
      refine codeAny_mono (codeAny_call_builtin (R := wants (fun u s2 => u = .none ∧ ∃ h' tk L es ep t, s2 = { s with heap := h', toks := tk } ∧ TabG knd h' s.heap.objs.size L es ep t ∧ Gth ks ks.length L ∧ ∀ b o, s.heap.get? b = some o → h'.get? b = some o) E)
        PySem.F.called_set.init.plain PySem.F.entry_set_init (check_set_init_1 tS ?_)) fun r2 s2 q2 => ?_
      · obtain ⟨⟨oc, od, odt, osl⟩, gl, hc, nl, hd⟩ := hl
        simp only at hc hd
        subst hc
        subst hd
        have lS : l < s.heap.objs.size := Heap.lt_size gl
        have gl1 : (s.heap.push (set0 w)).get? l = some { cls := .type "list", dict := od, data := .seq items nl, slots := osl } := Heap.get?_push_of_some _ gl
        have hl1 : (s.heap.push (set0 w)).IsList l items := ⟨_, gl1, rfl, nl, rfl⟩
        have ss0 := PySem.F.sub_list_set
        have sf0 := PySem.F.sub_list_frozenset
        have nd0 : (Value.type "list" == Value.type "dict") = false := by decide
        unfold Builtin.«set.__init__» noKeywords Builtin.Frozenset.updateFrom
        generalize hit : pyIter = it0
        wp_walk
        subst hit
        refine wpAny_pyIter_list hl1 (wpAny_bind (wpAny_runValue ?_))
        have sz : (s.heap.push (set0 w)).objs.size = s.heap.objs.size + 1 := Heap.size_push ..
        have nI : l ≠ (s.heap.push (set0 w)).objs.size := by
          rw [sz]
          exact Nat.ne_of_lt (Nat.lt_succ_of_lt lS)
        have nS : s.heap.objs.size ∉ [(s.heap.push (set0 w)).objs.size, l] := fun m => by
          rw [sz] at m
          rcases List.mem_cons.mp m with z | z
          · exact absurd z (Nat.ne_of_lt (Nat.lt_succ_self _))
          · exact absurd (List.mem_singleton.mp z) (Nat.ne_of_gt lS)
        have val : ∀ (i : Nat) (v : Value), items[i]? = some v → ∃ r, ks[i]? = some r ∧ v = .ref r.1 := fun i v hv => by
          have z : items.toList[i]? = some v := by rw [Array.getElem?_toList]; exact hv
          rw [ei, List.getElem?_map] at z
          obtain ⟨r, er, ev⟩ := Option.map_eq_some_iff.mp z
          exact ⟨r, er, ev.symm⟩
        have free : ∀ b, s.heap.objs.size ≤ b → s.heap.get? b = none := fun b hb => by
          cases z : s.heap.get? b with
          | none => rfl
          | some o => exact absurd (Nat.lt_of_lt_of_le (Heap.lt_size z) hb) (Nat.lt_irrefl _)
        refine tabG_loop SK ((Walks.list (by simp [hh]) _ l nI items).toS) nS ks isz U lU sub val s.heap kt (free _ (Nat.le_refl _)) (fun b mb => free b (by
          rw [List.mem_singleton.mp mb, sz]
          exact Nat.le_succ _)) (hu _ (Nat.le_refl _)) (items.size - 0) 0 _ (by omega) (Nat.zero_le _) ⟨⟨_, Heap.get?_push_size _ rfl, rfl, rfl⟩, hl1.push _⟩ (fun b o e => Heap.get?_push_of_some _ (Heap.get?_push_of_some _ e)) ⟨[], #[], 0, _, tabG0 (Heap.get?_push_of_some _ gS), fun r m => (nomatch m), fun r m => by simp at m, Nat.le_refl _⟩ fun s3 L es ep t mv T g kp => ?_
        obtain ⟨h3, g3, d3, t3, os3⟩ := s3
        have eg : g3 = s.gens := mv.gens
        have ed : d3 = s.drawn := mv.drawn
        have eo : os3 = s.os := mv.os
        subst eg
        subst ed
        subst eo
        rw [isz] at g
        show wpAny _ _ _ _ _ _
        refine wpAny_pure ?_
        show wpAny _ _ (ret Value.none) _ _ _
        exact wpAny_pure ⟨rfl, h3, t3, L, es, ep, t, rfl, T, g, kp⟩
      · cases r2 with
        | error e => exact q2
        | ok fl2 =>
          cases fl2 with
          | ret u =>
            obtain ⟨rfl, h', tk, L, es, ep, t, rfl, T, g, kp⟩ := q2
            repeat (any_goals (first | assumption | wp_step))
            exact fin h' tk L es ep t T g kp
          | _ => exact q2.elim
    | _ => exact q1.elim
end
theorem setT_of_list {P : Program} {w : World} {A : Around} {E : Value → Shared → Prop} {s : Shared} {l : Addr} {items : Array Value} {Q : Value → Shared → Prop} (ks : List Rw) (hh : A.handled = none) (hl : s.heap.IsList l items) (ei : items.toList = ks.map fun r => Value.ref r.1) (kt : ∀ r ∈ ks, KtM P w s.heap r.2 r.1) (U : List (List Key)) (lU : U.length < 63) (sub : ∀ r ∈ ks, r.2 ∈ U) (hu : A.units + 3 < cLine)
    (fin : ∀ (h' : Heap) (tk : Nat) (L : List Rw) es ep t, TabT P w h' s.heap.objs.size L es ep t → Gth ks ks.length L → (∀ b o, s.heap.get? b = some o → h'.get? b = some o) → Q (.ref s.heap.objs.size) { s with heap := h', toks := tk }) :
    wpAny (model P w) A (call (.type "set") [.ref l]) Q E s := setG_of_list sk_mix ks hh hl ei kt U lU sub (fun A' z => show A'.units < cLine by omega) fin
end VB
namespace VB
open PySem PySem.Spec PyProof.Rows L2
structure SetT1 (P : Program) (w : World) (h : Heap) (a : Addr) (L : List Rw) : Prop where
  ex : ∃ (es : Array (Int × Value)) (ep : Nat) (t : SetTable), (∃ o, h.get? a = some o ∧ o.ExactSet ∧ o.data = .set es ep t) ∧ es.toList = rowsM P w L ∧ TabOk t (L.map fun r => hashM P w r.2) ∧ (L.map Prod.snd).Nodup ∧
    (w.params.followText "set-order" = true ∨ t.led = true) ∧ 5 * L.length < 3 * t.mask ∧ L.length < 64
/-- the set of these tuples, at a -/
def SetTX (P : Program) (w : World) (a : Addr) (L : List Rw) : HO := .ext fun h => SetT1 P w h a L
theorem TabT.one {P : Program} {w : World} {h : Heap} {a : Addr} {L : List Rw} {es : Array (Int × Value)} {ep : Nat} {t : SetTable} (R : TabT P w h a L es ep t) : SetT1 P w h a L := ⟨es, ep, t, R.ob, R.el, R.ok, R.nd, R.ld, R.rm, R.lt⟩
theorem setTX_new {P : Program} {w : World} {H : Hp} {h : Heap} {a : Addr} {L : List Rw} (R : SetT1 P w h a L) : ObjOk P w H h a (SetTX P w a L) := by
  have ⟨es, ep, t, ⟨o, ho, _⟩, _⟩ := R.ex
  refine ⟨R, ⟨o, ho⟩, fun h1 h2 p k => ?_⟩
  have ⟨es1, ep1, t1, ⟨o1, ho1, r1⟩, q1⟩ := SetT1.ex p
  exact ⟨es1, ep1, t1, ⟨o1, k o1 ho1, r1⟩, q1⟩
theorem items_of_keys {P : Program} {w : World} : ∀ {k : List Key} {us : List Value}, Vals (k.map kV) us → ItemsAre (mixKind P w) k us
  | [], _, .nil => .nil
  | .inl i :: k, _, .cons r t => by
    obtain ⟨tk, rfl⟩ := r
    exact .cons (keyIs_int i tk) (items_of_keys t)
  | .inr z :: k, _, .cons r t => by
    obtain ⟨tk, rfl⟩ := r
    exact .cons (keyIs_str z tk) (items_of_keys t)
theorem refs_vals : ∀ {ks : List Rw} {us : List Value}, Vals (ks.map fun r => V.ref r.1) us → us = ks.map fun r => Value.ref r.1
  | [], _, .nil => rfl
  | r :: ks, _, .cons z t => by
    cases z
    rw [refs_vals t]
    rfl
section
variable {X : Cx}
theorem Inv.ktM {pins : List (Addr × Obj)} {σ : L2.St} {H : Hp} {s : Shared} {b : Addr} {k : List Key} (I : Inv X pins σ H s) (h : SqT X.K H b (k.map kV)) : KtM X.prog X.w s.heap k b := by
  obtain ⟨its, r, ⟨o, ho, hc, n, hd⟩, _⟩ := I.tuple h
  exact ⟨o, its.toArray, n, ho, hc, hd, by simpa using items_of_keys r⟩
def rSetT (K : PySem.W.Frag) (P : Program) (w : World) : List V → Hp → VK → Prop := fun xs H Q => ∃ (l : Addr) (ks : List Rw), xs = [V.ref l] ∧ SqL K H l (ks.map fun r => V.ref r.1) ∧ (∀ r ∈ ks, SqT K H r.1 (r.2.map kV)) ∧ (∃ U : List (List Key), U.length < 63 ∧ ∀ r ∈ ks, r.2 ∈ U) ∧
  ∀ a L, H a = none → (∀ r ∈ L, r ∈ ks) → (∀ r ∈ ks, r.2 ∈ L.map Prod.snd) → (L.map Prod.snd).Nodup → Q (.ref a) (upd H a (SetTX P w a L))
theorem cr_setT {X : Cx} {K : PySem.W.Frag} {P : Program} {w : World} (hK : X.K = K) (hP : X.prog = P) (hw : X.w = w) (hc : X.calm = true) (hu : X.A.units + 64 < cLine) : CallR X (.type "set") (rSetT K P w) := by
  subst hK
  subst hP
  subst hw
  intro pins s σ H xs us Q I r h
  obtain ⟨l, ks, rfl, hq, kt, ⟨U, lU, sub⟩, q⟩ := h
  rw [Vals.ref1 r]
  have n0 : H s.heap.objs.size = none := I.hok.fresh (Nat.le_refl _)
  have fin : ∀ (h' : Heap) (tk : Nat) (L : List Rw) es ep t, TabT X.prog X.w h' s.heap.objs.size L es ep t → Gth ks ks.length L → (∀ b o, s.heap.get? b = some o → h'.get? b = some o) →
      EP X pins σ Q (.ref s.heap.objs.size) { s with heap := h', toks := tk } := fun h' tk L es ep t R g k =>
    ⟨.ref s.heap.objs.size, upd H s.heap.objs.size (SetTX X.prog X.w s.heap.objs.size L), I.laid (t' := tk) k (Nat.le_refl _) (setTX_new R.one), rfl, q _ L n0 (fun x m => List.mem_of_mem_take (g.sub x m)) (fun x m => g.all x (by rw [List.take_length]; exact m)) R.nd⟩
  obtain ⟨its, rv, pl, _⟩ := I.list hq
  exact setT_of_list (P := X.prog) (w := X.w) ks (I.ok.hd hc) pl.isList (by simpa using refs_vals rv) (fun x m => Inv.ktM I (kt x m)) U lU sub (by omega) fin
def rLenT (P : Program) (w : World) : List V → Hp → VK → Prop := fun vs H Q => ∃ (a : Addr) (L : List Rw), vs = [.ref a] ∧ H a = some (SetTX P w a L) ∧ Q (.int L.length) H
theorem cr_lenT {X : Cx} {P : Program} {w : World} (hP : X.prog = P) (hw : X.w = w) : CallR X (.builtin "len") (rLenT P w) := by
  subst hP
  subst hw
  intro pins s σ H vs us Q I r h
  obtain ⟨a, L, rfl, ha, q⟩ := h
  rw [Vals.ref1 r]
  have R0 : SetT1 X.prog X.w s.heap a L := (I.hok a _ ha).1
  obtain ⟨es, ep, t, ⟨o, ho, hx, hd⟩, el, ok, nd, ld, rm, lt⟩ := R0.ex
  have zl := rowsM_len el
  have sz := ok.sz
  rw [List.length_map] at sz
  refine call_len_set ho hx hd (fits_of (sz.trans zl.symm) ok.dm (by omega)) (by omega) ⟨.int L.length, H, I.tok _, ⟨_, by rw [zl]⟩, q⟩
end
/-- tuples of texts and ints -/
def D.keyTs : List D → Option (List (List Key))
  | [] => some []
  | d :: ds => d.keyT.bind fun k => (D.keyTs ds).map (k :: ·)
/-- each once, the last place kept -/
def dedup {α : Type} [DecidableEq α] : List α → List α
  | [] => []
  | x :: xs => if x ∈ dedup xs then dedup xs else x :: dedup xs
theorem mem_dedup {α : Type} [DecidableEq α] {x : α} : ∀ {xs : List α}, x ∈ dedup xs ↔ x ∈ xs
  | [] => Iff.rfl
  | y :: xs => by
    unfold dedup
    have ih := mem_dedup (x := x) (xs := xs)
    by_cases h : y ∈ dedup xs
    · rw [if_pos h, List.mem_cons, ih]
      exact ⟨.inr, fun z => z.elim (fun e => by rw [e]; exact mem_dedup.mp h) id⟩
    · rw [if_neg h, List.mem_cons, List.mem_cons, ih]
theorem dedup_nd {α : Type} [DecidableEq α] : ∀ {xs : List α}, (dedup xs).Nodup
  | [] => List.nodup_nil
  | y :: xs => by
    unfold dedup
    by_cases h : y ∈ dedup xs
    · rw [if_pos h]
      exact dedup_nd
    · rw [if_neg h]
      exact List.nodup_cons.mpr ⟨h, dedup_nd⟩
theorem dedup_of {α : Type} [DecidableEq α] : ∀ {xs : List α}, xs.Nodup → dedup xs = xs
  | [], _ => rfl
  | y :: xs, h => by
    obtain ⟨h1, h2⟩ := List.nodup_cons.mp h
    unfold dedup
    rw [dedup_of h2, if_neg h1]
theorem nd_len {α : Type} [DecidableEq α] {xs ys : List α} (h1 : xs.Nodup) (h2 : ys.Nodup) (h : ∀ x, x ∈ xs ↔ x ∈ ys) : xs.length = ys.length := ((List.perm_ext_iff_of_nodup h1 h2).mpr h).length_eq
/-- len(set(xs)) of tuples of texts and ints -/
def D.lenSetT : D → M D
  | .lst ds => match D.keyTs ds with
    | some ks => if (dedup ks).length < 63 then .ret (.int (dedup ks).length) else .fail
    | none => .fail
  | _ => .fail
theorem keyTs_rows {K : PySem.W.Frag} {B : List Addr} {H : Hp} : ∀ {xs : List V} {ds : List D} {ks : List (List Key)}, SgA K B H xs ds → D.keyTs ds = some ks →
    ∃ rs : List Rw, xs = rs.map (fun r => V.ref r.1) ∧ rs.map Prod.snd = ks ∧ ∀ r ∈ rs, H r.1 = some (.tup (r.2.map kV))
  | _, [], _, .nil, e => by
    cases e
    exact ⟨[], rfl, rfl, fun r m => nomatch m⟩
  | _, d :: ds, ks, .cons s r, e => by
    obtain ⟨k, e0, e1⟩ := Option.bind_eq_some_iff.mp (show d.keyT.bind (fun k => (D.keyTs ds).map (k :: ·)) = some ks from e)
    obtain ⟨ks0, e2, rfl⟩ := Option.map_eq_some_iff.mp e1
    obtain ⟨rs, z1, z2, z3⟩ := keyTs_rows r e2
    obtain ⟨a, rfl, h⟩ := sr_keyT (s.sr (W := []) fun _ m => nomatch m) e0
    refine ⟨(a, k) :: rs, by rw [z1]; rfl, by rw [← z2]; rfl, fun x m => ?_⟩
    rcases List.mem_cons.mp m with rfl | m
    · exact h
    · exact z3 x m
section
variable {K : PySem.W.Frag} {P : Program} {w : World} {ρ : List En} {te : TE} {m : M D}
theorem lenT_go {a : Addr} {B W : List Addr} {H : Hp} {xs : List V} {ds : List D} {PD : D → Prop} {Q : VK} (hq : SqL K H a xs) (r : SgA K B H xs ds)
    (w1 : wp (match D.keyTs ds with | some ks => if (dedup ks).length < 63 then .ret (.int (dedup ks).length) else .fail | none => .fail) PD)
    (q : ∀ (n : Int) (H' : Hp), Gs W H H' → PD (.int n) → Q (.int n) H') : rSetT K P w [.ref a] H fun x H2 => rLenT P w [x] H2 Q := by
  cases e : D.keyTs ds with
  | none =>
    rw [e] at w1
    exact w1.elim
  | some ks =>
    rw [e] at w1
    obtain ⟨h64, w2⟩ := wp_ite w1
    obtain ⟨rs, rfl, rfl, z3⟩ := keyTs_rows r e
    refine ⟨a, rs, rfl, hq, fun r m => SqT.of (z3 r m), ⟨_, h64, fun r m => mem_dedup.mpr (List.mem_map_of_mem m)⟩, fun b L nb s1 s2 nd => ⟨b, L, rfl, upd_same, q _ _ (Gs.new nb) ?_⟩⟩
    have e1 : L.length = (dedup (rs.map Prod.snd)).length := by
      rw [← List.length_map (f := Prod.snd) (as := L)]
      refine nd_len nd dedup_nd fun k => ?_
      rw [mem_dedup]
      constructor
      · intro m
        obtain ⟨r, mr, rfl⟩ := List.mem_map.mp m
        exact List.mem_map.mpr ⟨r, s1 r mr, rfl⟩
      · intro m
        obtain ⟨r, mr, rfl⟩ := List.mem_map.mp m
        exact s2 r mr
    rw [e1]
    exact w2
theorem RE.lenSetT (h : RR K te ρ m) : RE K (tCB (rLenT P w) (tCons (tCB (rSetT K P w) (tCons te tNil)) tNil)) ρ (m.bind D.lenSetT) := fun PD w0 B W H σ e Q q =>
  h _ (wp_bind.mp w0) B W H σ e _ fun v d H1 g1 s1 w1 => by
    show rSetT K P w [v] H1 fun x H2 => rLenT P w [x] H2 Q
    cases d with
    | lst ds =>
      obtain ⟨a, xs, rfl, _, ha, r⟩ := s1
      exact lenT_go (W := W) (SqL.of ha) r w1 fun n H2 g2 p => q _ _ H2 (g1.trans g2) (.int n) p
    | _ => exact w1.elim
end
end VB
namespace VB
open PySem PySem.Spec PyProof.Rows L2
def WdF (F : Rg) : Prop := ∀ r ∈ F, ∀ x ∈ r.1, Wd x
def seqA (b : Bool) (ds : List D) : D := if b = true then .lst ds else .tup ds
theorem nm_eqb {a b : Nme} (ha : ∀ x ∈ a, Wd x) (hb : ∀ x ∈ b, Wd x) : (nm a).eqb (nm b) = some (decide (a = b)) := by
  obtain ⟨h1, h2, h3, h4⟩ := strs_shaped ha hb
  rw [← strs_eqv a b]
  exact if_pos (by
    show ((nm a).pu && (nm b).pu && (SeqAt.shaped (nm a).py && SeqAt.shaped (nm b).py)) = true
    rw [h1, h2, h3, h4]
    rfl)
theorem nm_ne {a b : Nme} (ha : ∀ x ∈ a, Wd x) (hb : ∀ x ∈ b, Wd x) : D.ne (nm a) (nm b) = .ret (.bl (!decide (a = b))) := by
  unfold D.ne
  rw [nm_eqb ha hb]
  rfl
theorem sl_nm (n : Nme) (k : Nat) : D.sl (nm n) none (some (k : Int)) = .ret (nm (n.take k)) := by
  show M.ret (D.tup (cutG (n.map D.str) none (some (k : Int)))) = _
  rw [cutG_map, cutG_lo]
theorem sl_last (n : Nme) : D.sl (nm n) none (some (-1)) = .ret (nm n.dropLast) := by
  show M.ret (D.tup (cutG (n.map D.str) none (some (-1)))) = _
  rw [cutG_map, cutG_last]
theorem len_nm (n : Nme) : D.len (nm n) = .ret (.int n.length) := by
  show M.ret (D.int ((n.map D.str).length : Nat)) = _
  rw [List.length_map]
theorem lenA_nm (n : Nme) : D.lenA (nm n) = .ret (.int n.length) := len_nm n
theorem isiT_seqA {al : List Addr} {b : Bool} {ds : List D} : D.isiT al [.ty "list", .ty "tuple"] (seqA b ds) = .ret (.bl true) := by
  cases b with
  | true =>
    show (if _ then _ else _) = _
    rw [if_pos ⟨rfl, rfl, by decide⟩]
    rfl
  | false =>
    show (if _ then _ else _) = _
    rw [if_pos ⟨rfl, rfl, by decide⟩]
    rfl
theorem items_seqA {b : Bool} {ds : List D} : D.items (seqA b ds) = .ret ds := by cases b <;> rfl
theorem keyTs_nm (F : Rg) : D.keyTs (F.map fun r => nm r.1) = some (F.map fun r => knm r.1) := by
  induction F with
  | nil => rfl
  | cons r F ih =>
    show (nm r.1).keyT.bind (fun k => (D.keyTs (F.map fun r => nm r.1)).map (k :: ·)) = _
    rw [keyT_nm, ih]
    rfl
theorem knm_nd {F : Rg} (nd : NdF F) : (F.map fun r => knm r.1).Nodup := by
  rw [show (fun r : Nme × Bool => knm r.1) = knm ∘ Prod.fst from rfl, ← List.map_map]
  exact List.pairwise_map.mpr (List.Pairwise.imp (fun h e => h (knm_inj e)) nd)
theorem down_succ (k : Nat) : D.down (k : Int) (k + 1) = .int k :: D.down ((k : Int) - 1) k := by
  unfold D.down
  rw [List.range_succ_eq_map, List.map_cons, List.map_map]
  refine congr (congrArg List.cons ?_) (List.map_congr_left fun j _ => ?_)
  · show D.int ((k : Int) - (0 : Nat)) = _
    simp
  · show D.int ((k : Int) - ((j + 1 : Nat) : Int)) = D.int ((k : Int) - 1 - (j : Int))
    congr 1
    omega
theorem e_rdict {F : Rg} (nd : NdF F) (hl : F.length < 16777216) : M.dc (fun y => D.un2 y fun name flag => (M.ret name).bind fun k => (M.ret flag).bind fun v => .ret (some (k, v))) (F.map rwD) (D0 true) = .ret (rgD F) := by
  have go : ∀ (F1 G : Rg), NdF F1 → (∀ r ∈ F1, lkF G r.1 = none) → G.length + F1.length < 16777216 → M.dc (fun y => D.un2 y fun name flag => (M.ret name).bind fun k => (M.ret flag).bind fun v => .ret (some (k, v))) (F1.map rwD) (rgD G) = .ret (rgD (G ++ F1)) := fun F1 => by
    induction F1 with
    | nil =>
      intro G _ _ _
      rw [List.append_nil]
      rfl
    | cons r F1 ih =>
      intro G n1 hG hs
      rw [List.length_cons] at hs
      obtain ⟨n2, n3⟩ := List.nodup_cons.mp n1
      show D.row (rgD G) (nm r.1) (.bl r.2) _ = _
      unfold D.row
      rw [if_pos (show (rgD G).isDc = true from rfl), setA_rg (hG r (List.mem_cons_self ..)) (by omega), ih _ n3 (fun q m => ?_) (by
        rw [List.length_append, List.length_singleton]
        omega), List.append_assoc]
      · rfl
      · refine lkF_none.mpr fun b mb => ?_
        rcases List.mem_append.mp mb with mb | mb
        · exact lkF_none.mp (hG q (List.mem_cons_of_mem _ m)) b mb
        · have := List.mem_singleton.mp mb
          refine n2 ?_
          rw [show r.1 = q.1 from (congrArg Prod.fst this).symm]
          exact List.mem_map.mpr ⟨q, m, rfl⟩
  have z := go F [] nd (fun _ _ => rfl) (by rw [List.length_nil]; omega)
  rw [List.nil_append] at z
  exact z
theorem rowsD_rg (F : Rg) : ∃ rs : List (D × D), (rgD F).rowsD = some rs ∧ rs.map pairD = F.map rwD := by
  have z := rows_rg F
  unfold D.rowsM at z
  cases e : (rgD F).rowsD with
  | none =>
    rw [e] at z
    cases z
  | some rs =>
    rw [e] at z
    have z : M.ret (rs.map pairD) = M.ret (F.map rwD) := z
    injection z with z
    exact ⟨rs, rfl, z⟩
theorem listItems_rg (F : Rg) : D.listItems (rgD F) = .ret (.lst (F.map rwD)) := by
  obtain ⟨rs, e, er⟩ := rowsD_rg F
  unfold D.listItems
  rw [e]
  show M.ret (D.lst (rs.map pairD)) = _
  rw [er]
/-- range(i, j, -1), its bounds not to be looked into -/
structure RngOk (i j c : Int) : Prop where
  c1 : c = -1
  hi : -4611686018427387904 ≤ i ∧ i < 4611686018427387904
  hj : -4611686018427387904 ≤ j ∧ j < 4611686018427387904
  le : i - j ≤ 16777216
noncomputable def D.rngD : List D → M (List D)
  | [.int i, .int j, .int c] => @ite _ (RngOk i j c) (Classical.propDecidable _) (.ret (D.down i (i - j).toNat)) .fail
  | _ => .fail
theorem RI.rngD {K : PySem.W.Frag} {ρ : List En} {ta : TA} {mA : MA} {lp : Bool} (h : RAr K ta ρ mA) : RI K lp (iRng3 ta) ρ (mA _ D.rngD) := fun P w B W H σ e R q => h _ _ _ w B W H σ e _ fun vs ds H1 g s w1 => by
  match ds, s, w1 with
  | [.int i, .int j, .int c], .cons s1 (.cons s2 (.cons s3 .nil)), w1 =>
    cases s1
    cases s2
    cases s3
    obtain ⟨⟨rfl, h1, h2, h3⟩, w2⟩ := @wp_ite _ _ (Classical.propDecidable _) _ _ w1
    exact ⟨i, j, -1, (i - j).toNat, rfl, RgC.neg (by omega) (by omega) (by omega) (by omega), q _ _ H1 g (walkd_down (by omega)) w2⟩
theorem rng3_dn {i : Int} (h0 : 0 ≤ i) (h1 : i ≤ 1000000) : D.rngD [.int i, .int (-1), .int (-1)] = .ret (D.down i (i.toNat + 1)) := by
  have c : RngOk i (-1) (-1) := ⟨rfl, by omega, by omega, by omega⟩
  have e : (i - (-1)).toNat = i.toNat + 1 := by omega
  rw [← e]
  exact @if_pos _ (Classical.propDecidable _) c _ _ _
end VB
namespace VB
open PySem PySem.Spec PyProof.Rows L2 PySem.W PySem.SeqAt
end VB
namespace VB
open PySem PySem.Spec PyProof.Rows L2
end VB
namespace VB
open PySem PySem.Spec PyProof.Rows L2
section
variable {K : PySem.W.Frag} {ρ : List En} {te te1 : TE} {tt1 : TT} {p p1 : Pt} {js js1 : List Nat} {wi : TI} {mi : M (List D)}
theorem Kp.step {W : List Addr} {U : Addr → Prop} {H1 H H' : Hp} (k : Kp W U H1 H) (g : Gs W H H') : Kp W U H1 H' := ⟨fun a o nW nU h => g.gw.keep a o nW (k.kp a o nW nU h), fun a xs h => g.gw.tups a xs (k.tups a xs h)⟩
theorem Kp.wr {W : List Addr} {H1 H : Hp} {p : Addr} {u : HO} (k : Kp W (fun a => a = p) H1 H) (n : NoT H p) : Kp W (fun a => a = p) H1 (upd H p u) := ⟨fun a o nW nU h => by
  rw [upd_ne nU]
  exact k.kp a o nW nU h, fun a xs h => (Gw.wr (W := [p]) (List.mem_singleton_self p) n).tups a xs (k.tups a xs h)⟩
end
end VB
namespace VB
open PySem PySem.Spec PyProof.Rows L2
theorem eqq_nms {ns : List Nme} (hw : ∀ n ∈ ns, ∀ x ∈ n, Wd x) : Eqq 2 (.lst (ns.map nm)) := Eqq.lst (k := 1) (ds := ns.map nm) fun d m => by
  obtain ⟨n, mn, rfl⟩ := List.mem_map.mp m
  refine Eqq.tup (k := 0) (ds := n.map D.str) fun e me => ?_
  obtain ⟨x, mx, rfl⟩ := List.mem_map.mp me
  exact Eqq.wd (hw n mn x mx)
theorem nin_nms {n : Nme} {ns : List Nme} (hn : ∀ x ∈ n, Wd x) (hs : ∀ n ∈ ns, ∀ x ∈ n, Wd x) : D.ninM (nm n) (.lst (ns.map nm)) = .ret (.bl (!decide (n ∈ ns))) := by
  have c : ((nm n).pu && D.puA (ns.map nm) && (SeqAt.shaped (nm n).py && SeqAt.shaped (D.lst (ns.map nm)).py)) = true := (Eqq.mono (Eqq.tup (k := 0) (ds := n.map D.str) fun e me => by
    obtain ⟨x, mx, rfl⟩ := List.mem_map.mp me
    exact Eqq.wd (hn x mx)) (show 1 ≤ 2 by decide)).cond (eqq_nms hs) (by decide)
  have e : (nm n).inb (.lst (ns.map nm)) = some (decide (n ∈ ns)) := by
    show (if ((nm n).pu && D.puA (ns.map nm) && (SeqAt.shaped (nm n).py && SeqAt.shaped (D.lst (ns.map nm)).py)) = true then some ((D.pyA (ns.map nm)).any fun z => PyData.eqv z (nm n).py) else none) = _
    rw [if_pos c]
    congr 1
    clear c hs
    induction ns with
    | nil => rfl
    | cons m ns ih =>
      show (PyData.eqv (nm m).py (nm n).py || (D.pyA (ns.map nm)).any fun z => PyData.eqv z (nm n).py) = _
      rw [ih, strs_eqv]
      by_cases z : m = n
      · simp [z]
      · have z2 : ¬ n = m := fun y => z y.symm
        simp [z, z2]
  unfold D.ninM
  rw [e]
  rfl
end VB
namespace VB
open PySem PySem.Spec PyProof.Rows L2
end VB
namespace VB
open PySem PySem.Spec PyProof.Rows L2 PyProof.V
end VB
namespace VB
open PySem PySem.Spec PyProof.Rows L2
end VB
namespace VB
open PySem PySem.Spec PyProof.Rows L2
end VB
namespace VB
open PySem PySem.Spec PyProof.Rows L2
theorem perm_of_sub {α : Type} [DecidableEq α] : ∀ {F G : List α}, F.Nodup → (∀ x ∈ F, x ∈ G) → G.length = F.length → F.Perm G
  | [], G, _, _, hl => by
    rw [List.eq_nil_of_length_eq_zero hl]
  | x :: F, G, nd, h, hl => by
    obtain ⟨n1, n2⟩ := List.nodup_cons.mp nd
    have mx := h x (List.mem_cons_self ..)
    refine ((perm_of_sub (F := F) (G := G.erase x) n2 (fun y my => (List.mem_erase_of_ne fun e => n1 (by rw [← e]; exact my)).mpr (h y (List.mem_cons_of_mem _ my))) ?_).cons x).trans (List.perm_cons_erase mx).symm
    rw [List.length_erase_of_mem mx, hl]
    rfl
theorem rows_of {F : Rg} : ∀ {es : List D}, (∀ e ∈ es, e ∈ F.map rwD) → ∃ G : Rg, es = G.map rwD
  | [], _ => ⟨[], rfl⟩
  | e :: es, h => by
    obtain ⟨r, _, er⟩ := List.mem_map.mp (h e (List.mem_cons_self ..))
    obtain ⟨G, eG⟩ := rows_of (es := es) fun x m => h x (List.mem_cons_of_mem _ m)
    exact ⟨r :: G, by rw [← er, eG]; rfl⟩
theorem str_inj {x y : Str} (h : D.str x = .str y) : x = y := by
  injection h
theorem rwD_inj {r q : Nme × Bool} (h : rwD r = rwD q) : r = q := by
  unfold rwD at h
  injection h with h
  injection h with h1 h2
  injection h2 with h2 _
  injection h2 with h2
  injection h1 with h1
  exact Prod.ext ((List.map_inj_right fun x y e => str_inj e).mp h1) h2
theorem dedup_len {α : Type} [DecidableEq α] : ∀ xs : List α, (dedup xs).length ≤ xs.length
  | [] => Nat.le_refl _
  | x :: xs => by
    unfold dedup
    have := dedup_len xs
    split
    · rw [List.length_cons]
      omega
    · rw [List.length_cons, List.length_cons]
      omega
end VB
namespace VB
open PySem PySem.Spec PyProof.Rows L2
end VB
namespace VB
open PySem PySem.Spec PyProof.Rows L2
def mergeT (kvs more : List (List Key × V)) : List (List Key × V) := more.foldl (fun acc kv => putK acc kv.1 kv.2) kvs
abbrev RwT : Type := List Key × Addr × V
def rDictPT (K : PySem.W.Frag) : List V → Hp → VK → Prop := fun xs H Q => ∃ (a : Addr) (ps : List Addr) (rows : List RwT), xs = [V.ref a] ∧ SqL K H a (ps.map V.ref) ∧ Paired (fun (p : Addr) (r : RwT) => SqT K H p [.ref r.2.1, r.2.2] ∧ H r.2.1 = some (.tup (r.1.map kV))) ps rows ∧
  ∀ p, H p = none → Q (.ref p) (upd H p (.dT (mergeT [] (rows.map fun r => (r.1, r.2.2)))))
section
variable {X : Cx}
theorem pairsT_of {pins : List (Addr × Obj)} {σ : L2.St} {H : Hp} {s : Shared} (I : Inv X pins σ H s) : ∀ {ps : List Addr} {rows : List RwT}, Paired (fun (p : Addr) (r : RwT) => SqT X.K H p [.ref r.2.1, r.2.2] ∧ H r.2.1 = some (.tup (r.1.map kV))) ps rows →
    ∃ prs : List (List Key × Addr × Value), prs.length = ps.length ∧ Paired (fun (r : RwT) (q : List Key × Addr × Value) => r.1 = q.1 ∧ H q.2.1 = some (.tup (r.1.map kV)) ∧ RelV r.2.2 q.2.2) rows prs ∧
      ∀ (j : Nat) (q : List Key × Addr × Value), prs[j]? = some q → ∃ T : Addr, ps[j]? = some T ∧ IsTup s.heap T #[.ref q.2.1, q.2.2] ∧ (tupleKind (mixKind X.prog X.w)).is s.heap q.1 q.2.1
  | _, _, .nil => ⟨[], rfl, .nil, fun j q e => by simp at e⟩
  | _, _, .cons (a := p) (b := r) h t => by
    obtain ⟨prs, hl, hr, hp⟩ := pairsT_of I t
    obtain ⟨h1, h2⟩ := h
    obtain ⟨its, rv, ht, _⟩ := I.tuple h1
    obtain ⟨u, y, ei, ru, ry⟩ := vals2 rv
    subst ei
    cases (show u = Value.ref r.2.1 from ru)
    refine ⟨(r.1, r.2.1, y) :: prs, by rw [List.length_cons, List.length_cons, hl], .cons ⟨rfl, h2, ry⟩ hr, fun j q e => ?_⟩
    cases j with
    | zero =>
      have e' : (r.1, r.2.1, y) = q := Option.some.inj e
      subst e'
      exact ⟨p, rfl, ht, key_of I.hok h2⟩
    | succ j =>
      obtain ⟨T, e1, e2, e3⟩ := hp j q (by simpa using e)
      exact ⟨T, by simpa using e1, e2, e3⟩
theorem kt_merge {H : Hp} : ∀ {rows : List RwT} {prs : List (List Key × Addr × Value)} {kvs : List (List Key × V)} {xs : List (List Key × Addr × Value)}, Paired (fun (r : RwT) (q : List Key × Addr × Value) => r.1 = q.1 ∧ H q.2.1 = some (.tup (r.1.map kV)) ∧ RelV r.2.2 q.2.2) rows prs → KT H kvs xs →
    KT H (mergeT kvs (rows.map fun r => (r.1, r.2.2))) (storedAllH xs prs)
  | _, _, _, _, .nil, r => r
  | _, _, _, _, .cons (a := r) (b := q) h t, k => by
    obtain ⟨h1, h2, h3⟩ := h
    show KT H (mergeT (putK _ r.1 r.2.2) _) (storedAllH (storedH _ q.1 q.2.1 q.2.2) _)
    rw [← h1]
    exact kt_merge t (k.put r.1 h2 h3)
theorem call_dictPT (hcalm : X.calm = true) (hu : X.A.units + 2 < cLine) : CallR X (.type "dict") (rDictPT X.K) := by
  intro pins s σ H xs us Q I r q
  obtain ⟨a, ps, rows, ex, hq, hp, q⟩ := q
  subst ex
  obtain ⟨u, eu, rx⟩ := vals1 r
  subst eu
  cases rx
  obtain ⟨its, rv, pl, hz⟩ := I.list hq
  have ei := refs_at rv
  subst ei
  rw [List.length_map] at hz
  obtain ⟨prs, hl, hr, hat⟩ := pairsT_of I hp
  obtain ⟨o, n, ho, hc, hd, hdat⟩ := pl
  have hn : H s.heap.objs.size = none := I.hok.fresh (Nat.le_refl _)
  have hm : (s.heap.objs.size == sysModules) = false := beq_eq_false_iff_ne.mpr (Nat.ne_of_gt I.big)
  refine call_dict_pairsH (knd := tupleKind (mixKind X.prog X.w)) (ps := prs) (PairArg.list a (ps.map Value.ref).toArray (fun j => ps.getD j 0) (prs.map fun q => (Value.ref q.2.1, q.2.2))) (I.ok.hd hcalm) (tupleKind_room_in1 (by show X.A.units + 1 + 1 < cLine; omega)) ⟨⟨o, n, ho, hc, hd, hdat⟩, by simp [hl], fun j k v e => ?_⟩
    ⟨by simp, fun i key v e => ?_⟩ (fun h' hk x hx => ?_) (by rw [List.length_map, hl]; exact hz) fun h' tk hd' hk => ?_
  · rw [List.getElem?_map] at e
    cases e2 : prs[j]? with
    | none =>
      rw [e2] at e
      cases e
    | some q =>
      rw [e2] at e
      cases e
      obtain ⟨T, f1, f2, f3⟩ := hat j q e2
      obtain ⟨oT, g1, g2, g3, g4⟩ := f2
      have eT : ps.getD j 0 = T := by
        rw [List.getD_eq_getElem?_getD, f1]
        rfl
      refine ⟨?_, .inl ?_⟩
      · show (ps.map Value.ref).toArray[j]? = some (Value.ref (ps.getD j 0))
        rw [List.getElem?_toArray, List.getElem?_map, f1, eT]
        rfl
      · show s.heap.IsTuple (ps.getD j 0) _
        rw [eT]
        exact ⟨oT, g1, g2, g3, g4⟩
  · have e : (prs.map fun q => (Value.ref q.2.1, q.2.2))[i]? = some (key, v) := e
    rw [List.getElem?_map] at e
    cases e2 : prs[i]? with
    | none =>
      rw [e2] at e
      cases e
    | some q =>
      rw [e2] at e
      cases e
      exact ⟨q.1, q.2.1, rfl, rfl⟩
  · obtain ⟨j, hj⟩ := List.mem_iff_getElem?.mp hx
    obtain ⟨T, _, _, f3⟩ := hat j x hj
    exact tupleKind_stays.stays (fun b o _ _ e _ => hk b o (Nat.ne_of_lt (Heap.lt_size e)) (fun z => nomatch z) e) f3
  · have kt := (kt_merge (kvs := []) (xs := []) hr .nil).keeps (H' := upd H s.heap.objs.size (.dT (mergeT [] (rows.map fun r => (r.1, r.2.2))))) fun b ys e => by
      rw [upd_ne (ne_of_none e hn)]
      exact e
    obtain ⟨ob, es, ep, g1, g2, g3, g4, _, g6⟩ := hd'
    have hlen : (mergeT [] (rows.map fun r => (r.1, r.2.2))).length ≤ sizeLine := by
      have l1 : (mergeT [] (rows.map fun r => (r.1, r.2.2))).length = (storedAllH [] prs).length := Paired.length kt
      have l2 := storedAllH_length prs []
      rw [List.length_nil, Nat.zero_add] at l2
      omega
    exact ⟨.ref s.heap.objs.size, _, I.laid (t' := tk) (fun b u e => hk b u (fun z => nomatch z) e) (Nat.le_refl _) (show ObjOk X.prog X.w _ _ _ (.dT _) from ⟨hlen, hm, _, kt, ob, es, ep, g1, g2, g3, g4, g6⟩), rfl, q _ hn⟩
end
def rowsT : List D → Option (List (List Key × D))
  | [] => some []
  | .tup [y, x] :: ds => match y.keyT, rowsT ds with
    | some k, some rs => some ((k, x) :: rs)
    | _, _ => none
  | _ :: _ => none
def mergeD : List (List Key) → List D → List (List Key × D) → D
  | ks, ds, [] => .dit ks ds
  | ks, ds, r :: rs => mergeD (putKs ks r.1) (putDs ks ds r.1 r.2) rs
def D.dictPT (x : D) : M D := match x with
  | .lst ds => match rowsT ds with
    | some rs => .ret (mergeD [] [] rs)
    | none => .fail
  | _ => .fail
section
variable {K : PySem.W.Frag} {B : List Addr} {H : Hp}
theorem rowsT_at : ∀ {xs : List V} {ds : List D} {rs : List (List Key × D)}, SgA K B H xs ds → rowsT ds = some rs → ∃ (ps : List Addr) (rows : List RwT), xs = ps.map V.ref ∧ Paired (fun (p : Addr) (r : RwT) => SqT K H p [.ref r.2.1, r.2.2] ∧ H r.2.1 = some (.tup (r.1.map kV))) ps rows ∧
    rows.map (·.1) = rs.map (·.1) ∧ SgA K B H (rows.map fun r => r.2.2) (rs.map (·.2))
  | _, _, _, .nil, e => by
    cases e
    exact ⟨[], [], rfl, .nil, rfl, .nil⟩
  | _, d :: ds, rs, .cons h r, e => by
    match d, e with
    | .tup [y, x], e =>
      have e : (match y.keyT, rowsT ds with | some k, some rs => some ((k, x) :: rs) | _, _ => none) = some rs := e
      cases e1 : y.keyT with
      | none =>
        rw [e1] at e
        cases e
      | some k =>
        cases e2 : rowsT ds with
        | none =>
          rw [e1, e2] at e
          cases e
        | some rs2 =>
          rw [e1, e2] at e
          cases e
          obtain ⟨ps, rows, rfl, hp, h1, h2⟩ := rowsT_at r e2
          cases h with
          | @tup p zs _ n hT rr =>
            cases rr with
            | cons s1 rr =>
              cases rr with
              | cons s2 rr =>
                cases rr
                obtain ⟨b, rfl, eb⟩ := sr_keyT (s1.sr (W := []) fun _ m => nomatch m) e1
                refine ⟨p :: ps, (k, b, _) :: rows, rfl, .cons ⟨Or.inl (Rd.of hT), eb⟩ hp, ?_, .cons s2 h2⟩
                rw [List.map_cons, List.map_cons, h1]
theorem mergeD_at {a : Addr} : ∀ {rows : List RwT} {rs : List (List Key × D)} {kvs : List (List Key × V)} {ds : List D}, rows.map (·.1) = rs.map (·.1) → SgA K B H (rows.map fun r => r.2.2) (rs.map (·.2)) → SgA K B H (kvs.map (·.2)) ds → H a = some (.dT (mergeT kvs (rows.map fun r => (r.1, r.2.2)))) →
    OwAt K B H a (mergeD (kvs.map (·.1)) ds rs)
  | [], [], kvs, ds, _, _, r, h => ⟨kvs, h, rfl, r⟩
  | [], _ :: _, _, _, e, _, _, _ => nomatch e
  | _ :: _, [], _, _, e, _, _, _ => nomatch e
  | r :: rows, q :: rs, kvs, ds, e, s, k, h => by
    rw [List.map_cons, List.map_cons] at e
    injection e with e1 e2
    rw [List.map_cons, List.map_cons] at s
    cases s with
    | cons s1 s2 =>
      have z := mergeD_at (a := a) (kvs := putK kvs r.1 r.2.2) (ds := putDs (kvs.map (·.1)) ds r.1 q.2) e2 s2 (put_vals k s1) h
      rw [put_keys] at z
      unfold mergeD
      rw [← e1]
      exact z
end
theorem dictPT_c {K : PySem.W.Frag} : CaN K (rDictPT K) (M.one D.dictPT) := .one fun x P w B W H v b s Q q => by
  cases x with
  | lst ds =>
    obtain ⟨a, xs, rfl, _, h, r⟩ := s
    have w : wp (match rowsT ds with | some rs => M.ret (mergeD [] [] rs) | none => .fail) P := w
    cases e : rowsT ds with
    | none =>
      rw [e] at w
      exact w.elim
    | some rs =>
      rw [e] at w
      obtain ⟨ps, rows, rfl, hp, h1, h2⟩ := rowsT_at r e
      refine ⟨a, ps, rows, rfl, SqL.of h, hp, fun p n => q p _ _ (Gs.new n) n ?_ w⟩
      exact mergeD_at (kvs := []) (ds := []) h1 (h2.out n) .nil upd_same
  | _ => exact (show False from w).elim
theorem kDictPT {X : Cx} {K : PySem.W.Frag} (h : X.K = K) (hc : X.calm = true) (hu : X.A.units + 65 < cLine) : CallR X (.type "dict") (rDictPT K) := h ▸ call_dictPT hc (by omega)
end VB
namespace VB
open PySem PySem.Spec PyProof.Rows L2
def FrOne (K : PySem.W.Frag) (B : List Addr) (H0 H : Hp) (v : V) (d : D) : Prop :=
  ∃ (t l : Addr) (x : V) (dx : D) (vs : List V) (ds : List D), v = .ref t ∧ H t = some (.tup [x, .ref l]) ∧ Sg K B H x dx ∧ H0 l = none ∧ l ∉ B ∧ H l = some (.lst vs) ∧ SgA K B H vs ds ∧ d = .tup [dx, .lst ds]
section
variable {K : PySem.W.Frag} {B W : List Addr} {H0 H H' : Hp} {v : V} {d : D} {p : Addr} {u : HO}
theorem FrOne.sg (h : FrOne K B H0 H v d) : Sg K B H v d := by
  obtain ⟨t, l, x, dx, vs, ds, rfl, ht, sx, n0, nB, hl, sl, rfl⟩ := h
  exact .tup trivial ht (.cons sx (.cons (.lst nB hl sl) .nil))
theorem FrOne.gw (g : Gw B H H') (h : FrOne K B H0 H v d) : FrOne K B H0 H' v d := by
  obtain ⟨t, l, x, dx, vs, ds, rfl, ht, sx, n0, nB, hl, sl, rfl⟩ := h
  exact ⟨t, l, x, dx, vs, ds, rfl, g.tups _ _ ht, sx.gw g, n0, nB, g.keep _ _ nB hl, sl.gw g, rfl⟩
theorem FrOne.avo (n : H p = none) (h : FrOne K B H0 H v d) : FrOne K (p :: B) H0 H v d := by
  obtain ⟨t, l, x, dx, vs, ds, rfl, ht, sx, n0, nB, hl, sl, rfl⟩ := h
  exact ⟨t, l, x, dx, vs, ds, rfl, ht, sx.avo n, n0, fun z => (List.mem_cons.mp z).elim (fun z => ne_of_none hl n z) nB, hl, sl.avo n, rfl⟩
theorem FrOne.lk {a : Addr} (k : Lk a H H') (h : FrOne K B H0 H v d) : FrOne K B H0 H' v d := by
  obtain ⟨t, l, x, dx, vs, ds, rfl, ht, sx, n0, nB, hl, sl, rfl⟩ := h
  exact ⟨t, l, x, dx, vs, ds, rfl, k.keep ht nd_tup (fun _ _ z => nomatch z), k.sg sx, n0, nB, k.keep hl nd_lst (fun _ _ z => nomatch z), k.sga sl, rfl⟩
end
inductive FrA (K : PySem.W.Frag) (B : List Addr) (H0 H : Hp) : List V → List D → Prop
  | nil : FrA K B H0 H [] []
  | cons {v : V} {d : D} {vs : List V} {ds : List D} : FrOne K B H0 H v d → FrA K B H0 H vs ds → FrA K B H0 H (v :: vs) (d :: ds)
section
variable {K : PySem.W.Frag} {B B' W : List Addr} {H0 H H' : Hp}
theorem FrA.imp (k : ∀ v d, FrOne K B H0 H v d → FrOne K B' H0 H' v d) : ∀ {vs : List V} {ds : List D}, FrA K B H0 H vs ds → FrA K B' H0 H' vs ds
  | _, _, .nil => .nil
  | _, _, .cons h r => .cons (k _ _ h) (r.imp k)
theorem FrA.sga : ∀ {vs : List V} {ds : List D}, FrA K B H0 H vs ds → SgA K B H vs ds
  | _, _, .nil => .nil
  | _, _, .cons h r => .cons h.sg r.sga
theorem FrA.append : ∀ {vs ws : List V} {ds es : List D}, FrA K B H0 H vs ds → FrA K B H0 H ws es → FrA K B H0 H (vs ++ ws) (ds ++ es)
  | _, _, _, _, .nil, r => r
  | _, _, _, _, .cons h r, q => .cons h (r.append q)
/-- the tuples' places beside the data -/
theorem FrA.zip : ∀ {vs : List V} {ds : List D}, FrA K B H0 H vs ds → ∃ zs : List (Addr × D), vs = zs.map (fun z => V.ref z.1) ∧ ds = zs.map Prod.snd ∧ ∀ z ∈ zs, FrOne K B H0 H (.ref z.1) z.2
  | _, _, .nil => ⟨[], rfl, rfl, fun _ m => nomatch m⟩
  | _, _, .cons h r => by
    obtain ⟨zs, e1, e2, e3⟩ := r.zip
    obtain ⟨t, l, x, dx, vs, ds, rfl, h2⟩ := id h
    refine ⟨(t, _) :: zs, by rw [e1]; rfl, by rw [e2]; rfl, fun z m => ?_⟩
    rcases List.mem_cons.mp m with rfl | m
    · exact h
    · exact e3 z m
end
def EF (K : PySem.W.Frag) (H0 : Hp) (te : TE) (P : D → Prop) (ρ : List En) : Prop := ∀ (B W : List Addr) (H : Hp) (σ : L2.St), EnvOk K B W H σ ρ → (∀ a, H a = none → H0 a = none) → ∀ Q : VK, (∀ v d H', Gs W H H' → FrOne K B H0 H' v d → P d → Q v H') → te σ H Q
def RFL (K : PySem.W.Frag) (H0 : Hp) (te : TE) (ρ : List En) (m : M (List D)) : Prop := ∀ P, wp m P → ∀ (B W : List Addr) (H : Hp) (σ : L2.St), EnvOk K B W H σ ρ → (∀ a, H a = none → H0 a = none) → ∀ Q : VK,
  (∀ a vs ds H', Gs W H H' → H a = none → H' a = some (.lst vs) → FrA K (a :: B) H0 H' vs ds → P ds → Q (.ref a) H') → te σ H Q
section
variable {K : PySem.W.Frag} {ρ : List En} {te ta tb : TE} {ma mb : M D} {p : Pt} {js : List Nat} {wi : TI} {mi : M (List D)} {H0 : Hp}
/-- the state between two turns -/
def CSf (K : PySem.W.Frag) (B W : List Addr) (H0 H1 : Hp) (Dl : Addr) (σ : L2.St) (ρ : List En) (k : D → M D) (ds : List D) (P : List D → Prop) (i : Nat) (H : Hp) : Prop :=
  ∃ (acc : List V) (es : List D), H Dl = some (.lst acc) ∧ FrA K (Dl :: B) H0 H acc es ∧ acc.length ≤ i ∧ wp (M.map k (ds.drop i)) (fun r => P (es ++ r)) ∧ EnvOk K (Dl :: B) W H σ ρ ∧ Gs W H1 H
theorem RFL.map {k : D → M D} (hi : RI K false wi ρ mi) (hs : ∀ j ∈ p.sl, j ∈ js) (hk : PB p (clrL ρ js) k (EF K H0 te)) : RFL K H0 (tLc wi (p.g K) tYes te js) ρ (mi.bind fun ds => M.map k ds) := fun P w B W H σ e fr Q q =>
  hi _ (wp_bind.mp w) B W H σ e _ fun J ds H1 g1 wk w1 Dl nD => by
    have e1 := e.gs g1
    have dB : Dl ∉ B := e1.bw.notNew nD
    have dW : Dl ∉ W := fun m => dB (e1.bw.sub _ m)
    obtain ⟨e2, o2, b2⟩ := e1.clrs js
    have kp : ∀ {H' : Hp}, Gs W H1 H' → Kp W (fun a => false = true ∧ Own σ ρ a) H1 H' := fun g => ⟨fun a o nW _ h => g.gw.keep a o nW h, g.gw.tups⟩
    have nO : ¬ Own (wipe σ js) (clrL ρ js) Dl := fun o => (e1.ownB (o2 _ o)).2.2 nD
    have nB : ¬ Bor (wipe σ js) (clrL ρ js) Dl := fun o => e1.borK (b2 _ o) nD
    refine ⟨fun i m H' => m = ds.length - i ∧ i ≤ ds.length ∧ CSf K B W H0 H1 Dl (wipe σ js) (clrL ρ js) k ds P i H', ⟨ds.length, by simp, Nat.zero_le _, [], [], upd_same, .nil, Nat.le_refl _, w1, e2.out nD, Gs.new nD⟩, ?_⟩
    rintro i m H2 ⟨rfl, hle, acc, es, hD, sa, hl, w2, en, g⟩
    by_cases hlt : i < ds.length
    · refine .inr ⟨wk.goes i H2 hlt (kp g), fun H' => i + 1 ≤ ds.length ∧ CSf K B W H0 H1 Dl (wipe σ js) (clrL ρ js) k ds P (i + 1) H', fun H' z => ⟨ds.length - (i + 1), by omega, rfl, z⟩, fun x H3 hy => ?_⟩
      obtain ⟨g3, hy⟩ := wk.yields i H2 x H3 hlt (kp g) hy
      obtain ⟨d, hd, s⟩ := hy (Dl :: B) (fun a m => en.bw.kn a m) fun v d s => by
        refine (s.out (u := .lst acc) nD).gw ⟨fun b o nb eb => ?_, fun b eb => ?_, fun b xs eb => ?_⟩
        · have hb : b ≠ Dl := fun q => nb (q ▸ List.mem_cons_self ..)
          rw [upd_ne hb] at eb
          exact g.gw.keep b o (fun m => nb (List.mem_cons_of_mem _ (e1.bw.sub _ m))) eb
        · have hb : b ≠ Dl := fun q => by
            rw [q, hD] at eb
            cases eb
          rw [upd_ne hb]
          exact g.gw.free b eb
        · have hb : b ≠ Dl := fun q => by
            rw [q, upd_same] at eb
            cases eb
          rw [upd_ne hb] at eb
          exact g.gw.tups b xs eb
      rw [List.drop_eq_getElem_cons hlt, show ds[i] = d from Option.some.inj (by rw [← hd, List.getElem?_eq_getElem hlt])] at w2
      have w3 := wp_bind.mp (show wp ((k d).bind fun y => (M.map k (ds.drop (i + 1))).bind fun r => .ret (y :: r)) (fun r => P (es ++ r)) from w2)
      obtain ⟨ρ', hb, hC⟩ := hk d _ w3
      have en3 := en.gs g3
      refine Pt.ok p en3 s hb fun σ4 a4 => ⟨a4.wi js hs |>.trans ?_, ?_⟩
      · apply List.ext_getElem?
        intro z
        rw [wipe_get, wipe_get, wipe_length]
        by_cases hz : z ∈ js
        · simp only [if_pos hz]
        · simp only [if_neg hz]
      · unfold tYes
        simp only [if_true]
        refine hC (Dl :: B) W H3 σ4 a4.en (fun a z => fr a (g1.gw.free a (g.gw.free a (g3.gw.free a z)))) _ fun y dy H6 g6 s6 w6 => ?_
        have g36 := g3.trans g6
        have hD6 : H6 Dl = some (.lst acc) := g36.gw.keep _ _ dW hD
        have en6 := en.gs g36
        have gwr : Gw (Dl :: B) H6 (upd H6 Dl (.lst (acc ++ [y]))) := Gw.wr (List.mem_cons_self ..) ⟨_, hD6, fun _ z => nomatch z⟩
        refine ⟨acc, hD6, ?_, by omega, acc ++ [y], es ++ [dy], upd_same, ?_, ?_, ?_, en6.wr ⟨_, hD6, fun _ z => nomatch z⟩ (List.mem_cons_self ..) dW nO nB, (g.trans g36).mut nD⟩
        · rw [sizeLine_eq]
          have := wk.len
          omega
        · exact ((sa.imp fun _ _ z => z.gw (en.bw.gw g36)).append (.cons s6 .nil)).imp fun _ _ z => z.gw gwr
        · rw [List.length_append, List.length_singleton]
          omega
        · refine wp_mono (wp_bind.mp w6) fun r z => ?_
          rw [List.append_assoc]
          exact z
    · have hi2 : i = ds.length := by omega
      subst hi2
      refine .inl ⟨wk.stops H2 (kp g), q Dl acc es H2 (g1.trans g) (g1.gw.free _ nD) hD sa ?_⟩
      rw [List.drop_length] at w2
      have w2 : P (es ++ []) := w2
      rwa [List.append_nil] at w2
end
end VB
namespace VB
open PySem PySem.Spec PyProof.Rows L2
section
variable {K : PySem.W.Frag} {B : List Addr} {H H' : Hp}
def Chg (H H' : Hp) : Prop := ∀ a o, H a = some o → (∀ xs, o ≠ .lst xs) → H' a = some o
theorem Chg.tup (k : Chg H H') {a : Addr} {xs : List V} (h : H a = some (.tup xs)) : H' a = some (.tup xs) := k _ _ h fun _ z => nomatch z
theorem Chg.ins (k : Chg H H') {a C dx : Addr} {fs : List (Str × V)} (h : H a = some (.ins C dx fs)) : H' a = some (.ins C dx fs) := k _ _ h fun _ z => nomatch z
theorem Chg.dK (k : Chg H H') {a : Addr} {kvs : List (Key × V)} (h : Rd H a (.dK kvs)) : Rd H' a (.dK kvs) := by
  rcases h with h | ⟨o, h⟩
  · exact .inl (k _ _ h fun _ z => nomatch z)
  · exact .inr ⟨o, k _ _ h fun _ z => nomatch z⟩
theorem Chg.dT (k : Chg H H') {a : Addr} {kvs : List (List Key × V)} (h : Rd H a (.dT kvs)) : Rd H' a (.dT kvs) := by
  rcases h with h | ⟨o, h⟩
  · exact .inl (k _ _ h fun _ z => nomatch z)
  · exact .inr ⟨o, k _ _ h fun _ z => nomatch z⟩
theorem Chg.din (k : Chg H H') {a : Addr} {w : World} {kvs : List KvN} (h : Rd H a (DicNX w a kvs)) : Rd H' a (DicNX w a kvs) := by
  rcases h with h | ⟨o, h⟩
  · exact .inl (k _ _ h fun _ z => nomatch z)
  · exact .inr ⟨o, k _ _ h fun _ z => nomatch z⟩
theorem noL_and {d : D} {ds : List D} (q : D.noLA (d :: ds) = true) : d.noL = true ∧ D.noLA ds = true := Bool.and_eq_true_iff.mp (show (_ && _) = true from q)
theorem noL_lst {ds : List D} (q : (D.lst ds).noL = true) : False := nomatch q
mutual
/-- data without lists does not see changed lists -/
theorem Sg.chg (k : Chg H H') : ∀ {v : V} {d : D}, Sg K B H v d → d.noL = true → Sg K B H' v d
  | _, _, .non, _ => .non
  | _, _, .bl b, _ => .bl b
  | _, _, .int i, _ => .int i
  | _, _, .str x, _ => .str x
  | _, _, .ty n, _ => .ty n
  | _, _, .raw a, _ => .raw a
  | _, _, .tup n h r, q => .tup n (k.tup h) (SgA.chg k r q)
  | _, _, .etup h, _ => .etup h
  | _, _, .lst n h r, q => (noL_lst q).elim
  | _, _, .dic n h e r, q => .dic n (k.dK h) e (SgA.chg k r q)
  | _, _, .dit n h e r, q => .dit n (k.dT h) e (SgA.chg k r q)
  | _, _, .din n h e r1 r, q => .din n (k.din h) e (SgA.chg k r1 (Bool.and_eq_true_iff.mp (show (_ && _) = true from q)).1) (SgA.chg k r (Bool.and_eq_true_iff.mp (show (_ && _) = true from q)).2)
  | _, _, .ins n h e r, q => .ins n (k.ins h) e (SgA.chg k r q)
theorem SgA.chg (k : Chg H H') : ∀ {vs : List V} {ds : List D}, SgA K B H vs ds → D.noLA ds = true → SgA K B H' vs ds
  | _, _, .nil, _ => .nil
  | _, _, .cons h r, q => .cons (Sg.chg k h (noL_and q).1) (SgA.chg k r (noL_and q).2)
end
end
def rowOk : D → Bool
  | .tup [_, .lst ds] => decide (ds.length ≤ 1000)
  | _ => false
theorem FrOne.ok {K : PySem.W.Frag} {B : List Addr} {H0 H : Hp} {v : V} {d : D} (h : FrOne K B H0 H v d) (q : rowOk d = true) : ∃ (t l : Addr) (x : V) (vs : List V), v = .ref t ∧ H t = some (.tup [x, .ref l]) ∧ H0 l = none ∧ l ∉ B ∧ H l = some (.lst vs) ∧ vs.length ≤ 1000 := by
  obtain ⟨t, l, x, dx, vs, ds, rfl, ht, sx, n0, nB, hl, sl, rfl⟩ := h
  exact ⟨t, l, x, vs, rfl, ht, n0, nB, hl, by rw [sl.length]; exact of_decide_eq_true q⟩
/-- what an argument is, a tuple of two -/
theorem G.un2 {K : PySem.W.Frag} {R : Po → Prop} {t : TS} {α : Type} {C : Po → α → Prop} {x : D} {ρf : D → List En} {kk : D → D → M α} (h : ∀ a b, G K R t (ρf (.tup [a, b])) (kk a b) C) : G K R t (ρf x) (D.un2 x kk) C := fun P r w => by
  obtain ⟨a, b, rfl, w1⟩ := un2_at w
  exact h a b P r w1
end VB
namespace VB
open PySem PySem.Spec PyProof.Rows L2
end VB
namespace VB
open PySem PySem.Spec PyProof.Rows L2
abbrev MP := (α : Type) → (List (D × D) → M α) → M α
inductive SgP (K : PySem.W.Frag) (B : List Addr) (H : Hp) : List (V × V) → List (D × D) → Prop
  | nil : SgP K B H [] []
  | cons {x y : V} {ps : List (V × V)} {d e : D} {ds : List (D × D)} : Sg K B H x d → Sg K B H y e → SgP K B H ps ds → SgP K B H ((x, y) :: ps) ((d, e) :: ds)
def EP' (K : PySem.W.Frag) (trs : List (TE × TE)) (ρ : List En) (P : List (D × D) → Prop) : Prop := ∀ (B W : List Addr) (H : Hp) (σ : L2.St), EnvOk K B W H σ ρ → ∀ Q : List (V × V) → Hp → Prop, (∀ ps ds H', Gs W H H' → SgP K B H' ps ds → P ds → Q ps H') → tPairs trs σ H Q
def RPs (K : PySem.W.Frag) (trs : List (TE × TE)) (ρ : List En) (A : MP) : Prop := ∀ (α : Type) (k : List (D × D) → M α) (P : α → Prop), wp (A α k) P → EP' K trs ρ fun ds => wp (k ds) P
section
variable {K : PySem.W.Frag} {ρ : List En} {tk tv : TE} {trs : List (TE × TE)} {mk mv : M D} {A : MP}
theorem SgP.gw {B : List Addr} {H H' : Hp} (g : Gw B H H') : ∀ {ps : List (V × V)} {ds : List (D × D)}, SgP K B H ps ds → SgP K B H' ps ds
  | _, _, .nil => .nil
  | _, _, .cons a b r => .cons (a.gw g) (b.gw g) (SgP.gw g r)
theorem RPs.nil : RPs K [] ρ fun _ k => k [] := fun α k P w B W H σ e Q q => q [] [] H Gs.refl .nil w
theorem RPs.cons (hk : RE K tk ρ mk) (hv : RE K tv ρ mv) (hr : RPs K trs ρ A) : RPs K ((tk, tv) :: trs) ρ fun α k => mk.bind fun x => mv.bind fun y => A α fun ds => k ((x, y) :: ds) := fun α k P w B W H σ e Q q =>
  hk _ (wp_bind.mp w) B W H σ e _ fun v x H1 g1 s1 w1 => hv _ (wp_bind.mp w1) B W H1 σ (e.gs g1) _ fun u y H2 g2 s2 w2 => hr α _ P w2 B W H2 σ ((e.gs g1).gs g2) _ fun ps ds H3 g3 s3 w3 =>
    q _ _ H3 ((g1.trans g2).trans g3) (.cons (s1.gw ((e.gs g1).bw.gw (g2.trans g3))) (s2.gw (((e.gs g1).gs g2).bw.gw g3)) s3) w3
theorem SgP.len {B : List Addr} {H : Hp} : ∀ {ps : List (V × V)} {ds : List (D × D)}, SgP K B H ps ds → ps.length = ds.length
  | _, _, .nil => rfl
  | _, _, .cons _ _ r => congrArg (· + 1) r.len
end
end VB
namespace VB
open PySem PySem.Spec PyProof.Rows L2
theorem kFld {X : Cx} {K : PySem.W.Frag} {e : Expr} {f : Str} {pos : Pos} {ta : TE} (h : X.K = K) (he : PE X e ta) (hb : attributeBase e f X.env (eval e X.env) = eval e X.env) : PE X (.Attribute e f pos) (tFld K ta f) := h ▸ pe_fld he hb
end VB
namespace VB
open PySem PySem.Spec PyProof.Rows L2
end VB
namespace VB
open PySem PySem.Spec PyProof.Rows L2
section
variable {K : PySem.W.Frag} {ρ : List En} {ta tl t tk : TA} {te : TE} {ms md kd : List Md} {A Ak : MA} {m l : List D → M D} {m0 mo : M D} {E : XK} {C : Addr} {nm : Str} {dvs : List V} {dds : List D}
theorem RE.callE (h : RAm K ta ρ ms A) (e : m0 = A D m) : RE K (tCall (spM K ms m) [] E ta) ρ m0 := by
  rw [e]
  exact RE.call h
theorem RN.callE (h : RAm K ta ρ ms A) (e : m0 = A D m) : RN K (tCall (spMN K ms m) [] E ta) ρ m0 := by
  rw [e]
  exact RN.call h
theorem RN.makeE (h : RAm K tl ρ ms A) (e : m0 = A D l) : RN K (tMake C (spMI K C ms l) [] E tl) ρ m0 := by
  rw [e]
  exact RN.make h
end
end VB
namespace VB
open PySem PySem.Spec PyProof.Rows L2 Builtin Builtin.List
theorem tp_depth {A : Around} {args : Args} : (A.under (.builtin "tuple.__repr__" args)).depth ≤ A.depth + 1 := by
  first
    | exact Nat.le_of_eq rfl
    | exact Nat.le_succ _
    | (simp [Around.under, Code.weight, Code.isCreation, Code.isGuard, Code.isCaller, Code.frames, Code.isFrame, guardIds])
theorem Room.tp {k : Nat} {A : Around} {args : Args} (r : Room (k + 1) A) : Room k (A.under (.builtin "tuple.__repr__" args)) :=
  ⟨r.hd, by have := r.dp; have := tp_depth (A := A) (args := args); omega, by have := r.un; rw [units_under_tuple_repr]; omega⟩
theorem Env0.tp {P : Program} {w : World} {K : PySem.W.Frag} {mg : Str → Option Value} {base : Heap} {A : Around} {outer : List Env} {s : Shared} {H : Hp} {args : Args} (e : Env0 P w K mg base A outer s H) : Env0 P w K mg base (A.under (.builtin "tuple.__repr__" args)) outer s H := ⟨e.frames, e.mod, e.bs, e.bsz, e.funs, e.frf, e.hok, e.bare⟩
/-- the items shown one behind another -/
def Lt (C : Addr) (sp : List Code → Sp) (E : XK) (g : List Code) : List V → List Str → Hp → VK → Prop
  | [], acc, H, Q => (tupleText acc).length ≤ sizeLine ∧ Q (.str (tupleText acc)) H
  | v :: rest, acc, H, Q => ∃ x dx fs, v = .ref x ∧ H x = some (.ins C dx fs) ∧ piled acc + 1 ≤ sizeLine ∧ sp g [.ref x] H (fun z H' => ∃ y, z = .str y ∧ Lt C sp E g rest (acc ++ [y]) H' Q) E
end VB
namespace VB
open PySem PySem.Spec PyProof.Rows L2
end VB
namespace VB
open PySem PySem.Spec PyProof.Rows L2
end VB
namespace VB
open PySem PySem.Spec PyProof.Rows L2
end VB
namespace VB
open PySem PySem.Spec PyProof.Rows L2
/-- values of an argument list: true = a new object -/
inductive NewA (K : PySem.W.Frag) (B : List Addr) (H H' : Hp) : List Addr → List Bool → List V → List D → Prop
  | nil : NewA K B H H' [] [] [] []
  | dat {as : List Addr} {ms : List Bool} {v : V} {d : D} {vs : List V} {ds : List D} : Sg K B H' v d → NewA K B H H' as ms vs ds → NewA K B H H' as (false :: ms) (v :: vs) (d :: ds)
  | own {a : Addr} {as : List Addr} {ms : List Bool} {d : D} {vs : List V} {ds : List D} : H a = none → a ∉ as → OwAt K B H' a d → NewA K B H H' as ms vs ds → NewA K B H H' (a :: as) (true :: ms) (.ref a :: vs) (d :: ds)
/-- an argument list some of whose values are new objects -/
def RAo (K : PySem.W.Frag) (ta : TA) (ρ : List En) (ms : List Bool) (A : MA) : Prop := ∀ (α : Type) (k : List D → M α) (P : α → Prop), wp (A α k) P → ∀ (B W : List Addr) (H : Hp) (σ : L2.St), EnvOk K B W H σ ρ →
  ∀ Q : List V → Hp → Prop, (∀ as vs ds H', Gs W H H' → NewA K (as ++ B) H H' as ms vs ds → wp (k ds) P → Q vs H') → ta σ H Q
section
variable {K : PySem.W.Frag} {B B' W : List Addr} {H H0 H' H1 : Hp} {σ : L2.St} {ρ : List En} {p : Addr}
theorem NewA.imp (hs : ∀ v d, Sg K B H' v d → Sg K B' H1 v d) (ho : ∀ a d, OwAt K B H' a d → OwAt K B' H1 a d) (hn : ∀ a, H a = none → H0 a = none) : ∀ {as ms vs ds}, NewA K B H H' as ms vs ds → NewA K B' H0 H1 as ms vs ds
  | _, _, _, _, .nil => .nil
  | _, _, _, _, .dat s r => .dat (hs _ _ s) (r.imp hs ho hn)
  | _, _, _, _, .own n na k r => .own (hn _ n) na (ho _ _ k) (r.imp hs ho hn)
/-- a place that is new, held by nobody, may be left out -/
theorem EnvOk.ext {a : Addr} (h : EnvOk K B W H σ ρ) (g : Gs W H H') (n : H a = none) (kn : H' a ≠ none) : EnvOk K (a :: B) W H' σ ρ := by
  have g2 : Gw (a :: B) H H' := g.gw.mono fun x m => List.mem_cons_of_mem _ (h.bw.sub x m)
  refine ⟨⟨fun x m => List.mem_cons_of_mem _ (h.bw.sub x m), fun x m => ?_⟩, h.len, fun j e q => ?_, h.one, h.sep⟩
  · rcases List.mem_cons.mp m with z | z
    · rw [z]
      exact kn
    · exact fun z2 => h.bw.kn x z (g.gw.free x z2)
  · have r := h.sl j e q
    cases e with
    | no => trivial
    | dat d =>
      obtain ⟨v, e1, s⟩ := r
      exact ⟨v, e1, (s.avo n).gw g2⟩
    | bag b =>
      obtain ⟨e1, m, c, ns, nc, hb⟩ := r
      refine ⟨e1, m, c, ns, fun z => ?_, g.bag b m c ns (fun z => nc (h.bw.sub c z)) hb⟩
      rcases List.mem_cons.mp z with q | q
      · exact ne_of_none hb.2.1 n q
      · exact nc q
    | own d =>
      obtain ⟨b, e1, m, nw, kb⟩ := r
      exact ⟨b, e1, List.mem_cons_of_mem _ m, nw, kb.mv (fun o z => g.gw.keep b o nw z) fun _ _ r => (r.avo n).gw g2⟩
    | bor d =>
      obtain ⟨v, e1, k⟩ := r
      exact ⟨v, e1, k.mv (fun b o _ nw z => g.gw.keep b o nw z) (fun _ _ r => (r.avo n).gw g2) fun r => (r.avo n).gw g2⟩
theorem NewA.as_ok : ∀ {as ms vs ds}, NewA K B H H' as ms vs ds → (∀ a ∈ as, H a = none ∧ H' a ≠ none) ∧ as.Nodup
  | _, _, _, _, .nil => ⟨fun _ m => (nomatch m), List.nodup_nil⟩
  | _, _, _, _, .dat _ r => r.as_ok
  | _, _, _, _, .own n na k r => ⟨fun b m => (List.mem_cons.mp m).elim (fun z => by rw [z]; exact ⟨n, k.kn⟩) (r.as_ok.1 b), List.nodup_cons.mpr ⟨na, r.as_ok.2⟩⟩
end
section
variable {K : PySem.W.Frag} {ρ : List En} {te : TE} {ta : TA} {md : M D} {A : MA} {ms : List Bool} {R : Po → Prop} {u : TS} {α : Type} {CC : Po → α → Prop}
theorem RAo.nil : RAo K tNil ρ [] fun _ k => k [] := fun α k P w B W H σ e Q q => q [] _ _ H Gs.refl .nil w
theorem RAo.dat (he : RE K te ρ md) (h : RAo K ta ρ ms A) : RAo K (tCons te ta) ρ (false :: ms) fun α k => md.bind fun x => A α fun xs => k (x :: xs) := fun α k P w B W H σ e Q q =>
  he _ (wp_bind.mp w) B W H σ e _ fun v x H1 g1 s1 w1 => h α _ P w1 B W H1 σ (e.gs g1) _ fun as vs ds H2 g2 r w2 => by
    have n := r.as_ok.1
    refine q as _ _ H2 (g1.trans g2) (.dat ?_ (r.imp (fun _ _ z => z) (fun _ _ z => z) fun a z => g1.gw.free a z)) w2
    refine s1.mv (fun b o nb hb => g2.gw.keep b o (fun m => nb (e.bw.sub b m)) hb) g2.gw.tups fun b m => ?_
    rcases List.mem_append.mp m with z | z
    · exact .inr (n b z).1
    · exact .inl z
theorem RAo.own (he : RN K te ρ md) (h : RAo K ta ρ ms A) : RAo K (tCons te ta) ρ (true :: ms) fun α k => md.bind fun x => A α fun xs => k (x :: xs) := fun α k P w B W H σ e Q q =>
  he _ (wp_bind.mp w) B W H σ e _ fun a x H1 g1 n1 k1 w1 => by
    have e1 : EnvOk K (a :: B) W H1 σ ρ := e.ext g1 n1 k1.kn
    refine h α _ P w1 (a :: B) W H1 σ e1 _ fun as vs ds H2 g2 r w2 => ?_
    have n := r.as_ok.1
    have sub : ∀ b ∈ a :: as ++ B, b ∈ as ++ a :: B := fun b m => by
      rcases List.mem_cons.mp m with z | z
      · rw [z]
        exact List.mem_append_right _ (List.mem_cons_self ..)
      · rcases List.mem_append.mp z with z | z
        · exact List.mem_append_left _ z
        · exact List.mem_append_right _ (List.mem_cons_of_mem _ z)
    have aW : a ∉ W := fun m => e.bw.kn a (e.bw.sub a m) n1
    have lessA : ∀ {vs : List V} {ds : List D}, SgA K (as ++ a :: B) H2 vs ds → SgA K (a :: as ++ B) H2 vs ds := fun r => r.less sub
    refine q (a :: as) _ _ H2 (g1.trans g2) (.own n1 (fun m => k1.kn (n a m).1) ?_ (r.imp (fun _ _ z => z.less sub) (fun b d z => z.mv (fun _ y => y) fun _ _ r => lessA r) fun b z => g1.gw.free b z)) w2
    refine k1.mv (fun o z => g2.gw.keep a o aW z) fun _ _ r => ?_
    refine r.mv (fun b o nb hb => g2.gw.keep b o (fun m => nb (List.mem_cons_of_mem _ (e.bw.sub b m))) hb) g2.gw.tups fun b m => ?_
    rcases List.mem_append.mp (sub b m) with z | z
    · exact .inr (n b z).1
    · exact .inl z
end
end VB
namespace VB
open PySem PySem.Spec PyProof.Rows L2
end VB
namespace VB
open PySem PySem.Spec PyProof.Rows L2
mutual
inductive Sn (K : PySem.W.Frag) (B : List Addr) (H0 H : Hp) : V → D → Prop
  | flt {v : V} {d : D} : Sg K B H v d → d.flt = true → Sn K B H0 H v d
  | tup {a : Addr} {xs : List V} {ds : List D} : H a = some (.tup xs) → SnA K B H0 H xs ds → Sn K B H0 H (.ref a) (.tup ds)
  | lst {a : Addr} {xs : List V} {ds : List D} : H0 a = none → V.ref a ∉ xs → H a = some (.lst xs) → SnA K B H0 H xs ds → Sn K B H0 H (.ref a) (.lst ds)
inductive SnA (K : PySem.W.Frag) (B : List Addr) (H0 H : Hp) : List V → List D → Prop
  | nil : SnA K B H0 H [] []
  | cons {v : V} {vs : List V} {d : D} {ds : List D} : Sn K B H0 H v d → SnA K B H0 H vs ds → SnA K B H0 H (v :: vs) (d :: ds)
end
section
variable {K : PySem.W.Frag} {B W : List Addr} {H0 H H' : Hp}
mutual
theorem Sn.sg (k : ∀ a ∈ B, H0 a ≠ none) : ∀ {v : V} {d : D}, Sn K B H0 H v d → Sg K B H v d
  | _, _, .flt s _ => s
  | _, _, .tup h r => .tup trivial h (SnA.sg k r)
  | _, _, .lst n _ h r => .lst (fun m => k _ m n) h (SnA.sg k r)
theorem SnA.sg (k : ∀ a ∈ B, H0 a ≠ none) : ∀ {vs : List V} {ds : List D}, SnA K B H0 H vs ds → SgA K B H vs ds
  | _, _, .nil => .nil
  | _, _, .cons h r => .cons (Sn.sg k h) (SnA.sg k r)
end
mutual
theorem Sn.back {H1 : Hp} (f : ∀ a, H1 a = none → H0 a = none) : ∀ {v : V} {d : D}, Sn K B H1 H v d → Sn K B H0 H v d
  | _, _, .flt s q => .flt s q
  | _, _, .tup h r => .tup h (SnA.back f r)
  | _, _, .lst n m h r => .lst (f _ n) m h (SnA.back f r)
theorem SnA.back {H1 : Hp} (f : ∀ a, H1 a = none → H0 a = none) : ∀ {vs : List V} {ds : List D}, SnA K B H1 H vs ds → SnA K B H0 H vs ds
  | _, _, .nil => .nil
  | _, _, .cons h r => .cons (Sn.back f h) (SnA.back f r)
end
mutual
theorem Sn.gw (k : ∀ a ∈ B, H0 a ≠ none) (g : Gw B H H') : ∀ {v : V} {d : D}, Sn K B H0 H v d → Sn K B H0 H' v d
  | _, _, .flt s q => .flt (s.gw g) q
  | _, _, .tup h r => .tup (g.tups _ _ h) (SnA.gw k g r)
  | _, _, .lst n m h r => .lst n m (g.keep _ _ (fun z => k _ z n) h) (SnA.gw k g r)
theorem SnA.gw (k : ∀ a ∈ B, H0 a ≠ none) (g : Gw B H H') : ∀ {vs : List V} {ds : List D}, SnA K B H0 H vs ds → SnA K B H0 H' vs ds
  | _, _, .nil => .nil
  | _, _, .cons h r => .cons (Sn.gw k g h) (SnA.gw k g r)
end
mutual
theorem Sn.less {B' : List Addr} (s : ∀ a ∈ B', a ∈ B) : ∀ {v : V} {d : D}, Sn K B H0 H v d → Sn K B' H0 H v d
  | _, _, .flt h q => .flt (h.less s) q
  | _, _, .tup h r => .tup h (SnA.less s r)
  | _, _, .lst n m h r => .lst n m h (SnA.less s r)
theorem SnA.less {B' : List Addr} (s : ∀ a ∈ B', a ∈ B) : ∀ {vs : List V} {ds : List D}, SnA K B H0 H vs ds → SnA K B' H0 H vs ds
  | _, _, .nil => .nil
  | _, _, .cons h r => .cons (Sn.less s h) (SnA.less s r)
end
theorem SnA.append : ∀ {xs ys : List V} {ds es : List D}, SnA K B H0 H xs ds → SnA K B H0 H ys es → SnA K B H0 H (xs ++ ys) (ds ++ es)
  | _, _, _, _, .nil, s => s
  | _, _, _, _, .cons h r, s => .cons h (SnA.append r s)
theorem SnA.length : ∀ {vs : List V} {ds : List D}, SnA K B H0 H vs ds → vs.length = ds.length
  | _, _, .nil => rfl
  | _, _, .cons _ r => congrArg (· + 1) (SnA.length r)
/-- what such a value names is there -/
theorem Sn.kn {a : Addr} {d : D} (s : Sn K B H0 H (.ref a) d) : H a ≠ none := by
  cases s with
  | flt s q =>
    cases s with
    | raw => cases q
    | etup => cases q
    | tup _ h _ => rw [h]; exact fun z => nomatch z
    | lst _ h _ => rw [h]; exact fun z => nomatch z
    | dic _ h _ _ => exact rd_some h
    | dit _ h _ _ => exact rd_some h
    | din _ h _ _ _ => exact rd_some h
    | ins _ h _ _ => rw [h]; exact fun z => nomatch z
  | tup h r => rw [h]; exact fun z => nomatch z
  | lst n m h r => rw [h]; exact fun z => nomatch z
theorem SnA.kn {a : Addr} : ∀ {vs : List V} {ds : List D}, SnA K B H0 H vs ds → V.ref a ∈ vs → H a ≠ none
  | _, _, .cons h r, m => by
    rcases List.mem_cons.mp m with z | z
    · rw [← z] at h
      exact h.kn
    · exact SnA.kn r z
theorem SnA.get : ∀ {vs : List V} {ds : List D} {i : Nat} {d : D}, SnA K B H0 H vs ds → ds[i]? = some d → ∃ v, vs[i]? = some v ∧ Sn K B H0 H v d
  | _, _, _, _, .nil, e => by simp at e
  | _, _, 0, _, .cons h _, e => by simp at e; subst e; exact ⟨_, rfl, h⟩
  | _, _, i + 1, d, .cons _ r, e => by
    obtain ⟨v, h1, h2⟩ := SnA.get (i := i) (d := d) r (by simpa using e)
    exact ⟨v, by simpa using h1, h2⟩
/-- a place that was not there at first is written -/
theorem gs_new {a : Addr} {o u : HO} (na : H0 a = none) (g : Gs W H0 H) (ha : H a = some o) : Gs W H0 (upd H a u) := by
  have ne : ∀ b ob, H0 b = some ob → b ≠ a := fun b ob hb => ne_of_none hb na
  refine ⟨⟨fun b ob nb hb => by rw [upd_ne (ne b ob hb)]; exact g.gw.keep b ob nb hb, fun b hb => ?_, fun b xs hb => by rw [upd_ne (ne b _ hb)]; exact g.gw.tups b xs hb⟩, fun bb mb c ns nc hb => ?_⟩
  · by_cases z : b = a
    · rw [z, upd_same] at hb
      cases hb
    · rw [upd_ne z] at hb
      exact g.gw.free b hb
  · obtain ⟨⟨z, s, k, e1, v1⟩, e2, e3⟩ := g.bag bb mb c ns nc hb
    obtain ⟨⟨z', s', k', e1', _⟩, e2', _⟩ := hb
    exact ⟨⟨z, s, k, by rw [upd_ne (ne bb _ e1')]; exact e1, v1⟩, by rw [upd_ne (ne c _ e2')]; exact e2, e3⟩
end
/-- an expression all of whose lists are new -/
def RY (K : PySem.W.Frag) (te : TE) (ρ : List En) (m : M D) : Prop := ∀ P, wp m P → ∀ (B W : List Addr) (H : Hp) (σ : L2.St), EnvOk K B W H σ ρ → ∀ Q : VK, (∀ v d H', Gs W H H' → Sn K B H H' v d → P d → Q v H') → te σ H Q
def RYs (K : PySem.W.Frag) (ta : TA) (ρ : List En) (A : MA) : Prop := ∀ (α : Type) (k : List D → M α) (P : α → Prop), wp (A α k) P → ∀ (B W : List Addr) (H : Hp) (σ : L2.St), EnvOk K B W H σ ρ → ∀ Q : List V → Hp → Prop, (∀ vs ds H', Gs W H H' → SnA K B H H' vs ds → wp (k ds) P → Q vs H') → ta σ H Q
def D.fltM (d : D) : M D := if d.flt = true then .ret d else .fail
def D.newM (d : D) : M D := match d with
  | .lst ds => if ds.all D.flt = true then .ret (.lst ds) else .fail
  | _ => .fail
section
variable {K : PySem.W.Frag} {R : Po → Prop} {t u v : TS} {ρ : List En} {α : Type} {m m2 md me : M D} {C : Po → α → Prop} {te : TE} {tt : TT} {ta : TA} {A : MA} {mt : M Bool} {i j : Nat} {d : D}
theorem sgA_flt {B : List Addr} {H0 H : Hp} : ∀ {vs : List V} {ds : List D}, SgA K B H vs ds → ds.all D.flt = true → SnA K B H0 H vs ds
  | _, _, .nil, _ => .nil
  | _, _, .cons h r, q => by
    rw [List.all_cons, Bool.and_eq_true] at q
    exact .cons (.flt h q.1) (sgA_flt r q.2)
theorem RY.flt (h : RE K te ρ m) : RY K te ρ (m.bind D.fltM) := fun P w B W H σ e Q q => h _ (wp_bind.mp w) B W H σ e Q fun v d H' g s w1 => by
  obtain ⟨h1, h2⟩ := wp_ite w1
  exact q v d H' g (.flt s h1) h2
theorem RY.new (h : RN K te ρ m) : RY K te ρ (m.bind D.newM) := fun P w B W H σ e Q q => h _ (wp_bind.mp w) B W H σ e Q fun a d H' g n k w1 => by
  cases d with
  | lst ds =>
    obtain ⟨h1, h2⟩ := wp_ite w1
    obtain ⟨xs, hx, r⟩ := k
    have r' := r.less (B' := B) fun x m => List.mem_cons_of_mem _ m
    refine q _ _ H' g (.lst n (fun mm => ?_) hx (sgA_flt r' h1)) h2
    have fl : ∀ {vs : List V} {ds : List D}, SgA K (a :: B) H' vs ds → ds.all D.flt = true → V.ref a ∉ vs := by
      intro vs
      induction vs with
      | nil => exact fun _ _ z => nomatch z
      | cons v vs ih =>
        intro ds s q z
        cases s with
        | cons s1 s2 =>
          rw [List.all_cons, Bool.and_eq_true] at q
          rcases List.mem_cons.mp z with z | z
          · subst z
            cases s1 with
            | tup _ h _ => rw [hx] at h; cases h
            | lst nb _ _ => exact nb (List.mem_cons_self ..)
            | dic nb _ _ _ => exact nb (List.mem_cons_self ..)
            | dit nb _ _ _ => exact nb (List.mem_cons_self ..)
            | din nb _ _ _ _ => exact nb (List.mem_cons_self ..)
            | ins nb _ _ _ => exact nb (List.mem_cons_self ..)
            | raw => cases q.1
            | etup => cases q.1
          · exact ih s2 q.2 z
    exact fl r h1 mm
  | _ => exact w1.elim
theorem RYs.nil : RYs K tNil ρ fun _ k => k [] := fun α k P p B W H σ e Q q => q _ _ H Gs.refl .nil p
theorem RYs.cons {tr : TA} {mr : MA} (ha : RY K te ρ m) (hr : RYs K tr ρ mr) : RYs K (tCons te tr) ρ fun α k => m.bind fun x => mr α fun xs => k (x :: xs) := fun α k P w B W H σ e Q q =>
  ha _ (wp_bind.mp w) B W H σ e _ fun v x H1 g1 s1 w1 => hr α _ P w1 B W H1 σ (e.gs g1) _ fun vs ds H2 g2 s2 w2 =>
    q _ _ H2 (g1.trans g2) (.cons (s1.gw e.bw.kn ((e.gs g1).bw.gw g2)) (s2.back g1.gw.free)) w2
theorem RY.lst (h : RYs K ta ρ A) : RY K (tLst ta) ρ (A D D.lstM) := fun P w B W H σ e Q q => h _ _ _ w B W H σ e _ fun vs ds H1 g1 s1 w1 => by
  obtain ⟨h1, h2⟩ := wp_ite w1
  refine ⟨by rw [sizeLine_eq, s1.length]; exact h1, fun p n => q _ _ _ (g1.trans (Gs.new n)) (.lst (g1.gw.free p n) (fun z => s1.kn z n) upd_same (s1.gw e.bw.kn (Gw.new n))) h2⟩
/-- the block t, the value at i having been made since H0 -/
def GD (K : PySem.W.Frag) (R : Po → Prop) (t : TS) (ρ : List En) (i : Nat) (d : D) {α : Type} (m : M α) (C : Po → α → Prop) : Prop := ∀ P : Po, R P → wp m (C P) → ∀ (F B W : List Addr) (H0 H : Hp) (σ : L2.St) (v : V),
  EnvOk K B W H0 σ (ρ.set i .no) → Fr F B W σ (ρ.set i .no) → Gs W H0 H → Sn K B H0 H v d → σ[i]? = some (some v) → ∀ E : Ends,
  Cn K F W H0 σ (ρ.set i .no) P.nx E.nx → Cr K P.fr F W H0 σ (ρ.set i .no) P.rt E.rt → Cn K F W H0 σ (ρ.set i .no) P.bk E.bk → Cn K F W H0 σ (ρ.set i .no) P.ct E.ct → t E σ H
theorem set_same {σ : L2.St} {v : V} (h : σ[i]? = some (some v)) : σ.set i (some v) = σ := by
  obtain ⟨hl, hv⟩ := List.getElem?_eq_some_iff.mp h
  rw [← hv]
  exact List.set_getElem_self hl
theorem env_dat {B W : List Addr} {H0 H : Hp} {σ : L2.St} {v : V} (e : EnvOk K B W H0 σ (ρ.set i .no)) (g : Gs W H0 H) (s : Sn K B H0 H v d) (h : σ[i]? = some (some v)) : EnvOk K B W H σ (ρ.set i (.dat d)) := by
  have z := (e.gs g).set (i := i) (s.sg e.bw.kn)
  rw [set_same h, List.set_set] at z
  exact z
theorem own_dat {σ : L2.St} {a : Addr} {x : En} (nx : x.isOwn = false) (o : Own σ (ρ.set i x) a) : Own σ (ρ.set i .no) a := by
  obtain ⟨j, o, h1, h2⟩ := o
  obtain ⟨z, h1⟩ := own_set h1 nx
  exact ⟨j, o, by rw [List.getElem?_set_ne z]; exact h1, h2⟩
theorem fr_dat {F B W : List Addr} {σ : L2.St} {x : En} (nx : x.isOwn = false) (f : Fr F B W σ (ρ.set i .no)) : Fr F B W σ (ρ.set i x) := by
  refine ⟨f.fb, fun a m => (f.bf a m).imp id fun o => ?_, fun a m o => f.no a m (own_dat nx o), f.wf⟩
  obtain ⟨j, o, h1, h2⟩ := o
  obtain ⟨z, h1⟩ := own_set h1 rfl
  exact ⟨j, o, by rw [List.getElem?_set_ne z]; exact h1, h2⟩
theorem GD.start {k : D → M α} (hl : i < ρ.length) (he : RY K te ρ md) (h : ∀ d, GD K R u ρ i d (k d) C) : G K R (tSeq (tAsg te (gName i)) u) ρ (md.bind k) C := fun P r w F B W H σ e f E q1 q2 q3 q4 =>
  he _ (wp_bind.mp w) B W H σ e _ fun v d H1 g1 s1 w1 => by
    have e2 : EnvOk K B W H (σ.set i (some v)) (ρ.set i .no) := e.put rfl trivial
    have os : ∀ x, Own (σ.set i (some v)) (ρ.set i .no) x → Own σ ρ x := fun x o => Own.set o rfl
    have bk : ∃ B', (∀ x, x ∈ B' → x ∈ B) ∧ EnvOk K B' W H (σ.set i (some v)) (ρ.set i .no) ∧ Fr F B' W (σ.set i (some v)) (ρ.set i .no) := by
      classical
      have mem : ∀ x, x ∈ B.filter (fun x => decide (x ∈ F ∨ Own (σ.set i (some v)) (ρ.set i .no) x)) ↔ x ∈ B ∧ (x ∈ F ∨ Own (σ.set i (some v)) (ρ.set i .no) x) := fun x => by
        rw [List.mem_filter, decide_eq_true_iff]
      refine ⟨B.filter (fun x => decide (x ∈ F ∨ Own (σ.set i (some v)) (ρ.set i .no) x)), fun x m => ((mem x).mp m).1, e2.back (fun x m => ((mem x).mp m).1) (fun x m => (mem x).mpr ⟨e2.bw.sub x m, .inl (f.wf x m)⟩) (fun x o => (mem x).mpr ⟨(e2.ownB o).1, .inr o⟩), ?_⟩
      exact ⟨fun x m => (mem x).mpr ⟨f.fb x m, .inl m⟩, fun x m => ((mem x).mp m).2, fun a m o => f.no a m (os a o), f.wf⟩
    obtain ⟨B', sb, e3, f3⟩ := bk
    have g : Gu W (Own σ ρ) (Own (σ.set i (some v)) (ρ.set i .no)) H H := .of Gs.refl os
    exact h d P r w1 F B' W H H1 _ v e3 f3 g1 (s1.less sb) (List.getElem?_set_self (by rw [e.len]; exact hl)) E (q1.after g) (q2.after g) (q3.after g) (q4.after g)
/-- it is data from here on -/
theorem GD.dat {m : M α} (h : G K R t (ρ.set i (.dat d)) m C) : GD K R t ρ i d m C := fun P r w F B W H0 H σ v e f g s hi E q1 q2 q3 q4 => by
  have gg : Gu W (Own σ (ρ.set i .no)) (Own σ (ρ.set i (.dat d))) H0 H := .of g fun a o => own_dat rfl o
  exact h P r w F B W H σ (env_dat e g s hi) (fr_dat rfl f) E (q1.after gg) (q2.after gg) (q3.after gg) (q4.after gg)
theorem GD.one {m : M α} (h : GD K R (tSeq t tNext) ρ i d m C) : GD K R t ρ i d m C := h
theorem GD.assoc {m : M α} (h : GD K R (tSeq t (tSeq u v)) ρ i d m C) : GD K R (tSeq (tSeq t u) v) ρ i d m C := h
theorem GD.next {m : M α} (h : GD K R v ρ i d m C) : GD K R (tSeq tNext v) ρ i d m C := h
theorem GD.ifS {m m2 : M α} (ht : RT K tt (ρ.set i (.dat d)) mt) (h1 : GD K R (tSeq t v) ρ i d m C) (h2 : GD K R (tSeq u v) ρ i d m2 C) : GD K R (tSeq (tIfS tt t u) v) ρ i d (mt.bind fun b => if b = true then m else m2) C := fun P r w F B W H0 H σ x e f g s hi E q1 q2 q3 q4 =>
  ht _ (wp_bind.mp w) B W H σ (env_dat e g s hi) _ fun b H1 g1 w1 => by
    have s1 := s.gw e.bw.kn ((e.gs g).bw.gw g1)
    cases b with
    | true => exact h1 P r w1 F B W H0 H1 σ x e f (g.trans g1) s1 hi E q1 q2 q3 q4
    | false => exact h2 P r w1 F B W H0 H1 σ x e f (g.trans g1) s1 hi E q1 q2 q3 q4
def D.addLM (d x : D) : M D := match d, x with
  | .lst xs, .lst ys => if xs.length + ys.length ≤ 16777216 then .ret (.lst (xs ++ ys)) else .fail
  | _, _ => .fail
/-- x = x + [..] -/
theorem GD.add {kk : D → M α} (hl : i < ρ.length) (he : RY K te (ρ.set i (.dat d)) me) (h : ∀ d', GD K R u ρ i d' (kk d') C) : GD K R (tSeq (tAsg (tOp (rAdd K) (tVar i) te) (gName i)) u) ρ i d (me.bind fun x => (D.addLM d x).bind kk) C := fun P r w F B W H0 H σ vx e f g s hi E q1 q2 q3 q4 =>
  ⟨vx, hi, he _ (wp_bind.mp w) B W H σ (env_dat e g s hi) _ fun y x H1 g1 s1 w1 => by
    cases d with
    | lst ds =>
      cases x with
      | lst es =>
        obtain ⟨h1, h2⟩ := wp_ite (wp_bind.mp w1)
        have sx := s.gw e.bw.kn ((e.gs g).bw.gw g1)
        have sy := s1.back g.gw.free
        cases sx with
        | flt _ z => cases z
        | @lst p1 xs1 _ n0 nm hx rx =>
          cases sy with
          | flt _ z => cases z
          | @lst p2 ys1 _ n0' nm' hy ry =>
            refine .inr (.inr (.inl ⟨_, _, _, _, rfl, rfl, hx, hy, by rw [rx.length, ry.length, sizeLine_eq]; exact h1, fun p n => ?_⟩))
            have g2 := (g.trans g1).trans (Gs.new (W := W) (o := .lst (xs1 ++ ys1)) n)
            have rr := (rx.append ry).gw e.bw.kn (Gw.new (W := B) (o := .lst (xs1 ++ ys1)) n)
            have e2 : EnvOk K B W H0 (σ.set i (some (.ref p))) (ρ.set i .no) := by
              have z : EnvOk K B W H0 (σ.set i (some (.ref p))) ((ρ.set i .no).set i .no) := e.put rfl trivial
              rw [List.set_set] at z
              exact z
            have os : ∀ y : List V, ∀ a, Own (σ.set i (some (.ref p))) (ρ.set i .no) a ↔ Own σ (ρ.set i .no) a := fun _ a => by
              constructor
              · rintro ⟨j, o, h1, h2⟩
                obtain ⟨z, h3⟩ := own_set h1 rfl
                rw [List.getElem?_set_ne z] at h2
                exact ⟨j, o, h1, h2⟩
              · rintro ⟨j, o, h1, h2⟩
                obtain ⟨z, h3⟩ := own_set h1 rfl
                exact ⟨j, o, h1, by rw [List.getElem?_set_ne z]; exact h2⟩
            have f2 : Fr F B W (σ.set i (some (.ref p))) (ρ.set i .no) := ⟨f.fb, fun a m => (f.bf a m).imp id fun o => (os [] a).mpr o, fun a m o => f.no a m ((os [] a).mp o), f.wf⟩
            have gg : Gu W (Own σ (ρ.set i .no)) (Own (σ.set i (some (.ref p))) (ρ.set i .no)) H0 H0 := .of Gs.refl fun a o => (os [] a).mp o
            have np : ∀ a o, H0 a = some o → a ≠ p := fun a o z => ne_of_none z ((g.trans g1).gw.free p n)
            refine h _ P r h2 F B W H0 _ _ (.ref p) e2 f2 g2 (.lst ((g.trans g1).gw.free p n) (fun z => (rx.append ry).kn z n) upd_same rr) (List.getElem?_set_self ?_) E (q1.after gg) (q2.after gg) (q3.after gg) (q4.after gg)
            rw [e.len, List.length_set]
            exact hl
      | _ => exact w1.elim
    | _ => exact (show False by cases x <;> exact w1).elim⟩
/-- js: the places of the inner lists, none longer than n -/
def SmJ (B : List Addr) (H0 H : Hp) (js : List Nat) (n : Nat) (v : V) : Prop := ∃ (p : Addr) (xs : List V), v = .ref p ∧ (H p = some (.tup xs) ∨ H p = some (.lst xs) ∧ H0 p = none) ∧ ∀ j ∈ js, ∃ (a : Addr) (ws : List V), xs[j]? = some (.ref a) ∧ H0 a = none ∧ a ≠ p ∧ H a = some (.lst ws) ∧ ws.length ≤ n
def GM (K : PySem.W.Frag) (R : Po → Prop) (t : TS) (ρ : List En) (i : Nat) (js : List Nat) (n : Nat) {α : Type} (m : M α) (C : Po → α → Prop) : Prop := ∀ P : Po, R P → wp m (C P) → ∀ (F B W : List Addr) (H0 H : Hp) (σ : L2.St) (v : V),
  EnvOk K B W H0 σ (ρ.set i .no) → Fr F B W σ (ρ.set i .no) → Gs W H0 H → SmJ B H0 H js n v → σ[i]? = some (some v) → ∀ E : Ends,
  Cn K F W H0 σ (ρ.set i .no) P.nx E.nx → Cr K P.fr F W H0 σ (ρ.set i .no) P.rt E.rt → Cn K F W H0 σ (ρ.set i .no) P.bk E.bk → Cn K F W H0 σ (ρ.set i .no) P.ct E.ct → t E σ H
def D.shp (js : List Nat) (n : Nat) : D → Bool
  | .lst ds => js.all fun j => match ds[j]? with | some (.lst ys) => decide (ys.length ≤ n) | _ => false
  | .tup ds => js.all fun j => match ds[j]? with | some (.lst ys) => decide (ys.length ≤ n) | _ => false
  | _ => false
theorem noLA_all : ∀ {ds : List D}, D.noLA ds = true → ∀ d ∈ ds, d.noL = true
  | _ :: _, h, _, m => by
    have z := noL_and h
    rcases List.mem_cons.mp m with q | q
    · rw [q]; exact z.1
    · exact noLA_all z.2 _ q
theorem shp_at {ds : List D} {j n : Nat} (h : (match ds[j]? with | some (.lst ys) => decide (ys.length ≤ n) | _ => false) = true) : ∃ ys, ds[j]? = some (.lst ys) ∧ ys.length ≤ n := by
  cases e : ds[j]? with
  | none => rw [e] at h; cases h
  | some d =>
    rw [e] at h
    cases d with
    | lst ys => exact ⟨ys, rfl, of_decide_eq_true h⟩
    | _ => cases h
theorem SnA.inner {B : List Addr} {H0 H : Hp} {xs : List V} {ds ys : List D} {j n : Nat} (r : SnA K B H0 H xs ds) (h : ds[j]? = some (.lst ys)) (hn : ys.length ≤ n) : ∃ (a : Addr) (ws : List V), xs[j]? = some (.ref a) ∧ H0 a = none ∧ H a = some (.lst ws) ∧ ws.length ≤ n := by
  obtain ⟨v, ev, s⟩ := r.get h
  cases s with
  | flt _ z => cases z
  | lst n0 _ hx rx => exact ⟨_, _, ev, n0, hx, by rw [rx.length]; exact hn⟩
theorem Sn.sm {B : List Addr} {H0 H : Hp} {v : V} {js : List Nat} {n : Nat} (s : Sn K B H0 H v d) (h : d.shp js n = true) : SmJ B H0 H js n v := by
  cases d with
  | lst ds =>
    cases s with
    | flt _ z => cases z
    | lst n0 nm hx rx =>
      refine ⟨_, _, rfl, .inr ⟨hx, n0⟩, fun j m => ?_⟩
      obtain ⟨ys, e, z⟩ := shp_at (List.all_eq_true.mp h j m)
      obtain ⟨a, ws, h1, h2, h3, h4⟩ := rx.inner e z
      exact ⟨a, ws, h1, h2, fun q => nm (q ▸ List.mem_of_getElem? h1), h3, h4⟩
  | tup ds =>
    cases s with
    | flt s z =>
      cases s with
      | tup _ hx r =>
        refine ⟨_, _, rfl, .inl hx, fun j m => ?_⟩
        obtain ⟨ys, e, _⟩ := shp_at (List.all_eq_true.mp h j m)
        have q := noLA_all z _ (List.mem_of_getElem? e)
        cases q
    | tup hx rx =>
      refine ⟨_, _, rfl, .inl hx, fun j m => ?_⟩
      obtain ⟨ys, e, z⟩ := shp_at (List.all_eq_true.mp h j m)
      obtain ⟨a, ws, h1, h2, h3, h4⟩ := rx.inner e z
      refine ⟨a, ws, h1, h2, fun q => ?_, h3, h4⟩
      rw [q, hx] at h3
      cases h3
  | _ => cases h
theorem SmJ.gs {B W : List Addr} {H0 H H' : Hp} {v : V} {js : List Nat} {n : Nat} (bw : BW B W H0) (g : Gs W H H') (s : SmJ B H0 H js n v) : SmJ B H0 H' js n v := by
  obtain ⟨p, xs, rfl, hp, h⟩ := s
  have kp : ∀ a o, H0 a = none → H a = some o → H' a = some o := fun a o n0 ha => g.gw.keep a o (fun m => bw.kn a (bw.sub a m) n0) ha
  refine ⟨p, xs, rfl, hp.imp (fun z => g.gw.tups _ _ z) fun z => ⟨kp _ _ z.2 z.1, z.2⟩, fun j m => ?_⟩
  obtain ⟨a, ws, h1, h2, h3, h4, h5⟩ := h j m
  exact ⟨a, ws, h1, h2, h3, kp _ _ h2 h4, h5⟩
theorem GM.one {js : List Nat} {n : Nat} {m : M α} (h : GM K R (tSeq t tNext) ρ i js n m C) : GM K R t ρ i js n m C := h
theorem GM.assoc {js : List Nat} {n : Nat} {m : M α} (h : GM K R (tSeq t (tSeq u v)) ρ i js n m C) : GM K R (tSeq (tSeq t u) v) ρ i js n m C := h
theorem GM.next {js : List Nat} {n : Nat} {m : M α} (h : GM K R v ρ i js n m C) : GM K R (tSeq tNext v) ρ i js n m C := h
theorem GM.of {js : List Nat} {n : Nat} {m : M α} (h : GM K R t ρ i js n m C) : GD K R t ρ i d (if d.shp js n = true then m else .fail) C := fun P r w F B W H0 H σ v e f g s hi E q1 q2 q3 q4 => by
  obtain ⟨h1, h2⟩ := wp_ite w
  exact h P r h2 F B W H0 H σ v e f g (s.sm h1) hi E q1 q2 q3 q4
theorem GM.out {js : List Nat} {n : Nat} {m : M α} (h : G K R t (ρ.set i .no) m C) : GM K R t ρ i js n m C := fun P r w F B W H0 H σ v e f g s hi E q1 q2 q3 q4 => by
  have gg : Gu W (Own σ (ρ.set i .no)) (Own σ (ρ.set i .no)) H0 H := .of g fun a o => o
  exact h P r w F B W H σ (e.gs g) f E (q1.after gg) (q2.after gg) (q3.after gg) (q4.after gg)
theorem GD.out {m : M α} (h : G K R t (ρ.set i .no) m C) : GD K R t ρ i d m C := fun P r w F B W H0 H σ v e f g s hi E q1 q2 q3 q4 => by
  have gg : Gu W (Own σ (ρ.set i .no)) (Own σ (ρ.set i .no)) H0 H := .of g fun a o => o
  exact h P r w F B W H σ (e.gs g) f E (q1.after gg) (q2.after gg) (q3.after gg) (q4.after gg)
/-- an operator that looks a place up -/
def IxJ (K : PySem.W.Frag) (r : R2) (k : Int) (j : Nat) : Prop := ∀ (B W : List Addr) (H : Hp) (p a : Addr) (xs : List V), BW B W H → (H p = some (.tup xs) ∨ H p = some (.lst xs) ∧ p ∉ W) → xs[j]? = some (.ref a) → ∀ Q : VK, (∀ H', Gs W H H' → Q (.ref a) H') → r (.ref p) (.int k) H Q
theorem atD_nat {ds : List D} {j : Nat} {x : D} (h : ds[j]? = some x) : atI ds (j : Int) = some x := by
  have hl : j < ds.length := (List.getElem?_eq_some_iff.mp h).1
  unfold atI ixN
  rw [if_pos (Int.natCast_nonneg j), if_pos (by omega)]
  exact h
theorem SmJ.wr {B : List Addr} {H0 H : Hp} {v : V} {js : List Nat} {n n' : Nat} {a : Addr} {ws us : List V} (na : H0 a = none) (ha : H a = some (.lst ws)) (hp : ∀ p, v = .ref p → a ≠ p) (hu : us.length ≤ n') (hn : n ≤ n') (s : SmJ B H0 H js n v) : SmJ B H0 (upd H a (.lst us)) js n' v := by
  obtain ⟨p, xs, rfl, h1, h2⟩ := s
  have ne := hp p rfl
  refine ⟨p, xs, rfl, by rw [upd_ne ne.symm]; exact h1, fun j m => ?_⟩
  obtain ⟨b, wb, k1, k2, k3, k4, k5⟩ := h2 j m
  by_cases z : b = a
  · subst z
    exact ⟨b, us, k1, k2, k3, upd_same, hu⟩
  · exact ⟨b, wb, k1, k2, k3, by rw [upd_ne z]; exact k4, by omega⟩
/-- x[k].append(e) -/
theorem GM.app {r : R2} {k : Int} {js : List Nat} {n : Nat} {m : M α} (hr : IxJ K r k j) (hj : j ∈ js) (hn : n < 16777216) (he : RE K te (ρ.set i .no) me) (h : GM K R u ρ i js (n + 1) m C) :
    GM K R (tSeq (tDrop (tBM K "list" rAppend (tOp r (tVar i) (tC (.int k))) (tCons te tNil))) u) ρ i js n (me.bind fun _ => m) C := fun P rP w F B W H0 H σ v e f g s hi E q1 q2 q3 q4 => by
  obtain ⟨p, xs, rfl, hp, hs⟩ := s
  obtain ⟨a, ws, hx, n0, np, ha, hz⟩ := hs j hj
  have bw := e.bw.gs g
  refine ⟨_, hi, hr B W H p a xs bw (hp.imp id fun z => ⟨z.1, fun m => e.bw.kn p (e.bw.sub p m) z.2⟩) hx _ fun H1 g1 => ?_⟩
  have aW : a ∉ W := fun m => e.bw.kn a (e.bw.sub a m) n0
  have ha1 := g1.gw.keep _ _ aW ha
  refine ⟨tyV_lst ha1, he _ (wp_bind.mp w) B W H1 σ ((e.gs g).gs g1) _ fun x dx H2 g2 sx w1 => ?_⟩
  have ha2 := g2.gw.keep _ _ aW ha1
  refine ⟨a, ws, x, rfl, rfl, ha2, by rw [sizeLine_eq]; omega, ?_⟩
  have s2 : SmJ B H0 H2 js n (.ref p) := SmJ.gs e.bw g2 (SmJ.gs e.bw g1 ⟨p, xs, rfl, hp, hs⟩)
  have g3 := gs_new (u := .lst (ws ++ [x])) n0 ((g.trans g1).trans g2) ha2
  exact h P rP w1 F B W H0 _ σ (.ref p) e f g3 (s2.wr n0 ha2 (fun q z => by cases z; exact np) (by rw [List.length_append, List.length_singleton]; omega) (Nat.le_succ n)) hi E q1 q2 q3 q4
/-- x[k].clear() -/
theorem GM.clr {r : R2} {k : Int} {js : List Nat} {n : Nat} {m : M α} (hr : IxJ K r k j) (hj : j ∈ js) (h : GM K R u ρ i js n m C) :
    GM K R (tSeq (tDrop (tBM0 K "list" rClear (tOp r (tVar i) (tC (.int k))))) u) ρ i js n m C := fun P rP w F B W H0 H σ v e f g s hi E q1 q2 q3 q4 => by
  obtain ⟨p, xs, rfl, hp, hs⟩ := s
  obtain ⟨a, ws, hx, n0, np, ha, hz⟩ := hs j hj
  have bw := e.bw.gs g
  refine ⟨_, hi, hr B W H p a xs bw (hp.imp id fun z => ⟨z.1, fun m => e.bw.kn p (e.bw.sub p m) z.2⟩) hx _ fun H1 g1 => ?_⟩
  have aW : a ∉ W := fun m => e.bw.kn a (e.bw.sub a m) n0
  have ha1 := g1.gw.keep _ _ aW ha
  refine ⟨tyV_lst ha1, a, ws, rfl, rfl, ha1, ?_⟩
  have s2 : SmJ B H0 H1 js n (.ref p) := SmJ.gs e.bw g1 ⟨p, xs, rfl, hp, hs⟩
  have g3 := gs_new (u := .lst []) n0 (g.trans g1) ha1
  exact h P rP w F B W H0 _ σ (.ref p) e f g3 (s2.wr n0 ha1 (fun q z => by cases z; exact np) (Nat.zero_le _) (Nat.le_refl n)) hi E q1 q2 q3 q4
end
end VB
namespace VB
open PySem PySem.Spec PyProof.Rows L2
section
variable {K : PySem.W.Frag} {B W F : List Addr} {H0 H H' : Hp} {N : Addr → Prop}
mutual
theorem Sn.p : ∀ {v : V} {d : D}, Sn K B H0 H v d → SnP K B (fun a => H0 a = none) H v d
  | _, _, .flt s q => .flt s q
  | _, _, .tup h r => .tup h (SnA.p r)
  | _, _, .lst n m h r => .lst n m h (SnA.p r)
theorem SnA.p : ∀ {vs : List V} {ds : List D}, SnA K B H0 H vs ds → SnPA K B (fun a => H0 a = none) H vs ds
  | _, _, .nil => .nil
  | _, _, .cons h r => .cons (Sn.p h) (SnA.p r)
end
mutual
theorem SnP.s (f : ∀ a, N a → H0 a = none) : ∀ {v : V} {d : D}, SnP K B N H v d → Sn K B H0 H v d
  | _, _, .flt s q => .flt s q
  | _, _, .tup h r => .tup h (SnPA.s f r)
  | _, _, .lst n m h r => .lst (f _ n) m h (SnPA.s f r)
theorem SnPA.s (f : ∀ a, N a → H0 a = none) : ∀ {vs : List V} {ds : List D}, SnPA K B N H vs ds → SnA K B H0 H vs ds
  | _, _, .nil => .nil
  | _, _, .cons h r => .cons (SnP.s f h) (SnPA.s f r)
end
mutual
theorem SnP.less {B' : List Addr} (s : ∀ a ∈ B', a ∈ B) : ∀ {v : V} {d : D}, SnP K B N H v d → SnP K B' N H v d
  | _, _, .flt h q => .flt (h.less s) q
  | _, _, .tup h r => .tup h (SnPA.less s r)
  | _, _, .lst n m h r => .lst n m h (SnPA.less s r)
theorem SnPA.less {B' : List Addr} (s : ∀ a ∈ B', a ∈ B) : ∀ {vs : List V} {ds : List D}, SnPA K B N H vs ds → SnPA K B' N H vs ds
  | _, _, .nil => .nil
  | _, _, .cons h r => .cons (SnP.less s h) (SnPA.less s r)
end
mutual
theorem SnP.gs (w : ∀ a ∈ W, a ∈ B) (f : ∀ a, N a → a ∉ W) (g : Gs W H H') : ∀ {v : V} {d : D}, SnP K B N H v d → SnP K B N H' v d
  | _, _, .flt s q => .flt (s.gw (g.gw.mono w)) q
  | _, _, .tup h r => .tup (g.gw.tups _ _ h) (SnPA.gs w f g r)
  | _, _, .lst n m h r => .lst n m (g.gw.keep _ _ (f _ n) h) (SnPA.gs w f g r)
theorem SnPA.gs (w : ∀ a ∈ W, a ∈ B) (f : ∀ a, N a → a ∉ W) (g : Gs W H H') : ∀ {vs : List V} {ds : List D}, SnPA K B N H vs ds → SnPA K B N H' vs ds
  | _, _, .nil => .nil
  | _, _, .cons h r => .cons (SnP.gs w f g h) (SnPA.gs w f g r)
end
theorem SnP.kn {a : Addr} {d : D} (s : SnP K B N H (.ref a) d) : H a ≠ none := by
  cases s with
  | flt s q => exact (Sn.flt (H0 := H) s q).kn
  | tup h r => rw [h]; exact fun z => nomatch z
  | lst n m h r => rw [h]; exact fun z => nomatch z
theorem SnPA.kn {a : Addr} : ∀ {vs : List V} {ds : List D}, SnPA K B N H vs ds → V.ref a ∈ vs → H a ≠ none
  | _, _, .cons h r, m => by
    rcases List.mem_cons.mp m with z | z
    · rw [← z] at h
      exact h.kn
    · exact SnPA.kn r z
theorem SnPA.len : ∀ {vs : List V} {ds : List D}, SnPA K B N H vs ds → vs.length = ds.length
  | _, _, .nil => rfl
  | _, _, .cons _ r => congrArg (· + 1) r.len
end
/-- what is handed back: new lists, and lists of one's own -/
def RZ (K : PySem.W.Frag) (te : TE) (ρ : List En) (m : M D) : Prop := ∀ P, wp m P → ∀ (F B W : List Addr) (H : Hp) (σ : L2.St), EnvOk K B W H σ ρ → Fr F B W σ ρ → ∀ Q : VK, (∀ v d H', Gs W H H' → SnP K F (fun a => Own σ ρ a ∨ H a = none) H' v d → P d → Q v H') → te σ H Q
def RZs (K : PySem.W.Frag) (ta : TA) (ρ : List En) (A : MA) : Prop := ∀ (α : Type) (k : List D → M α) (P : α → Prop), wp (A α k) P → ∀ (F B W : List Addr) (H : Hp) (σ : L2.St), EnvOk K B W H σ ρ → Fr F B W σ ρ → ∀ Q : List V → Hp → Prop, (∀ vs ds H', Gs W H H' → SnPA K F (fun a => Own σ ρ a ∨ H a = none) H' vs ds → wp (k ds) P → Q vs H') → ta σ H Q
section
variable {K : PySem.W.Frag} {R : Po → Prop} {t u v : TS} {ρ : List En} {α : Type} {m m2 md me : M D} {C : Po → α → Prop} {te : TE} {tt : TT} {ta : TA} {A : MA} {mt : M Bool} {i j : Nat} {d : D} {ms : List Md} {E : XK} {l : List D → M D}
theorem RZ.own {tg : Option Addr} (hi : ρ[i]? = some (.own ⟨tg, d⟩)) : RZ K (tVar i) ρ (D.newM d) := fun P w F B W H σ e f Q q => by
  obtain ⟨a, e1, aB, aW, _, k⟩ := e.sl i _ hi
  cases d with
  | lst ds =>
    obtain ⟨h1, h2⟩ := wp_ite w
    obtain ⟨xs, hx, r⟩ := k
    have fl : ∀ {vs : List V} {ds : List D}, SgA K B H vs ds → ds.all D.flt = true → V.ref a ∉ vs := by
      intro vs
      induction vs with
      | nil => exact fun _ _ z => nomatch z
      | cons v vs ih =>
        intro ds s q z
        cases s with
        | cons s1 s2 =>
          rw [List.all_cons, Bool.and_eq_true] at q
          rcases List.mem_cons.mp z with z | z
          · subst z
            cases s1 with
            | tup _ h _ => rw [hx] at h; cases h
            | lst nb _ _ => exact nb aB
            | dic nb _ _ _ => exact nb aB
            | dit nb _ _ _ => exact nb aB
            | din nb _ _ _ _ => exact nb aB
            | ins nb _ _ _ => exact nb aB
            | raw => cases q.1
            | etup => cases q.1
          · exact ih s2 q.2 z
    refine ⟨_, e1, q _ _ H Gs.refl (.lst (.inl ⟨i, _, hi, e1⟩) (fl r h1) hx ?_) h2⟩
    exact SnPA.imp (fun a n => .inr n) (SnA.p (sgA_flt (H0 := H) (r.less f.fb) h1))
  | _ => exact w.elim
theorem RZs.nil : RZs K tNil ρ fun _ k => k [] := fun α k P p F B W H σ e f Q q => q _ _ H Gs.refl .nil p
theorem own_nw {B W : List Addr} {H : Hp} {σ : L2.St} (e : EnvOk K B W H σ ρ) : ∀ a, (Own σ ρ a ∨ H a = none) → a ∉ W := fun a n m => n.elim (fun o => (e.ownB o).2.1 m) fun n => e.bw.kn a (e.bw.sub a m) n
theorem RZs.cons {tr : TA} {mr : MA} (ha : RZ K te ρ m) (hr : RZs K tr ρ mr) : RZs K (tCons te tr) ρ fun α k => m.bind fun x => mr α fun xs => k (x :: xs) := fun α k P w F B W H σ e f Q q =>
  ha _ (wp_bind.mp w) F B W H σ e f _ fun v x H1 g1 s1 w1 => hr α _ P w1 F B W H1 σ (e.gs g1) f _ fun vs ds H2 g2 s2 w2 =>
    q _ _ H2 (g1.trans g2) (.cons (SnP.gs f.wf (own_nw e) g2 s1) (SnPA.imp (fun a n => n.imp id (g1.gw.free a)) s2)) w2
theorem RZ.tup (h : RZs K ta ρ A) : RZ K (tTup ta) ρ (A D D.tupM) := fun P w F B W H σ e f Q q => h _ _ _ w F B W H σ e f _ fun vs ds H1 g1 s1 w1 => by
  obtain ⟨h1, h2⟩ := wp_ite w1
  exact ⟨by rw [sizeLine_eq, s1.len]; exact h1, fun p n => q _ _ _ (g1.trans (Gs.new n)) (.tup upd_same (SnPA.gs f.wf (own_nw e) (Gs.new n) s1)) h2⟩
theorem RZ.lst (h : RZs K ta ρ A) : RZ K (tLst ta) ρ (A D D.lstM) := fun P w F B W H σ e f Q q => h _ _ _ w F B W H σ e f _ fun vs ds H1 g1 s1 w1 => by
  obtain ⟨h1, h2⟩ := wp_ite w1
  exact ⟨by rw [sizeLine_eq, s1.len]; exact h1, fun p n => q _ _ _ (g1.trans (Gs.new n)) (.lst (.inr (g1.gw.free p n)) (fun z => s1.kn z n) upd_same (SnPA.gs f.wf (own_nw e) (Gs.new n) s1)) h2⟩
theorem RYs.tup (h : RYs K ta ρ A) : RY K (tTup ta) ρ (A D D.tupM) := fun P w B W H σ e Q q => h _ _ _ w B W H σ e _ fun vs ds H1 g1 s1 w1 => by
  obtain ⟨h1, h2⟩ := wp_ite w1
  exact ⟨by rw [sizeLine_eq, s1.length]; exact h1, fun p n => q _ _ _ (g1.trans (Gs.new n)) (.tup upd_same (s1.gw e.bw.kn (Gw.new n))) h2⟩
/-- the promise -/
def spMY (K : PySem.W.Frag) (ms : List Md) (m : List D → M D) : Sp := fun vs H Q _ => ∃ (B W : List Addr) (ds : List D) (P : D → Prop), BW B W H ∧ AmA K B W H ms vs ds ∧ wp (m ds) P ∧ ∀ v d H', Gs W H H' → Sn K B H H' v d → P d → Q v H'
theorem RY.call {tl : TA} (h : RAm K tl ρ ms A) : RY K (tCall (spMY K ms l) [] E tl) ρ (A D l) := fun P w B W H σ e Q q => h D l P w B W H σ e _ fun vs ds H1 g1 s1 w1 =>
  ⟨B, W, ds, P, (e.gs g1).bw, by rw [List.append_nil]; exact s1, w1, fun v d H2 g2 n p => q v d H2 (g1.trans g2) (n.back g1.gw.free) p⟩
theorem RY.re (h : RY K te ρ m) : RE K te ρ m := fun P w B W H σ e Q q => h P w B W H σ e Q fun v d H' g n p => q v d H' g (n.sg e.bw.kn) p
end
end VB
namespace VB
open PySem PySem.Spec PyProof.Rows L2
section
variable {K : PySem.W.Frag} {B W F : List Addr} {H0 H1 H H' : Hp} {σ : L2.St} {ρ : List En}
mutual
theorem Sn.wrt {a : Addr} {ws us : List V} (ha : H a = some (.lst ws)) (na : H1 a ≠ none) : ∀ {v : V} {d : D}, Sn K B H1 H v d → Sn K B H1 (upd H a (.lst us)) v d
  | _, _, .flt s q => .flt (s.chg (fun b o hb nl => by
      have ne : b ≠ a := fun z => by
        rw [z, ha] at hb
        cases hb
        exact nl _ rfl
      rw [upd_ne ne]
      exact hb) (flt_noL q)) q
  | _, _, .tup h r => .tup (by
      rw [upd_ne (fun z => by
        rw [z, ha] at h
        cases h)]
      exact h) (SnA.wrt ha na r)
  | _, _, .lst n m h r => .lst n m (by
      rw [upd_ne (fun z => by
        subst z
        exact na n)]
      exact h) (SnA.wrt ha na r)
theorem SnA.wrt {a : Addr} {ws us : List V} (ha : H a = some (.lst ws)) (na : H1 a ≠ none) : ∀ {vs : List V} {ds : List D}, SnA K B H1 H vs ds → SnA K B H1 (upd H a (.lst us)) vs ds
  | _, _, .nil => .nil
  | _, _, .cons h r => .cons (Sn.wrt ha na h) (SnA.wrt ha na r)
end
open Classical in
theorem EnvOk.fixS (e : EnvOk K B W H σ ρ) (fb : ∀ a ∈ F, a ∈ B) (no : ∀ a ∈ F, ¬ Own σ ρ a) (wf : ∀ a ∈ W, a ∈ F) : ∃ B', (∀ a ∈ B', a ∈ B) ∧ EnvOk K B' W H σ ρ ∧ Fr F B' W σ ρ := by
  have mem : ∀ x, x ∈ B.filter (fun x => decide (x ∈ F ∨ Own σ ρ x)) ↔ x ∈ B ∧ (x ∈ F ∨ Own σ ρ x) := fun x => by
    rw [List.mem_filter, decide_eq_true_iff]
  refine ⟨B.filter (fun x => decide (x ∈ F ∨ Own σ ρ x)), fun x m => ((mem x).mp m).1, e.back (fun x m => ((mem x).mp m).1) (fun x m => (mem x).mpr ⟨e.bw.sub x m, .inl (wf x m)⟩) (fun x o => (mem x).mpr ⟨(e.ownB o).1, .inr o⟩), ?_⟩
  exact ⟨fun x m => (mem x).mpr ⟨fb x m, .inl m⟩, fun x m => ((mem x).mp m).2, no, wf⟩
def SmK (H0 H1 H : Hp) (js : List Nat) (n : Nat) (v : V) : Prop := ∃ (p : Addr) (xs : List V), v = .ref p ∧ (H p = some (.tup xs) ∨ H p = some (.lst xs) ∧ H0 p = none) ∧ ∀ j ∈ js, ∃ (a : Addr) (ws : List V), xs[j]? = some (.ref a) ∧ H0 a = none ∧ H1 a ≠ none ∧ a ≠ p ∧ H a = some (.lst ws) ∧ ws.length ≤ n
theorem SmJ.k {v : V} {js : List Nat} {n : Nat} (s : SmJ B H0 H js n v) : SmK H0 H H js n v := by
  obtain ⟨p, xs, e, h, q⟩ := s
  refine ⟨p, xs, e, h, fun j m => ?_⟩
  obtain ⟨a, ws, h1, h2, h3, h4, h5⟩ := q j m
  exact ⟨a, ws, h1, h2, (by rw [h4]; exact fun z => nomatch z), h3, h4, h5⟩
theorem SmK.gs {v : V} {js : List Nat} {n : Nat} (bw : BW B W H0) (g : Gs W H H') (s : SmK H0 H1 H js n v) : SmK H0 H1 H' js n v := by
  obtain ⟨p, xs, rfl, hp, h⟩ := s
  have kp : ∀ a o, H0 a = none → H a = some o → H' a = some o := fun a o n0 ha => g.gw.keep a o (fun m => bw.kn a (bw.sub a m) n0) ha
  refine ⟨p, xs, rfl, hp.imp (fun z => g.gw.tups _ _ z) fun z => ⟨kp _ _ z.2 z.1, z.2⟩, fun j m => ?_⟩
  obtain ⟨a, ws, h1, h2, h3, h4, h5, h6⟩ := h j m
  exact ⟨a, ws, h1, h2, h3, h4, kp _ _ h2 h5, h6⟩
theorem SmK.wr {v : V} {js : List Nat} {n n' : Nat} {a : Addr} {ws us : List V} (ha : H a = some (.lst ws)) (hp : ∀ p, v = .ref p → a ≠ p) (hu : us.length ≤ n') (hn : n ≤ n') (s : SmK H0 H1 H js n v) : SmK H0 H1 (upd H a (.lst us)) js n' v := by
  obtain ⟨p, xs, rfl, h1, h2⟩ := s
  have ne := hp p rfl
  refine ⟨p, xs, rfl, by rw [upd_ne ne.symm]; exact h1, fun j m => ?_⟩
  obtain ⟨b, wb, k1, k2, k3, k4, k5, k6⟩ := h2 j m
  by_cases z : b = a
  · subst z
    exact ⟨b, us, k1, k2, k3, k4, upd_same, hu⟩
  · exact ⟨b, wb, k1, k2, k3, k4, by rw [upd_ne z]; exact k5, by omega⟩
end
/-- i: the value, its lists at js are changed; k: what was read of it -/
def GN (K : PySem.W.Frag) (R : Po → Prop) (t : TS) (ρ : List En) (i : Nat) (js : List Nat) (n : Nat) (k : Nat) (d2 : D) {α : Type} (m : M α) (C : Po → α → Prop) : Prop := ∀ P : Po, R P → wp m (C P) → ∀ (F B W : List Addr) (H0 H1 H : Hp) (σ : L2.St) (v v2 : V),
  EnvOk K B W H0 σ ((ρ.set i .no).set k .no) → Fr F B W σ ((ρ.set i .no).set k .no) → Gs W H0 H → (∀ a, H1 a = none → H0 a = none) → SmK H0 H1 H js n v → Sn K B H1 H v2 d2 → σ[i]? = some (some v) → σ[k]? = some (some v2) → ∀ E : Ends,
  Cn K F W H0 σ ((ρ.set i .no).set k .no) P.nx E.nx → Cr K P.fr F W H0 σ ((ρ.set i .no).set k .no) P.rt E.rt → Cn K F W H0 σ ((ρ.set i .no).set k .no) P.bk E.bk → Cn K F W H0 σ ((ρ.set i .no).set k .no) P.ct E.ct → t E σ H
section
variable {K : PySem.W.Frag} {R : Po → Prop} {t u v : TS} {ρ : List En} {α : Type} {m m2 md me : M D} {C : Po → α → Prop} {te : TE} {tt : TT} {ta : TA} {A : MA} {mt : M Bool} {i j k : Nat} {d d2 : D} {js : List Nat} {n : Nat} {mm : M α}
theorem GD.keep {kk : D → M α} (hk : k ≠ i) (hl : k < ρ.length) (he : RY K te (ρ.set i (.dat d)) me) (h : ∀ d2, GN K R u ρ i js n k d2 (kk d2) C) : GD K R (tSeq (tAsg te (gName k)) u) ρ i d (me.bind fun x => if d.shp js n = true then kk x else .fail) C := fun P r w F B W H0 H σ v e f g s hi E q1 q2 q3 q4 => by
  refine he _ (wp_bind.mp w) B W H σ (env_dat e g s hi) _ fun v2 x H2 g2 s2 w2 => ?_
  obtain ⟨hs, w3⟩ := wp_ite w2
  have e2 : EnvOk K B W H0 (σ.set k (some v2)) ((ρ.set i .no).set k .no) := e.put rfl trivial
  have os : ∀ x, Own (σ.set k (some v2)) ((ρ.set i .no).set k .no) x → Own σ (ρ.set i .no) x := fun x o => Own.set o rfl
  obtain ⟨B', sb, e3, f3⟩ := e2.fixS f.fb (fun a m o => f.no a m (os a o)) f.wf
  have gg : Gu W (Own σ (ρ.set i .no)) (Own (σ.set k (some v2)) ((ρ.set i .no).set k .no)) H0 H0 := .of Gs.refl os
  exact h x P r w3 F B' W H0 H H2 _ v v2 e3 f3 (g.trans g2) g.gw.free ((s.sm hs).k.gs e.bw g2) (s2.less sb) (by rw [List.getElem?_set_ne hk]; exact hi) (List.getElem?_set_self (by rw [e.len, List.length_set]; exact hl)) E (q1.after gg) (q2.after gg) (q3.after gg) (q4.after gg)
theorem GN.one (h : GN K R (tSeq t tNext) ρ i js n k d2 mm C) : GN K R t ρ i js n k d2 mm C := h
theorem GN.assoc (h : GN K R (tSeq t (tSeq u v)) ρ i js n k d2 mm C) : GN K R (tSeq (tSeq t u) v) ρ i js n k d2 mm C := h
theorem GN.next (h : GN K R v ρ i js n k d2 mm C) : GN K R (tSeq tNext v) ρ i js n k d2 mm C := h
theorem GN.out (h : G K R t ((ρ.set i .no).set k (.dat d2)) mm C) : GN K R t ρ i js n k d2 mm C := fun P r w F B W H0 H1 H σ v v2 e f g f1 s s2 hi hk E q1 q2 q3 q4 => by
  have z := (e.gs g).set (i := k) (s2.sg fun a m n => e.bw.kn a m (f1 a n))
  rw [set_same hk, List.set_set] at z
  have od : ∀ a, Own σ ((ρ.set i .no).set k (.dat d2)) a → Own σ ((ρ.set i .no).set k .no) a := fun a o => own_dat rfl o
  have ou : ∀ a, Own σ ((ρ.set i .no).set k .no) a → Own σ ((ρ.set i .no).set k (.dat d2)) a := fun a ⟨j, o, h1, h2⟩ => by
    obtain ⟨z, h1⟩ := own_set h1 rfl
    exact ⟨j, o, by rw [List.getElem?_set_ne z]; exact h1, h2⟩
  have gg : Gu W (Own σ ((ρ.set i .no).set k .no)) (Own σ ((ρ.set i .no).set k (.dat d2))) H0 H := .of g od
  exact h P r w F B W H σ z ⟨f.fb, fun a m => (f.bf a m).imp id (ou a), fun a m o => f.no a m (od a o), f.wf⟩ E (q1.after gg) (q2.after gg) (q3.after gg) (q4.after gg)
theorem GN.app {r : R2} {q : Int} (hr : IxJ K r q j) (hj : j ∈ js) (hn : n < 16777216) (he : RE K te ((ρ.set i .no).set k .no) me) (h : GN K R u ρ i js (n + 1) k d2 mm C) :
    GN K R (tSeq (tDrop (tBM K "list" rAppend (tOp r (tVar i) (tC (.int q))) (tCons te tNil))) u) ρ i js n k d2 (me.bind fun _ => mm) C := fun P rP w F B W H0 H1 H σ v v2 e f g f1 s s2 hi hk E q1 q2 q3 q4 => by
  obtain ⟨p, xs, rfl, hp, hs⟩ := s
  obtain ⟨a, ws, hx, n0, n1, np, ha, hz⟩ := hs j hj
  have bw := e.bw.gs g
  have kB : ∀ b ∈ B, H1 b ≠ none := fun a m n => e.bw.kn a m (f1 a n)
  refine ⟨_, hi, hr B W H p a xs bw (hp.imp id fun z => ⟨z.1, fun m => e.bw.kn p (e.bw.sub p m) z.2⟩) hx _ fun H3 g3 => ?_⟩
  have aW : a ∉ W := fun m => e.bw.kn a (e.bw.sub a m) n0
  have ha1 := g3.gw.keep _ _ aW ha
  refine ⟨tyV_lst ha1, he _ (wp_bind.mp w) B W H3 σ ((e.gs g).gs g3) _ fun x dx H2 g2 sx w1 => ?_⟩
  have ha2 := g2.gw.keep _ _ aW ha1
  refine ⟨a, ws, x, rfl, rfl, ha2, by rw [sizeLine_eq]; omega, ?_⟩
  have s3 : SmK H0 H1 H2 js n (.ref p) := SmK.gs e.bw (g3.trans g2) ⟨p, xs, rfl, hp, hs⟩
  have g4 := gs_new (u := .lst (ws ++ [x])) n0 ((g.trans g3).trans g2) ha2
  exact h P rP w1 F B W H0 H1 _ σ (.ref p) v2 e f g4 f1 (s3.wr ha2 (fun q z => by cases z; exact np) (by rw [List.length_append, List.length_singleton]; omega) (Nat.le_succ n)) ((s2.gw kB (bw.gw (g3.trans g2))).wrt ha2 n1) hi hk E q1 q2 q3 q4
theorem GN.clr {r : R2} {q : Int} (hr : IxJ K r q j) (hj : j ∈ js) (h : GN K R u ρ i js n k d2 mm C) :
    GN K R (tSeq (tDrop (tBM0 K "list" rClear (tOp r (tVar i) (tC (.int q))))) u) ρ i js n k d2 mm C := fun P rP w F B W H0 H1 H σ v v2 e f g f1 s s2 hi hk E q1 q2 q3 q4 => by
  obtain ⟨p, xs, rfl, hp, hs⟩ := s
  obtain ⟨a, ws, hx, n0, n1, np, ha, hz⟩ := hs j hj
  have bw := e.bw.gs g
  have kB : ∀ b ∈ B, H1 b ≠ none := fun a m n => e.bw.kn a m (f1 a n)
  refine ⟨_, hi, hr B W H p a xs bw (hp.imp id fun z => ⟨z.1, fun m => e.bw.kn p (e.bw.sub p m) z.2⟩) hx _ fun H3 g3 => ?_⟩
  have aW : a ∉ W := fun m => e.bw.kn a (e.bw.sub a m) n0
  have ha1 := g3.gw.keep _ _ aW ha
  refine ⟨tyV_lst ha1, a, ws, rfl, rfl, ha1, ?_⟩
  have s3 : SmK H0 H1 H3 js n (.ref p) := SmK.gs e.bw g3 ⟨p, xs, rfl, hp, hs⟩
  have g4 := gs_new (u := .lst []) n0 (g.trans g3) ha1
  exact h P rP w F B W H0 H1 _ σ (.ref p) v2 e f g4 f1 (s3.wr ha1 (fun q z => by cases z; exact np) (Nat.zero_le _) (Nat.le_refl n)) ((s2.gw kB (bw.gw g3)).wrt ha1 n1) hi hk E q1 q2 q3 q4
variable {ms : List Md} {E : XK} {l : List D → M D} {mr : M D}
end
end VB
namespace VB
open PySem PySem.Spec PyProof.Rows L2
section
variable {K : PySem.W.Frag} {B W : List Addr} {H H' : Hp} {σ : L2.St} {ρ : List En}
/-- places of B that no slot names are written -/
theorem EnvOk.kp {U : Addr → Prop} (h : EnvOk K B W H σ ρ) (k : ∀ a o, ¬ U a → H a = some o → H' a = some o) (f : ∀ a, H' a = none → H a = none) (nt : ∀ a, U a → ∃ xs, H a = some (.lst xs)) (ub : ∀ a, U a → a ∈ B ∧ a ∉ W ∧ ¬ Own σ ρ a ∧ ¬ Bor σ ρ a) : EnvOk K B W H' σ ρ := by
  have g : Gw B H H' := ⟨fun a o n e => k a o (fun u => n (ub a u).1) e, f, fun a xs e => k a _ (fun u => by
    obtain ⟨ys, z⟩ := nt a u
    rw [e] at z
    cases z) e⟩
  refine ⟨⟨h.bw.sub, fun a ma z => h.bw.kn a ma (f a z)⟩, h.len, fun i e q => ?_, h.one, h.sep⟩
  have r := h.sl i e q
  cases e with
  | no => trivial
  | dat d =>
    obtain ⟨v, e1, s⟩ := r
    exact ⟨v, e1, s.gw g⟩
  | bag b =>
    obtain ⟨e1, mb, c, ns, nc, hb⟩ := r
    obtain ⟨⟨z, s, i, eb, v⟩, ec, hn⟩ := hb
    exact ⟨e1, mb, c, ns, nc, ⟨z, s, i, k _ _ (fun u => (ub _ u).2.1 mb) eb, v⟩, k _ _ (fun u => nc (ub _ u).1) ec, hn⟩
  | own d =>
    obtain ⟨a, e1, ma, nw, kk⟩ := r
    exact ⟨a, e1, ma, nw, kk.mv (fun o z => k _ _ (fun u => (ub _ u).2.2.1 ⟨i, d, q, e1⟩) z) fun _ _ r => r.gw g⟩
  | bor d =>
    obtain ⟨v, e1, kk⟩ := r
    have go : ∀ {a o}, v = .ref a → d.isRoot = true → H a = some o → H' a = some o := fun e hr h => k _ _ (fun u => (ub _ u).2.2.2 ⟨i, d, q, hr, by rw [e1, e]⟩) h
    refine ⟨v, e1, ?_⟩
    cases d with
    | lst ds =>
      obtain ⟨a, xs, e, n, h, r⟩ := kk
      exact ⟨a, xs, e, n, go e rfl h, r.gw g⟩
    | dic ks ds =>
      obtain ⟨a, xs, e, n, h, k, r⟩ := kk
      exact ⟨a, xs, e, n, rd_map h fun o => go e rfl, k, r.gw g⟩
    | dit ks ds =>
      obtain ⟨a, xs, e, n, h, k, r⟩ := kk
      exact ⟨a, xs, e, n, rd_map h fun o => go e rfl, k, r.gw g⟩
    | ins C ks ds =>
      obtain ⟨a, dx, xs, e, n, h, k, r⟩ := kk
      exact ⟨a, dx, xs, e, n, go e rfl h, k, r.gw g⟩
    | din w kk2 ks ds =>
      obtain ⟨a, xs, e, n, h, k, q, r⟩ := kk
      exact ⟨a, xs, e, n, rd_map h fun o => go e rfl, k, q.gw g, r.gw g⟩
    | non => exact Sg.gw g kk
    | bl b => exact Sg.gw g kk
    | int b => exact Sg.gw g kk
    | str b => exact Sg.gw g kk
    | ty b => exact Sg.gw g kk
    | raw b => exact Sg.gw g kk
    | tup b => exact Sg.gw g kk
    | etup => exact Sg.gw g kk
end
section
variable {K : PySem.W.Frag} {R : Po → Prop} {u : TS} {ρ : List En} {α : Type} {m : M α} {C : Po → α → Prop} {te : TE} {tt : TT} {mt : D → M Bool} {i j q : Nat} {x y : D} {sx : Str}
/-- such a value is data for a while, where what comes of it names no place -/
def D.plainM (d : D) : M D := match d with
  | .non => .ret .non
  | .bl b => .ret (.bl b)
  | .int k => .ret (.int k)
  | .str s => .ret (.str s)
  | _ => .fail
theorem RE.frz {m : M D} (hi : ρ[i]? = some (En.of x)) (h : RE K te (ρ.set i (.dat x)) m) : RE K te ρ (m.bind D.plainM) := fun P w B W H σ e Q q => by
  cases er : x.isRoot with
  | true =>
    have eo : En.of x = .own ⟨none, x⟩ := by
      unfold En.of
      rw [er]
    rw [eo] at hi
    obtain ⟨a, B', e1, mem, e2⟩ := e.frz hi
    refine h _ (wp_bind.mp w) B' W H σ e2 Q fun v d H' g s w1 => ?_
    cases d with
    | non => cases s; exact q _ _ H' g .non w1
    | bl b => cases s; exact q _ _ H' g (.bl b) w1
    | int b => cases s; exact q _ _ H' g (.int b) w1
    | str b => cases s; exact q _ _ H' g (.str b) w1
    | _ => exact w1.elim
  | false =>
    have eo : En.of x = .dat x := by
      unfold En.of
      rw [er]
    rw [eo] at hi
    have er : ρ.set i (.dat x) = ρ := by
      obtain ⟨hl, hv⟩ := List.getElem?_eq_some_iff.mp hi
      rw [← hv]
      exact List.set_getElem_self hl
    rw [er] at h
    refine h _ (wp_bind.mp w) B W H σ e Q fun v d H' g s w1 => ?_
    cases d with
    | non => exact q _ _ H' g s w1
    | bl b => exact q _ _ H' g s w1
    | int b => exact q _ _ H' g s w1
    | str b => exact q _ _ H' g s w1
    | _ => exact w1.elim
end
end VB
namespace VB
open PySem PySem.Spec PyProof.Rows L2
end VB
namespace VB
open PySem PySem.Spec PyProof.Rows L2
end VB
namespace VB
open PySem PySem.Spec PyProof.Rows L2
end VB
namespace VB
open PySem PySem.Spec PyProof.Rows L2
section
variable {P : Program} {w : World}
def ClsAt (P : Program) (w : World) (n : Nat) (s : Shared) (v : Value) : Prop := ∀ (A : Around) (E : Value → Shared → Prop) (Q : Bool → Shared → Prop), Q false s → wpAny (model P w) A (ofAClassStatement n v) Q E s
def HshAt (P : Program) (w : World) (n : Nat) (s : Shared) (v : Value) : Prop := ∀ (A : Around) (E : Value → Shared → Prop) (Q : Bool → Shared → Prop), (∀ c, Q c s) → wpAny (model P w) A (hashByValue n v) Q E s
theorem ClsAt.tuple {n : Nat} {s : Shared} {a : Addr} {o : Obj} {vs : Array Value} {m : Nat} (ho : s.heap.get? a = some o) (hc : o.cls = .type "tuple") (hd : o.data = .seq vs m) (hq : ∀ v ∈ vs.toList, ClsAt P w n s v) : ClsAt P w (n + 1) s (.ref a) := fun A E Q q => by
  have hT : s.TypeIs (.ref a) "tuple" := ⟨o, ho, hc⟩
  have tq : (("tuple" : String) == "tuple") = true := by decide
  unfold ofAClassStatement
  refine wpAny_bind (wpAny_typeOf hT ?_)
  dsimp only
  simp only [tq, if_true, Bool.not_true, Bool.false_eq_true, if_false]
  try refine wpAny_bind (wpAny_pure ?_)
  try simp only [Bool.not_true, Bool.false_eq_true, if_false]
  show wpAny _ _ (seqItems? (.ref a) >>= _) _ _ s
  refine wpAny_bind (wpAny_seqItems ho hd ?_)
  dsimp only
  refine wpAny_bind ?_
  show wpAny _ _ (forIn vs _ _) _ _ s
  rw [← Array.forIn_toList]
  refine wpAny_forIn_list _ (fun more st s1 => st.1 = none ∧ s1 = s ∧ ∀ v ∈ more, ClsAt P w n s v) _ ?_ ?_ _ _ ⟨rfl, rfl, hq⟩
  · rintro v more st s1 ⟨hn, rfl, pl⟩
    refine wpAny_bind (pl v (List.mem_cons_self ..) _ _ _ ?_)
    simp only [Bool.false_eq_true, if_false]
    exact wpAny_pure ⟨rfl, rfl, fun u m => pl u (List.mem_cons_of_mem _ m)⟩
  · rintro ⟨z, y⟩ s1 ⟨hn, rfl, _⟩
    simp only at hn
    subst hn
    exact wpAny_pure q
theorem HshAt.tuple {n : Nat} {s : Shared} {a : Addr} {o : Obj} {vs : Array Value} {m : Nat} (ho : s.heap.get? a = some o) (hc : o.cls = .type "tuple") (hd : o.data = .seq vs m) (hq : ∀ v ∈ vs.toList, HshAt P w n s v) : HshAt P w (n + 1) s (.ref a) := fun A E Q q => by
  have hT : s.TypeIs (.ref a) "tuple" := ⟨o, ho, hc⟩
  unfold hashByValue
  refine wpAny_bind (wpAny_specialOf hT PySem.F.slot_tuple_hash.lookup ?_)
  show wpAny _ _ (seqItems? (.ref a) >>= _) _ _ s
  refine wpAny_bind (wpAny_seqItems ho hd ?_)
  refine wpAny_bind ?_
  show wpAny _ _ (forIn vs _ _) _ _ s
  rw [← Array.forIn_toList]
  refine wpAny_forIn_list _ (fun more st s1 => st.1 = none ∧ s1 = s ∧ ∀ v ∈ more, HshAt P w n s v) _ ?_ ?_ _ _ ⟨rfl, rfl, hq⟩
  · rintro v more st s1 ⟨hn, rfl, pl⟩
    refine wpAny_bind (pl v (List.mem_cons_self ..) _ _ _ fun c => ?_)
    cases c with
    | true =>
      simp only [Bool.not_true, Bool.false_eq_true, if_false]
      exact wpAny_pure ⟨rfl, rfl, fun u m => pl u (List.mem_cons_of_mem _ m)⟩
    | false =>
      simp only [Bool.not_false, if_true]
      first
        | exact wpAny_pure (wpAny_pure (q false))
        | exact wpAny_bind (wpAny_pure (wpAny_pure (wpAny_pure (q false))))
        | exact wpAny_bind (wpAny_pure (wpAny_pure (q false)))
  · rintro ⟨z, y⟩ s1 ⟨hn, rfl, _⟩
    simp only at hn
    subst hn
    exact wpAny_pure (q true)
theorem ClsAt.plain {n : Nat} {s : Shared} {v : Value} (h : ofAClassStatement n v = pure false) : ClsAt P w n s v := fun A E Q q => by
  rw [h]
  exact wpAny_pure q
theorem HshAt.plain {n : Nat} {s : Shared} {v : Value} {b : Bool} (h : hashByValue n v = pure b) : HshAt P w n s v := fun A E Q q => by
  rw [h]
  exact wpAny_pure (q b)
end
mutual
def pk : PyData → Option NestedKey
  | .none => some .none
  | .bool b => some (.num (if b = true then 1 else 0))
  | .int i => some (.num i)
  | .str x => some (.text x)
  | .tuple xs => (pkA xs).map .tup
  | .list _ => none
  | .dict _ => none
def pkA : List PyData → Option (List NestedKey)
  | [] => some []
  | x :: xs => (pk x).bind fun k => (pkA xs).map (k :: ·)
end
section
variable {X : Cx} {pins : List (Addr × Obj)} {σ : L2.St} {H : Hp} {s : Shared}
mutual
theorem Dp.nested (I : Inv X pins σ H s) : ∀ (d : PyData) (v : V) (u : Value) (k : NestedKey), Dp X.K H v d → RelV v u → pk d = some k → NestedIs s.heap k u
  | .none, _, _, _, h, r, e => by
    cases h
    cases r
    cases e
    exact .none
  | .bool b, _, _, _, h, r, e => by
    cases h
    cases r
    cases e
    exact .bool rfl
  | .int i, _, _, _, h, r, e => by
    cases h
    obtain ⟨t, rfl⟩ := r
    cases e
    exact .int i t
  | .str x, _, _, _, h, r, e => by
    cases h
    obtain ⟨t, rfl⟩ := r
    cases e
    exact .text x t
  | .tuple ds, _, _, _, h, r, e => by
    obtain ⟨ks, ek, rfl⟩ := Option.map_eq_some_iff.mp (show (pkA ds).map NestedKey.tup = some _ from e)
    cases h with
    | tup hq hd =>
      cases r
      obtain ⟨its, rv, ⟨o, ho, hc, n, hdt⟩, _⟩ := I.tuple hq
      exact .tup ho hc hdt (by simpa using DpAll.nested I ds _ _ _ hd rv ek)
  | .list ds, _, _, _, h, r, e => nomatch e
  | .dict ds, _, _, _, h, r, e => nomatch e
theorem DpAll.nested (I : Inv X pins σ H s) : ∀ (ds : List PyData) (vs : List V) (us : List Value) (ks : List NestedKey), DpAll X.K H vs ds → Vals vs us → pkA ds = some ks → NestedAll s.heap ks us
  | [], _, _, _, h, r, e => by
    cases h
    cases r
    cases e
    exact .nil
  | d :: ds, _, _, _, h, r, e => by
    obtain ⟨k, ek, e2⟩ := Option.bind_eq_some_iff.mp (show (pk d).bind (fun k => (pkA ds).map (k :: ·)) = some _ from e)
    obtain ⟨ks, eks, rfl⟩ := Option.map_eq_some_iff.mp e2
    cases h with
    | cons h1 h2 =>
      cases r with
      | cons r1 r2 => exact .cons (Dp.nested I d _ _ _ h1 r1 ek) (DpAll.nested I ds _ _ _ h2 r2 eks)
end
end
end VB
namespace VB
open PySem PySem.Spec PyProof.Rows L2
abbrev RwN := RwG NestedKey
abbrev nKd (P : Program) (w : World) := nestedKind P w
/-- at r.1 stands the key r.2 -/
def KyN (K : PySem.W.Frag) (H : Hp) (r : RwN) : Prop := ∃ x, Dp K H (.ref r.1) x ∧ pk x = some r.2 ∧ r.2.depth ≤ 8
section
variable {X : Cx}
theorem Inv.kyN {pins : List (Addr × Obj)} {σ : L2.St} {H : Hp} {s : Shared} {r : RwN} (I : Inv X pins σ H s) (h : KyN X.K H r) : (nKd X.prog X.w).is s.heap r.2 r.1 := by
  obtain ⟨x, h1, h2, h3⟩ := h
  exact ⟨Dp.nested I x _ _ _ h1 rfl h2, h3⟩
end
/-- the key of data that may be in a set -/
def D.nk (d : D) : Option NestedKey := if d.pu = true then (match pk d.py with
  | some k => if k.depth ≤ 8 then some k else none
  | none => none) else none
/-- tuples with keys -/
def D.isTp : D → Bool
  | .tup _ => true
  | _ => false
def okN (ds : List D) : Bool := okSort ds && ds.all D.isTp
end VB
namespace VB
open PySem PySem.Spec PyProof.Rows L2
theorem Paired.memR {α β : Type} {F : α → β → Prop} : ∀ {l : List α} {m : List β}, Paired F l m → ∀ y ∈ m, ∃ x ∈ l, F x y
  | _, _, .nil, y, h => nomatch h
  | _, _, .cons r t, y, h => by
    rcases List.mem_cons.mp h with rfl | h
    · exact ⟨_, List.mem_cons_self .., r⟩
    · obtain ⟨x, mx, fx⟩ := Paired.memR t y h
      exact ⟨x, List.mem_cons_of_mem _ mx, fx⟩
theorem Paired.app {α β : Type} {F : α → β → Prop} : ∀ {l l2 : List α} {m m2 : List β}, Paired F l m → Paired F l2 m2 → Paired F (l ++ l2) (m ++ m2)
  | _, _, _, _, .nil, h => h
  | _, _, _, _, .cons r t, h => .cons r (Paired.app t h)
def KysN (K : PySem.W.Frag) (H : Hp) (kvs : List KvN) : Prop := ∀ r ∈ kvs, KyN K H (r.2.1, r.1)
section
variable {X : Cx} {pins : List (Addr × Obj)} {σ : L2.St} {H : Hp} {s : Shared}
theorem Inv.dicN {a : Addr} {kvs : List KvN} (I : Inv X pins σ H s) (ha : Rd H a (DicNX X.w a kvs)) (hk : KysN X.K H kvs) : ∃ xs : List KwN, Paired RwO kvs xs ∧ s.heap.DictOfH (nKd X.prog X.w) a xs ∧ kvs.length ≤ sizeLine ∧ (a == sysModules) = false := by
  have R : DicN1 X.w s.heap a kvs := (ha.ok I.hok).1
  obtain ⟨xs, rel, ⟨o, es, ep, ho, hx, hd, el⟩, nd⟩ := R.ex
  refine ⟨xs, rel, ⟨o, es, ep, ho, hx, hd, el, fun x mx => ?_, nd⟩, R.len, R.sys⟩
  obtain ⟨y, my, e1, e2, _⟩ := Paired.memR rel x mx
  have z := Inv.kyN I (hk y my)
  rw [e1, e2] at z
  exact z
end
def valN (kvs : List KvN) (k : NestedKey) : Option V := (kvs.find? fun x => decide (x.1 = k)).map (·.2.2)
theorem valN_rel {kvs : List KvN} {xs : List KwN} {k : NestedKey} {v : V} (r : Paired RwO kvs xs) (e : valN kvs k = some v) : ∃ p, atKey xs k = some p ∧ RelV v p.2 := by
  induction r with
  | nil => cases e
  | cons r t ih =>
    rename_i p q ps qs
    unfold valN at e
    unfold atKey
    rw [List.find?_cons] at e ⊢
    by_cases z : p.1 = k
    · have z2 : q.1 = k := r.1 ▸ z
      simp only [z, z2, decide_true] at e ⊢
      cases e
      exact ⟨_, rfl, r.2.2⟩
    · have z2 : ¬ q.1 = k := fun y => z (r.1.trans y)
      simp only [z, z2, decide_false] at e ⊢
      exact ih e
def rGetN (K : PySem.W.Frag) (P : Program) (w : World) : R2 := fun x y H Q => ∃ a kvs k b v, x = .ref a ∧ Rd H a (DicNX w a kvs) ∧ KysN K H kvs ∧ y = .ref b ∧ KyN K H (b, k) ∧ valN kvs k = some v ∧ Q v H
theorem ixN {X : Cx} {K : PySem.W.Frag} {P : Program} {w : World} (hK : X.K = K) (hP : X.prog = P) (hw : X.w = w) (hu : X.A.units + 65 < cLine) : IxR X (rGetN K P w) := by
  subst hK
  subst hP
  subst hw
  intro value slice pins s σ H x y v u Q I rx ry h hs
  obtain ⟨a, kvs, k, b, z, rfl, ha, hk, rfl, kb, ev, q⟩ := h
  cases (show v = Value.ref a from rx)
  cases (show u = Value.ref b from ry)
  obtain ⟨xs, rel, dd, lo, sy⟩ := Inv.dicN I ha hk
  obtain ⟨p, hp, rp⟩ := valN_rel rel ev
  have ty : s.TypeIs (.ref a) "dict" := dd.typeIs
  unfold subscriptTail
  refine wpAny_bind ?_
  rw [getitemInPython_of_ne ty.not_modules]
  have go : wpAny (model X.prog X.w) X.A (subscripted slice false (.ref a) (.ref b)) (fun r s3 => wpAny (model X.prog X.w) X.A (letTemporaryGo value (.ref a) r >>= fun _ => pure r) (EP X pins σ Q) X.xe s3) X.xe s := by
    rw [hs]
    refine wpAny_operating (wpAny_getItem_heap (show X.A.units + 1 + 8 < cLine by omega) (Inv.kyN I kb) dd hp ?_)
    refine wpAny_bind (wpAny_letTemporaryGo ?_)
    exact wpAny_pure ⟨z, H, I.tok _, rp, q⟩
  refine wpAny_bind (wpAny_specialOf ty PySem.F.slot_dict_getitem.lookup ?_)
  first | exact wpAny_pure (wpAny_bind go) | exact wpAny_bind (wpAny_pure (wpAny_bind go)) | exact wpAny_bind go
end VB
namespace VB
open PySem PySem.Spec PyProof.Rows L2
def RowsN (K : PySem.W.Frag) (B : List Addr) (H : Hp) : List KvN → List (D × D) → Prop := Paired fun r p => Sg K B H (.ref r.2.1) p.1 ∧ p.1.nk = some r.1 ∧ p.1.isTp = true ∧ Sg K B H r.2.2 p.2
theorem Paired.impR {α β : Type} {F G : α → β → Prop} (h : ∀ a b, F a b → G a b) : ∀ {l : List α} {m : List β}, Paired F l m → Paired G l m
  | _, _, .nil => .nil
  | _, _, .cons r t => .cons (h _ _ r) (Paired.impR h t)
section
variable {K : PySem.W.Frag} {B : List Addr} {H : Hp}
theorem RowsN.imp {B' : List Addr} {H' : Hp} {kvs : List KvN} {rt : List (D × D)} (h : ∀ v d, Sg K B H v d → Sg K B' H' v d) (r : RowsN K B H kvs rt) : RowsN K B' H' kvs rt := Paired.impR (fun _ _ z => ⟨h _ _ z.1, z.2.1, z.2.2.1, h _ _ z.2.2.2⟩) r
end
end VB
namespace VB
open PySem PySem.Spec PyProof.Rows L2
end VB
namespace VB
open PySem PySem.Spec PyProof.Rows L2
/-- a walk that bears changes within B -/
def RIB (K : PySem.W.Frag) (wi : TI) (ρ : List En) (m : M (List D)) : Prop := ∀ P, wp m P → ∀ (B W : List Addr) (H : Hp) (σ : L2.St), EnvOk K B W H σ ρ → ∀ R : It → Hp → Prop, (∀ J ds H1, Gs W H H1 → WalkD K B W (fun a => a ∈ B) H1 J ds → P ds → R J H1) → wi σ H R
theorem RIB.dat {K : PySem.W.Frag} {ρ : List En} {te : TE} {m : M D} (h : RE K te ρ m) : RIB K (iDat K te) ρ (m.bind D.items) := fun P w B W H σ e R q => h _ (wp_bind.mp w) B W H σ e _ fun v d H1 g s w1 bd => by
  have e1 := e.gs g
  refine iVal_of bd w1 (s.sr e.bw.sub) (fun a ea hr o => ?_) fun J ds wk p => q J ds H1 g wk p
  subst ea
  cases s with
  | lst n _ _ => exact n o
  | dic n _ _ _ => exact n o
  | dit n _ _ _ => exact n o
  | din n _ _ _ _ => exact n o
  | ins n _ _ _ => exact n o
  | _ => cases hr
/-- the lists at bs -/
def LsAt (K : PySem.W.Frag) (B : List Addr) (H : Hp) : List Addr → List (List D) → Prop
  | [], [] => True
  | b :: bs, ds :: dss => (∃ xs, H b = some (.lst xs) ∧ SgA K B H xs ds) ∧ LsAt K B H bs dss
  | _, _ => False
section
variable {K : PySem.W.Frag} {B B' : List Addr} {H H' : Hp}
theorem LsAt.get : ∀ {bs : List Addr} {dss : List (List D)} {n : Nat} {b : Addr}, LsAt K B H bs dss → bs[n]? = some b → ∃ xs ds, dss[n]? = some ds ∧ H b = some (.lst xs) ∧ SgA K B H xs ds
  | b :: bs, ds :: dss, 0, _, h, e => by
    cases e
    obtain ⟨⟨xs, h1, h2⟩, _⟩ := h
    exact ⟨xs, ds, rfl, h1, h2⟩
  | b :: bs, ds :: dss, n + 1, c, h, e => LsAt.get (n := n) h.2 e
theorem LsAt.len : ∀ {bs : List Addr} {dss : List (List D)}, LsAt K B H bs dss → bs.length = dss.length
  | [], [], _ => rfl
  | _ :: _, _ :: _, h => congrArg (· + 1) (LsAt.len h.2)
theorem LsAt.imp (k : ∀ b xs, H b = some (.lst xs) → H' b = some (.lst xs)) (s : ∀ xs ds, SgA K B H xs ds → SgA K B' H' xs ds) : ∀ {bs : List Addr} {dss : List (List D)}, LsAt K B H bs dss → LsAt K B' H' bs dss
  | [], [], _ => trivial
  | _ :: _, _ :: _, h => by
    obtain ⟨⟨xs, h1, h2⟩, h3⟩ := h
    exact ⟨⟨xs, k _ _ h1, s _ _ h2⟩, LsAt.imp k s h3⟩
theorem LsAt.impB : ∀ {bs : List Addr} {dss : List (List D)}, (∀ b ∈ bs, ∀ xs, H b = some (.lst xs) → H' b = some (.lst xs)) → (∀ xs ds, SgA K B H xs ds → SgA K B' H' xs ds) → LsAt K B H bs dss → LsAt K B' H' bs dss
  | [], [], _, _, _ => trivial
  | _ :: _, _ :: _, k, s, h => by
    obtain ⟨⟨xs, h1, h2⟩, h3⟩ := h
    exact ⟨⟨xs, k _ (List.mem_cons_self ..) _ h1, s _ _ h2⟩, LsAt.impB (fun b m => k b (List.mem_cons_of_mem _ m)) s h3⟩
/-- one more in the list at the n-th place -/
theorem LsAt.put {b : Addr} {xs : List V} {ds : List D} {y : V} {d : D} (hs : ∀ zs es, SgA K B H zs es → SgA K B (upd H b (.lst (xs ++ [y]))) zs es) (hd : Sg K B H y d) : ∀ {bs : List Addr} {dss : List (List D)} {n : Nat}, bs.Nodup → LsAt K B H bs dss → bs[n]? = some b → dss[n]? = some ds → SgA K B H xs ds →
    LsAt K B (upd H b (.lst (xs ++ [y]))) bs (dss.set n (ds ++ [d]))
  | c :: bs, es :: dss, 0, nd, h, e, e2, hx => by
    cases e
    cases e2
    refine ⟨⟨_, upd_same, hs _ _ (hx.append (.cons hd .nil))⟩, ?_⟩
    refine LsAt.impB (fun x m zs ex => ?_) (fun zs ws z => hs _ _ z) h.2
    have hne : x ≠ b := fun z => (List.nodup_cons.mp nd).1 (z ▸ m)
    rw [upd_ne hne]
    exact ex
  | c :: bs, es :: dss, n + 1, nd, h, e, e2, hx => by
    obtain ⟨⟨zs, h1, h2⟩, h3⟩ := h
    have hc : c ≠ b := fun z => (List.nodup_cons.mp nd).1 (z ▸ List.mem_of_getElem? (show bs[n]? = some b from e))
    refine ⟨⟨zs, ?_, hs _ _ h2⟩, LsAt.put hs hd (n := n) (List.nodup_cons.mp nd).2 h3 e e2 hx⟩
    rw [upd_ne hc]
    exact h1
end
def kvsOf (ks : List Str) (bs : List Addr) : List (Key × V) := ks.zipWith (fun k b => (Sum.inr k, V.ref b)) bs
theorem kvsOf_val : ∀ {ks : List Str} {bs : List Addr} {n : Nat} {k : Str}, ks.length = bs.length → ks.Nodup → ks[n]? = some k → ∃ b, bs[n]? = some b ∧ valV (kvsOf ks bs) (Sum.inr k) = some (.ref b)
  | k :: ks, b :: bs, 0, _, h, nd, e => by
    cases e
    refine ⟨b, rfl, ?_⟩
    unfold valV kvsOf
    rw [List.zipWith_cons_cons, List.find?_cons]
    simp
  | k :: ks, b :: bs, n + 1, z, h, nd, e => by
    have e : ks[n]? = some z := e
    obtain ⟨c, h1, h2⟩ := kvsOf_val (n := n) (Nat.succ.inj h) (List.nodup_cons.mp nd).2 e
    refine ⟨c, h1, ?_⟩
    have hk : ¬ ((Sum.inr k : Key) = Sum.inr z) := fun q => by
      cases q
      exact (List.nodup_cons.mp nd).1 (List.mem_of_getElem? e)
    unfold valV kvsOf at h2 ⊢
    rw [List.zipWith_cons_cons, List.find?_cons]
    simp only [hk, decide_false]
    exact h2
/-- the dict at a, its lists at bs, all made behind H0 -/
structure DI (K : PySem.W.Frag) (B W : List Addr) (H0 H : Hp) (σ : L2.St) (ρ : List En) (i : Nat) (a : Addr) (bs : List Addr) (ks : List Str) (dss : List (List D)) : Prop where
  sl : σ[i]? = some (some (.ref a))
  hd : H a = some (.dK (kvsOf ks bs))
  ls : LsAt K (a :: bs ++ B) H bs dss
  nd : (a :: bs).Nodup
  kd : ks.Nodup
  new : ∀ b ∈ a :: bs, H0 b = none
  len : ks.length = bs.length
  pl : ∀ e ∈ ρ, En.pl e = true
  nB : ∀ b ∈ a :: bs, b ∉ B
  nW : ∀ b ∈ a :: bs, b ∉ W
  en : EnvOk K (a :: bs ++ B) W H σ ρ
  gs : Gs W H0 H
def BIQ (K : PySem.W.Frag) (i : Nat) (ks : List Str) (e : Bool) (t : TS) (ρ : List En) (dss : List (List D)) (Q : List (List D) → Prop) (ρ2 : List En) : Prop := ∀ (B W : List Addr) (H0 H : Hp) (σ : L2.St) (a : Addr) (bs : List Addr), DI K B W H0 H σ ρ i a bs ks dss → ∀ E : Ends,
  (∀ σ' H' dss', DI K B W H0 H' σ' ρ2 i a bs ks dss' → Gw (a :: bs ++ B) H H' → Q dss' → if e = true then E.rt (.ref a) H' else E.nx σ' H') → t E σ H
def BI (K : PySem.W.Frag) (i : Nat) (ks : List Str) (e : Bool) (t : TS) (ρ : List En) (dss : List (List D)) (m : M (List (List D))) (ρ2 : List En) : Prop := ∀ Q, wp m Q → BIQ K i ks e t ρ dss Q ρ2
section
variable {K : PySem.W.Frag} {i j n : Nat} {ks : List Str} {e : Bool} {t u v : TS} {ρ ρ0 ρ2 : List En} {dss : List (List D)} {te : TE} {me : M D}
theorem pl_own {σ : L2.St} {ρ : List En} {b : Addr} (pl : ∀ e ∈ ρ, En.pl e = true) : ¬ Own σ ρ b := fun ⟨j, o, h1, _⟩ => by
  have z := pl _ (List.mem_of_getElem? h1)
  cases z
theorem pl_bor {σ : L2.St} {ρ : List En} {b : Addr} (pl : ∀ e ∈ ρ, En.pl e = true) : ¬ Bor σ ρ b := fun ⟨j, d, h1, _⟩ => by
  have z := pl _ (List.mem_of_getElem? h1)
  cases z
theorem pl_set {ρ : List En} {x : En} (h : En.pl x = true) (pl : ∀ e ∈ ρ, En.pl e = true) : ∀ e ∈ ρ.set j x, En.pl e = true := fun e m => by
  rcases List.mem_or_eq_of_mem_set m with m | m
  · exact pl e m
  · rw [m]; exact h
theorem pl_wk {ρ ρ' : List En} (w : Wk ρ ρ') (pl : ∀ e ∈ ρ, En.pl e = true) : ∀ e ∈ ρ', En.pl e = true := fun e m => by
  obtain ⟨k, h1⟩ := List.mem_iff_getElem?.mp m
  rcases w.get h1 with rfl | z
  · rfl
  · exact pl e (List.mem_of_getElem? z)
theorem BI.next (w : Wk ρ ρ2) : BI K i ks false tNext ρ dss (.ret dss) ρ2 := fun Q q B W H0 H σ a bs di E k => by
  have z := k σ H dss { di with pl := pl_wk w di.pl, en := di.en.wk w } Gw.refl q
  exact z
theorem BI.ret : BI K i ks true (tRet (tVar i)) ρ dss (.ret dss) ρ := fun Q q B W H0 H σ a bs di E k => ⟨_, di.sl, k σ H dss di Gw.refl q⟩
theorem DI.gs2 {B W : List Addr} {H0 H H1 : Hp} {σ : L2.St} {a : Addr} {bs : List Addr} (di : DI K B W H0 H σ ρ i a bs ks dss) (g : Gs W H H1) : DI K B W H0 H1 σ ρ i a bs ks dss :=
  { di with hd := g.gw.keep _ _ (di.nW a (List.mem_cons_self ..)) di.hd, ls := LsAt.impB (fun b m xs ex => g.gw.keep _ _ (di.nW b (List.mem_cons_of_mem _ m)) ex) (fun _ _ z => z.gw (di.en.bw.gw g)) di.ls, en := di.en.gs g, gs := di.gs.trans g }
theorem BI.asg {k : D → M (List (List D))} (hj : j ≠ i) (he : RE K te ρ me) (h : ∀ d, BI K i ks e u (ρ.set j (.dat d)) dss (k d) ρ2) : BI K i ks e (tSeq (tAsg te (gName j)) u) ρ dss (me.bind k) ρ2 := fun Q w B W H0 H σ a bs di E q =>
  he _ (wp_bind.mp w) _ W H σ di.en _ fun x d H1 g1 s1 w1 => by
    have d1 := di.gs2 g1
    refine h d Q w1 B W H0 H1 (σ.set j (some x)) a bs { d1 with sl := ?_, pl := pl_set rfl di.pl, en := d1.en.set s1 } E fun σ' H' dss' di' g' q' => q σ' H' dss' di' ((di.en.bw.gw g1).trans g') q'
    rw [List.getElem?_set_ne hj]
    exact di.sl
def M.appN {α : Type} (dss : List (List D)) (n : Nat) (x : D) (kk : List (List D) → M α) : M α := match dss[n]? with
  | some ds => if ds.length < 16777216 then kk (dss.set n (ds ++ [x])) else .fail
  | none => .fail
theorem BI.one {m : M (List (List D))} (h : BI K i ks e (tSeq t tNext) ρ dss m ρ2) : BI K i ks e t ρ dss m ρ2 := h
theorem BI.at {m : M (List (List D))} (h : BI K i ks e t ρ dss m ρ2) {Q : List (List D) → Prop} (w : wp m Q) : BIQ K i ks e t ρ dss Q ρ2 := h Q w
/-- d[k].append(e) -/
theorem BI.app {z : Str} {kk : List (List D) → M (List (List D))} (hk : ks[n]? = some z) (he : RE K te ρ me) (h : ∀ dss, BI K i ks e u ρ dss (kk dss) ρ2) :
    BI K i ks e (tSeq (tDrop (tBM K "list" rAppend (tOp (rIxA K) (tVar i) (tC (.str z))) (tCons te tNil))) u) ρ dss (me.bind fun x => M.appN dss n x kk) ρ2 := fun Q w B W H0 H σ a bs di E q => by
  obtain ⟨b, hb, hv⟩ := kvsOf_val di.len di.kd hk
  obtain ⟨xs, ds, e1, hx, sx⟩ := di.ls.get hb
  have mb : b ∈ a :: bs := List.mem_cons_of_mem _ (List.mem_of_getElem? hb)
  refine ⟨.ref a, di.sl, .inr ⟨a, .ref b, rfl, .inl ⟨_, Sum.inr z, .inl di.hd, rfl, hv.symm⟩, ?_⟩⟩
  refine ⟨tyV_lst hx, he _ (wp_bind.mp w) _ W H σ di.en _ fun y d H1 g1 s1 w1 => ?_⟩
  unfold M.appN at w1
  rw [e1] at w1
  obtain ⟨hz, w2⟩ := wp_ite (show wp (if ds.length < 16777216 then kk (dss.set n (ds ++ [d])) else .fail) Q from w1)
  have d1 := di.gs2 g1
  obtain ⟨xs1, ds1, e2, hx1, sx1⟩ := d1.ls.get hb
  rw [e1] at e2
  cases e2
  have nt : NoT H1 b := ⟨_, hx1, fun _ z => nomatch z⟩
  have mB : b ∈ a :: bs ++ B := List.mem_append_left _ mb
  have gg : Gw (a :: bs ++ B) H1 (upd H1 b (.lst (xs1 ++ [y]))) := Gw.wr mB nt
  have ab : a ≠ b := fun z => (List.nodup_cons.mp di.nd).1 (z ▸ List.mem_of_getElem? hb)
  have d2 : DI K B W H0 (upd H1 b (.lst (xs1 ++ [y]))) σ ρ i a bs ks (dss.set n (ds ++ [d])) :=
    { d1 with
      hd := by
        rw [upd_ne ab]
        exact d1.hd
      ls := LsAt.put (fun _ _ z => z.gw gg) s1 (List.nodup_cons.mp di.nd).2 d1.ls hb e1 sx1
      en := d1.en.wr nt mB (di.nW b mb) (pl_own di.pl) (pl_bor di.pl)
      gs := d1.gs.mut (di.new b mb) }
  refine ⟨b, xs1, y, rfl, rfl, hx1, by rw [sx1.length, sizeLine_eq]; exact hz, ?_⟩
  exact h _ Q w2 B W H0 _ σ a bs d2 E fun σ' H' dss' di' g' q' => q σ' H' dss' di' (((di.en.bw.gw g1).trans gg).trans g') q'
end
end VB
namespace VB
open PySem PySem.Spec PyProof.Rows L2
structure NkD (n : Nat) (d : D) : Prop where
  pu : d.pu = true
  ky : ∃ k, pk d.py = some k ∧ k.depth ≤ n
  dp : d.py.depth ≤ n
theorem NkD.mono {n m : Nat} {d : D} (h : NkD n d) (l : n ≤ m) : NkD m d := ⟨h.pu, h.ky.imp fun k z => ⟨z.1, Nat.le_trans z.2 l⟩, Nat.le_trans h.dp l⟩
theorem NkD.int {i : Int} : NkD 0 (.int i) := ⟨rfl, ⟨_, rfl, Nat.le_refl _⟩, Nat.le_refl _⟩
theorem NkD.str {z : Str} : NkD 0 (.str z) := ⟨rfl, ⟨_, rfl, Nat.le_refl _⟩, Nat.le_refl _⟩
theorem NkD.bl {b : Bool} : NkD 0 (.bl b) := ⟨rfl, ⟨_, rfl, Nat.le_refl _⟩, Nat.le_refl _⟩
theorem NkD.all {n : Nat} : ∀ {ds : List D}, (∀ d ∈ ds, NkD n d) → D.puA ds = true ∧ (∃ ks, pkA (D.pyA ds) = some ks ∧ NestedKey.depthAll ks ≤ n) ∧ PyData.depthAll (D.pyA ds) ≤ n
  | [], _ => ⟨rfl, ⟨[], rfl, Nat.zero_le _⟩, Nat.zero_le _⟩
  | d :: ds, h => by
    obtain ⟨a1, ⟨ks, a2, a3⟩, a4⟩ := NkD.all fun x m => h x (List.mem_cons_of_mem _ m)
    obtain ⟨b1, ⟨k, b2, b3⟩, b4⟩ := h d (List.mem_cons_self ..)
    refine ⟨?_, ⟨k :: ks, ?_, ?_⟩, ?_⟩
    · show (_ && _) = true
      rw [b1, a1]
      rfl
    · show (pk d.py).bind (fun k => (pkA (D.pyA ds)).map (k :: ·)) = _
      rw [b2, a2]
      rfl
    · show max k.depth (NestedKey.depthAll ks) ≤ n
      omega
    · show max d.py.depth (PyData.depthAll (D.pyA ds)) ≤ n
      omega
theorem NkD.tup {n : Nat} {ds : List D} (h : ∀ d ∈ ds, NkD n d) : NkD (n + 1) (.tup ds) := by
  obtain ⟨a1, ⟨ks, a2, a3⟩, a4⟩ := NkD.all h
  refine ⟨a1, ⟨.tup ks, ?_, Nat.succ_le_succ a3⟩, Nat.succ_le_succ a4⟩
  show (pkA (D.pyA ds)).map NestedKey.tup = _
  rw [a2]
  rfl
theorem NkD.nk {n : Nat} {d : D} (h : NkD n d) (hn : n ≤ 8) : ∃ k, d.nk = some k := by
  obtain ⟨k, h1, h2⟩ := h.ky
  refine ⟨k, ?_⟩
  unfold D.nk
  rw [if_pos h.pu, h1]
  exact if_pos (Nat.le_trans h2 hn)
theorem okN_of {α : Type} {f : α → D} {xs : List α} {n : Nat} (hn : n ≤ 30) (h : ∀ x ∈ xs, NkD n (f x) ∧ (f x).isTp = true) (a : ∀ x ∈ xs, ∀ y ∈ xs, PySem.W.alike (f x).py (f y).py = true) : okN (xs.map f) = true := by
  unfold okN okSort
  refine Bool.and_eq_true_iff.mpr ⟨List.all_eq_true.mpr fun d m => ?_, List.all_eq_true.mpr fun d m => ?_⟩
  · obtain ⟨x, mx, rfl⟩ := List.mem_map.mp m
    refine Bool.and_eq_true_iff.mpr ⟨Bool.and_eq_true_iff.mpr ⟨(h x mx).1.pu, decide_eq_true (Nat.le_trans (h x mx).1.dp hn)⟩, List.all_eq_true.mpr fun e me => ?_⟩
    obtain ⟨y, my, rfl⟩ := List.mem_map.mp me
    exact a x mx y my
  · obtain ⟨x, mx, rfl⟩ := List.mem_map.mp m
    exact (h x mx).2
end VB
namespace VB
open PySem PySem.Spec PyProof.Rows L2
/-- what a clause's inside does: from slots and heap to heaps -/
abbrev TN := L2.St → Hp → (Hp → Prop) → Prop
end VB
namespace VB
open PySem PySem.Spec PyProof.Rows L2
/-- steps of expressions, and writes of the new list -/
inductive Go (W : List Addr) (Dl : Addr) (H : Hp) : Hp → Prop
  | refl : Go W Dl H H
  | gs {H1 H2 : Hp} : Go W Dl H H1 → Gs W H1 H2 → Go W Dl H H2
  | wr {H1 : Hp} {acc acc' : List V} : Go W Dl H H1 → H1 Dl = some (.lst acc) → Go W Dl H (upd H1 Dl (.lst acc'))
section
variable {K : PySem.W.Frag} {B W : List Addr} {Dl : Addr} {H H1 H' : Hp} {σ : L2.St} {ρ : List En}
theorem ntL {acc : List V} (h : H Dl = some (.lst acc)) : NoT H Dl := ⟨_, h, fun _ z => nomatch z⟩
theorem Go.trans (a : Go W Dl H H1) (b : Go W Dl H1 H') : Go W Dl H H' := by
  induction b with
  | refl => exact a
  | gs _ g ih => exact .gs ih g
  | wr _ h ih => exact .wr ih h
theorem Go.env (go : Go W Dl H H') (dW : Dl ∉ W) (nO : ¬ Own σ ρ Dl) (nB : ¬ Bor σ ρ Dl) (en : EnvOk K (Dl :: B) W H σ ρ) : EnvOk K (Dl :: B) W H' σ ρ := by
  induction go with
  | refl => exact en
  | gs _ g ih => exact ih.gs g
  | wr _ h ih => exact ih.wr (ntL h) (List.mem_cons_self ..) dW nO nB
theorem Go.sga (go : Go W Dl H H') (sub : ∀ a ∈ W, a ∈ Dl :: B) {xs : List V} {ds : List D} (s : SgA K (Dl :: B) H xs ds) : SgA K (Dl :: B) H' xs ds := by
  induction go with
  | refl => exact s
  | gs _ g ih => exact ih.gw (g.gw.mono sub)
  | wr _ h ih => exact ih.gw (Gw.wr (List.mem_cons_self ..) (ntL h))
theorem Go.sg (go : Go W Dl H H') (sub : ∀ a ∈ W, a ∈ Dl :: B) {v : V} {d : D} (s : Sg K (Dl :: B) H v d) : Sg K (Dl :: B) H' v d := by
  induction go with
  | refl => exact s
  | gs _ g ih => exact ih.gw (g.gw.mono sub)
  | wr _ h ih => exact ih.gw (Gw.wr (List.mem_cons_self ..) (ntL h))
theorem Go.kp (go : Go W Dl H H') {H0 : Hp} (k : Kp W (fun a => a = Dl) H0 H) : Kp W (fun a => a = Dl) H0 H' := by
  induction go with
  | refl => exact k
  | gs _ g1 ih => exact ih.step g1
  | wr _ h ih => exact ih.wr (ntL h)
theorem Go.free (go : Go W Dl H H') : ∀ b, H' b = none → H b = none := by
  induction go with
  | refl => exact fun _ e => e
  | gs _ g1 ih => exact fun b e => ih b (g1.gw.free b e)
  | wr _ h ih =>
    intro b e
    by_cases z : b = Dl
    · rw [z, upd_same] at e
      cases e
    · rw [upd_ne z] at e
      exact ih b e
end
/-- what stands behind a clause, on data: the new list goes on with what m says -/
def RIn (K : PySem.W.Frag) (inner : Addr → TN) (ρ : List En) (m : M (List D)) : Prop := ∀ (P : List D → Prop), wp m P → ∀ (B W : List Addr) (H : Hp) (σ : L2.St) (Dl : Addr) (acc : List V) (es : List D), EnvOk K (Dl :: B) W H σ ρ → Dl ∉ W → ¬ Own σ ρ Dl → ¬ Bor σ ρ Dl →
  H Dl = some (.lst acc) → SgA K (Dl :: B) H acc es → (∀ r, P r → es.length + r.length ≤ 16000000) → ∀ Nx : Hp → Prop, (∀ H' acc' r, Go W Dl H H' → H' Dl = some (.lst acc') → SgA K (Dl :: B) H' acc' (es ++ r) → P r → Nx H') → inner Dl σ H Nx
def CTn (K : PySem.W.Frag) (tt : TT) (inner : Addr → TN) (P : List D → Prop) (ρ : List En) : Prop := ∃ (mb : M Bool) (mi : M (List D)), RT K tt ρ mb ∧ RIn K inner ρ mi ∧ wp (mb.bind fun b => if b = true then mi else .ret []) P
section
variable {K : PySem.W.Frag} {ρ : List En} {te te1 : TE} {tt : TT} {p : Pt} {js : List Nat} {wi : TI} {mi : M (List D)} {inner : Addr → TN}
theorem CTn.plain {m : M (List D)} (h : RIn K inner ρ m) {P : List D → Prop} (w : wp m P) : CTn K tYes inner P ρ := ⟨_, m, RT.yes, h, by
  rw [M.ret_bind, if_pos rfl]
  exact w⟩
end
end VB
namespace VB
open PySem PySem.Spec PyProof.Rows L2
end VB
namespace VB
open PySem PySem.Spec PyProof.Rows L2
end VB
namespace VB
open PySem PySem.Spec PyProof.Rows L2
end VB
namespace VB
open PySem PySem.Spec PyProof.Rows L2
end VB
namespace VB
open PySem PySem.Spec PyProof.Rows L2
end VB
namespace VB
open PySem PySem.Spec PyProof.Rows L2
end VB
namespace K17
open PySem PySem.Spec PyProof.Rows L2 VB
theorem sc_Wrong_init : FnScope ["self", "place"] ["self", "place"] (defScope s_Wrong_init) := ⟨rfl, rfl, rfl, by decide +kernel, rfl, by decide +kernel, by decide +kernel⟩
theorem sc_is_word : FnScope ["thing", "letter"] ["thing"] (defScope s_is_word) := ⟨rfl, rfl, rfl, by decide +kernel, rfl, by decide +kernel, by decide +kernel⟩
theorem sc_is_name : FnScope ["thing", "label"] ["thing"] (defScope s_is_name) := ⟨rfl, rfl, rfl, by decide +kernel, rfl, by decide +kernel, by decide +kernel⟩
theorem sc_is_flagged : FnScope ["thing"] ["thing"] (defScope s_is_flagged) := ⟨rfl, rfl, rfl, by decide +kernel, rfl, by decide +kernel, by decide +kernel⟩
theorem sc_are_flagged : FnScope ["thing", "row", "name", "flag"] ["thing"] (defScope s_are_flagged) := ⟨rfl, rfl, rfl, by decide +kernel, rfl, by decide +kernel, by decide +kernel⟩
theorem sc_flag_at : FnScope ["flags", "name", "size"] ["flags", "name"] (defScope s_flag_at) := ⟨rfl, rfl, rfl, by decide +kernel, rfl, by decide +kernel, by decide +kernel⟩
theorem sc_needed_flags : FnScope ["flags", "found", "name", "flag"] ["flags"] (defScope s_needed_flags) := ⟨rfl, rfl, rfl, by decide +kernel, rfl, by decide +kernel, by decide +kernel⟩
theorem sc_Region_init : FnScope ["self", "rows", "name", "flag"] ["self", "rows"] (defScope s_Region_init) := ⟨rfl, rfl, rfl, by decide +kernel, rfl, by decide +kernel, by decide +kernel⟩
theorem sc_Region_contains : FnScope ["self", "name"] ["self", "name"] (defScope s_Region_contains) := ⟨rfl, rfl, rfl, by decide +kernel, rfl, by decide +kernel, by decide +kernel⟩
theorem sc_law_bag : FnScope ["_law_script", "_law_cell"] ["_law_script"] (defScope s_law_bag) := ⟨rfl, rfl, rfl, by decide +kernel, rfl, by decide +kernel, by decide +kernel⟩
theorem sc_law_take : FnScope ["_law_bag_here", "_law_many", "_law_cell", "_law_more", "_law_drawn", "_law_begin", "_law_second"] ["_law_bag_here", "_law_many"] (defScope s_law_take) := ⟨rfl, rfl, rfl, by decide +kernel, rfl, by decide +kernel, by decide +kernel⟩
theorem sc_law_mixed : FnScope ["_law_bag_here", "_law_things", "_law_found", "_law_thing"] ["_law_bag_here", "_law_things"] (defScope s_law_mixed) := ⟨rfl, rfl, rfl, by decide +kernel, rfl, by decide +kernel, by decide +kernel⟩
theorem sc_law_labels : FnScope ["_law_bag_here", "_law_many", "_law_letters", "_law_words", "_law_way", "_law_turn", "_law_base", "_law_at", "_law_far", "_law_some", "_law_k"] ["_law_bag_here", "_law_many"] (defScope s_law_labels) := ⟨rfl, rfl, rfl, by decide +kernel, rfl, by decide +kernel, by decide +kernel⟩
theorem sc_law_name : FnScope ["_law_bag_here", "_law_labels_here", "_law_most", "_law_k"] ["_law_bag_here", "_law_labels_here", "_law_most"] (defScope s_law_name) := ⟨rfl, rfl, rfl, by decide +kernel, rfl, by decide +kernel, by decide +kernel⟩
theorem sc_law_drawn_flags : FnScope ["_law_bag_here", "_law_labels_here", "_law_many", "_law_found", "_law_k", "_law_some", "_law_name_here"] ["_law_bag_here", "_law_labels_here", "_law_many"] (defScope s_law_drawn_flags) := ⟨rfl, rfl, rfl, by decide +kernel, rfl, by decide +kernel, by decide +kernel⟩
theorem sc_law_is_word : FnScope ["_law_thing", "_law_sign"] ["_law_thing"] (defScope s_law_is_word) := ⟨rfl, rfl, rfl, by decide +kernel, rfl, by decide +kernel, by decide +kernel⟩
theorem sc_law_is_row : FnScope ["_law_thing", "_law_part"] ["_law_thing"] (defScope s_law_is_row) := ⟨rfl, rfl, rfl, by decide +kernel, rfl, by decide +kernel, by decide +kernel⟩
theorem sc_law_is_good : FnScope ["_law_thing", "_law_names", "_law_row", "_law_k"] ["_law_thing"] (defScope s_law_is_good) := ⟨rfl, rfl, rfl, by decide +kernel, rfl, by decide +kernel, by decide +kernel⟩
theorem sc_law_odd_row : FnScope ["_law_bag_here", "_law_row", "_law_name_here", "_law_flag", "_law_spot", "_law_odd", "_law_some"] ["_law_bag_here", "_law_row"] (defScope s_law_odd_row) := ⟨rfl, rfl, rfl, by decide +kernel, rfl, by decide +kernel, by decide +kernel⟩
theorem sc_law_spoilt : FnScope ["_law_bag_here", "_law_rows", "_law_size", "_law_way", "_law_spot", "_law_row", "_law_deep", "_law_k", "_law_odd"] ["_law_bag_here", "_law_rows", "_law_size"] (defScope s_law_spoilt) := ⟨rfl, rfl, rfl, by decide +kernel, rfl, by decide +kernel, by decide +kernel⟩
theorem sc_law_tried : FnScope ["_law_thing", "e", "_law_good"] ["_law_thing"] (defScope s_law_tried) := ⟨rfl, rfl, rfl, by decide +kernel, rfl, by decide +kernel, by decide +kernel⟩
theorem sc_law : FnScope ["_law_script", "_law_bag_here", "_law_labels_here", "_law_k", "_law_good", "_law_thing", "_law_time", "_law_shown", "_law_word", "_law_found", "_law_name_here", "_law_flag", "_law_row"] ["_law_script"] (defScope s_law) := ⟨rfl, rfl, rfl, by decide +kernel, rfl, by decide +kernel, by decide +kernel⟩
structure Ad where
  c : Cl
  f_Wrong_init : Addr
  d_Wrong_init : FuncData
  f_is_word : Addr
  d_is_word : FuncData
  f_is_name : Addr
  d_is_name : FuncData
  f_is_flagged : Addr
  d_is_flagged : FuncData
  f_are_flagged : Addr
  d_are_flagged : FuncData
  f_flag_at : Addr
  d_flag_at : FuncData
  f_needed_flags : Addr
  d_needed_flags : FuncData
  f_Region_init : Addr
  d_Region_init : FuncData
  f_Region_contains : Addr
  d_Region_contains : FuncData
  f_law_bag : Addr
  d_law_bag : FuncData
  f_law_take : Addr
  d_law_take : FuncData
  f_law_mixed : Addr
  d_law_mixed : FuncData
  f_law_labels : Addr
  d_law_labels : FuncData
  f_law_name : Addr
  d_law_name : FuncData
  f_law_drawn_flags : Addr
  d_law_drawn_flags : FuncData
  f_law_is_word : Addr
  d_law_is_word : FuncData
  f_law_is_row : Addr
  d_law_is_row : FuncData
  f_law_is_good : Addr
  d_law_is_good : FuncData
  f_law_odd_row : Addr
  d_law_odd_row : FuncData
  f_law_spoilt : Addr
  d_law_spoilt : FuncData
  f_law_tried : Addr
  d_law_tried : FuncData
  f_law : Addr
  d_law : FuncData
  z_Region_init_0 : Addr
  t_LETTERS : Tok
  t_MOST_LETTERS : Tok
structure Tx0 (w : World) (K : PySem.W.Frag) (mg : Str → Option Value) (a : Ad) : Prop where
  F_Wrong_init : FunD K "__init__" "Wrong.__init__" (defArgs s_Wrong_init) (defBody s_Wrong_init) (defScope s_Wrong_init) [] [] a.f_Wrong_init a.d_Wrong_init
  b_Wrong_init : Binds K a.d_Wrong_init ["self", "place"] []
  F_is_word : FunD K "is_word" "is_word" (defArgs s_is_word) (defBody s_is_word) (defScope s_is_word) [] [] a.f_is_word a.d_is_word
  m_is_word : mg "is_word" = some (.ref a.f_is_word)
  k_is_word : PySem.W.keepIn K (.ref a.f_is_word) = true
  b_is_word : Binds K a.d_is_word ["thing"] []
  F_is_name : FunD K "is_name" "is_name" (defArgs s_is_name) (defBody s_is_name) (defScope s_is_name) [] [] a.f_is_name a.d_is_name
  m_is_name : mg "is_name" = some (.ref a.f_is_name)
  k_is_name : PySem.W.keepIn K (.ref a.f_is_name) = true
  b_is_name : Binds K a.d_is_name ["thing"] []
  F_is_flagged : FunD K "is_flagged" "is_flagged" (defArgs s_is_flagged) (defBody s_is_flagged) (defScope s_is_flagged) [] [] a.f_is_flagged a.d_is_flagged
  m_is_flagged : mg "is_flagged" = some (.ref a.f_is_flagged)
  k_is_flagged : PySem.W.keepIn K (.ref a.f_is_flagged) = true
  b_is_flagged : Binds K a.d_is_flagged ["thing"] []
  F_are_flagged : FunD K "are_flagged" "are_flagged" (defArgs s_are_flagged) (defBody s_are_flagged) (defScope s_are_flagged) [] [] a.f_are_flagged a.d_are_flagged
  m_are_flagged : mg "are_flagged" = some (.ref a.f_are_flagged)
  k_are_flagged : PySem.W.keepIn K (.ref a.f_are_flagged) = true
  b_are_flagged : Binds K a.d_are_flagged ["thing"] []
  F_flag_at : FunD K "flag_at" "flag_at" (defArgs s_flag_at) (defBody s_flag_at) (defScope s_flag_at) [] [] a.f_flag_at a.d_flag_at
  m_flag_at : mg "flag_at" = some (.ref a.f_flag_at)
  k_flag_at : PySem.W.keepIn K (.ref a.f_flag_at) = true
  b_flag_at : Binds K a.d_flag_at ["flags", "name"] []
  F_needed_flags : FunD K "needed_flags" "needed_flags" (defArgs s_needed_flags) (defBody s_needed_flags) (defScope s_needed_flags) [] [] a.f_needed_flags a.d_needed_flags
  m_needed_flags : mg "needed_flags" = some (.ref a.f_needed_flags)
  k_needed_flags : PySem.W.keepIn K (.ref a.f_needed_flags) = true
  b_needed_flags : Binds K a.d_needed_flags ["flags"] []
  F_Region_init : FunD K "__init__" "Region.__init__" (defArgs s_Region_init) (defBody s_Region_init) (defScope s_Region_init) [.ref a.z_Region_init_0] [] a.f_Region_init a.d_Region_init
  b_Region_init : Binds K a.d_Region_init ["self", "rows"] []
  F_Region_contains : FunD K "__contains__" "Region.__contains__" (defArgs s_Region_contains) (defBody s_Region_contains) (defScope s_Region_contains) [] [] a.f_Region_contains a.d_Region_contains
  b_Region_contains : Binds K a.d_Region_contains ["self", "name"] []
  F_law_bag : FunD K "_law_bag" "_law_bag" (defArgs s_law_bag) (defBody s_law_bag) (defScope s_law_bag) [] [] a.f_law_bag a.d_law_bag
  m_law_bag : mg "_law_bag" = some (.ref a.f_law_bag)
  k_law_bag : PySem.W.keepIn K (.ref a.f_law_bag) = true
  b_law_bag : Binds K a.d_law_bag ["_law_script"] []
  F_law_take : FunD K "_law_take" "_law_take" (defArgs s_law_take) (defBody s_law_take) (defScope s_law_take) [] [] a.f_law_take a.d_law_take
  m_law_take : mg "_law_take" = some (.ref a.f_law_take)
  k_law_take : PySem.W.keepIn K (.ref a.f_law_take) = true
  b_law_take : Binds K a.d_law_take ["_law_bag_here", "_law_many"] []
  F_law_mixed : FunD K "_law_mixed" "_law_mixed" (defArgs s_law_mixed) (defBody s_law_mixed) (defScope s_law_mixed) [] [] a.f_law_mixed a.d_law_mixed
  m_law_mixed : mg "_law_mixed" = some (.ref a.f_law_mixed)
  k_law_mixed : PySem.W.keepIn K (.ref a.f_law_mixed) = true
  b_law_mixed : Binds K a.d_law_mixed ["_law_bag_here", "_law_things"] []
  F_law_labels : FunD K "_law_labels" "_law_labels" (defArgs s_law_labels) (defBody s_law_labels) (defScope s_law_labels) [] [] a.f_law_labels a.d_law_labels
  m_law_labels : mg "_law_labels" = some (.ref a.f_law_labels)
  k_law_labels : PySem.W.keepIn K (.ref a.f_law_labels) = true
  b_law_labels : Binds K a.d_law_labels ["_law_bag_here", "_law_many"] []
  F_law_name : FunD K "_law_name" "_law_name" (defArgs s_law_name) (defBody s_law_name) (defScope s_law_name) [] [] a.f_law_name a.d_law_name
  m_law_name : mg "_law_name" = some (.ref a.f_law_name)
  k_law_name : PySem.W.keepIn K (.ref a.f_law_name) = true
  b_law_name : Binds K a.d_law_name ["_law_bag_here", "_law_labels_here", "_law_most"] []
structure Tx1 (w : World) (K : PySem.W.Frag) (mg : Str → Option Value) (a : Ad) : Prop where
  F_law_drawn_flags : FunD K "_law_drawn_flags" "_law_drawn_flags" (defArgs s_law_drawn_flags) (defBody s_law_drawn_flags) (defScope s_law_drawn_flags) [] [] a.f_law_drawn_flags a.d_law_drawn_flags
  m_law_drawn_flags : mg "_law_drawn_flags" = some (.ref a.f_law_drawn_flags)
  k_law_drawn_flags : PySem.W.keepIn K (.ref a.f_law_drawn_flags) = true
  b_law_drawn_flags : Binds K a.d_law_drawn_flags ["_law_bag_here", "_law_labels_here", "_law_many"] []
  F_law_is_word : FunD K "_law_is_word" "_law_is_word" (defArgs s_law_is_word) (defBody s_law_is_word) (defScope s_law_is_word) [] [] a.f_law_is_word a.d_law_is_word
  m_law_is_word : mg "_law_is_word" = some (.ref a.f_law_is_word)
  k_law_is_word : PySem.W.keepIn K (.ref a.f_law_is_word) = true
  b_law_is_word : Binds K a.d_law_is_word ["_law_thing"] []
  F_law_is_row : FunD K "_law_is_row" "_law_is_row" (defArgs s_law_is_row) (defBody s_law_is_row) (defScope s_law_is_row) [] [] a.f_law_is_row a.d_law_is_row
  m_law_is_row : mg "_law_is_row" = some (.ref a.f_law_is_row)
  k_law_is_row : PySem.W.keepIn K (.ref a.f_law_is_row) = true
  b_law_is_row : Binds K a.d_law_is_row ["_law_thing"] []
  F_law_is_good : FunD K "_law_is_good" "_law_is_good" (defArgs s_law_is_good) (defBody s_law_is_good) (defScope s_law_is_good) [] [] a.f_law_is_good a.d_law_is_good
  m_law_is_good : mg "_law_is_good" = some (.ref a.f_law_is_good)
  k_law_is_good : PySem.W.keepIn K (.ref a.f_law_is_good) = true
  b_law_is_good : Binds K a.d_law_is_good ["_law_thing"] []
  F_law_odd_row : FunD K "_law_odd_row" "_law_odd_row" (defArgs s_law_odd_row) (defBody s_law_odd_row) (defScope s_law_odd_row) [] [] a.f_law_odd_row a.d_law_odd_row
  m_law_odd_row : mg "_law_odd_row" = some (.ref a.f_law_odd_row)
  k_law_odd_row : PySem.W.keepIn K (.ref a.f_law_odd_row) = true
  b_law_odd_row : Binds K a.d_law_odd_row ["_law_bag_here", "_law_row"] []
  F_law_spoilt : FunD K "_law_spoilt" "_law_spoilt" (defArgs s_law_spoilt) (defBody s_law_spoilt) (defScope s_law_spoilt) [] [] a.f_law_spoilt a.d_law_spoilt
  m_law_spoilt : mg "_law_spoilt" = some (.ref a.f_law_spoilt)
  k_law_spoilt : PySem.W.keepIn K (.ref a.f_law_spoilt) = true
  b_law_spoilt : Binds K a.d_law_spoilt ["_law_bag_here", "_law_rows", "_law_size"] []
  F_law_tried : FunD K "_law_tried" "_law_tried" (defArgs s_law_tried) (defBody s_law_tried) (defScope s_law_tried) [] [] a.f_law_tried a.d_law_tried
  m_law_tried : mg "_law_tried" = some (.ref a.f_law_tried)
  k_law_tried : PySem.W.keepIn K (.ref a.f_law_tried) = true
  b_law_tried : Binds K a.d_law_tried ["_law_thing"] []
  F_law : FunD K "law" "law" (defArgs s_law) (defBody s_law) (defScope s_law) [] [] a.f_law a.d_law
  m_law : mg "law" = some (.ref a.f_law)
  k_law : PySem.W.keepIn K (.ref a.f_law) = true
  b_law : Binds K a.d_law ["_law_script"] []
  zt_Region_init_0 : ∀ H : Hp, SqT K H a.z_Region_init_0 []
  kc : KC K a.c.all
  w_ : a.c.w = w
  i_Region : a.c.Region ∈ a.c.all
  c_Region : ClsF K a.c.Region
  mc_Region : mg "Region" = some (.ref a.c.Region)
  mc_TooMany : mg "TooMany" = some (.ref a.c.TooMany)
  mc_Unfit : mg "Unfit" = some (.ref a.c.Unfit)
  mc_VouchError : mg "VouchError" = some (.ref a.c.VouchError)
  mc_Wrong : mg "Wrong" = some (.ref a.c.Wrong)
  na_Region_kept_flags : NoAttr K a.c.Region "kept_flags"
  me_Region_contains : Meth K a.c.Region "__contains__" a.f_Region_contains
  mk_Region : Mk K a.c.Region a.f_Region_init
  g_LETTERS : mg "LETTERS" = some (.str "abcdefghijklmnopqrstuvwxyz" a.t_LETTERS)
  g_MOST_LETTERS : mg "MOST_LETTERS" = some (.int 8 a.t_MOST_LETTERS)
  n_abs : mg "abs" = none
  n_all : mg "all" = none
  n_bool : mg "bool" = none
structure Tx2 (w : World) (K : PySem.W.Frag) (mg : Str → Option Value) (a : Ad) : Prop where
  n_dict : mg "dict" = none
  n_int : mg "int" = none
  n_isinstance : mg "isinstance" = none
  n_len : mg "len" = none
  n_list : mg "list" = none
  n_range : mg "range" = none
  n_repr : mg "repr" = none
  n_set : mg "set" = none
  n_str : mg "str" = none
  n_tuple : mg "tuple" = none
  sys : VB.sysOk K = true
  er_Wrong : VB.ErF K a.c.Wrong a.f_Wrong_init "place"
  ve_VouchError : VB.VeF K a.c.VouchError
  ki_Wrong_VouchError : PySem.W.kitOne K (.ref a.c.Wrong) (.ref a.c.VouchError) = some true
  ka_Wrong_TooMany_Unfit : PySem.W.kitAny K (.ref a.c.Wrong) [.ref a.c.TooMany, .ref a.c.Unfit] = some false
structure Tx (w : World) (K : PySem.W.Frag) (mg : Str → Option Value) (a : Ad) : Prop extends Tx0 w K mg a, Tx1 w K mg a, Tx2 w K mg a
variable {P : Program} {w : World} {K : PySem.W.Frag} {mg : Str → Option Value} {base : Heap} {a : Ad}
theorem ok_Wrong_init (T : Tx w K mg a) : FnOk P w K mg base CX0 1 a.f_Wrong_init a.d_Wrong_init ["self", "place"] (VB.spEr1 K a.c.Wrong "place") := by
  refine T.F_Wrong_init.ok (k := 0) sc_Wrong_init (fun vs H Q E h => VB.spEr1_len h) (fun cdv A outer s H vs Q E hr h => ?_)
  exact ⟨_, PSs.nox (pss_cons (ps_expr (VB.pe_veinitC (by rfl) T.mc_VouchError T.ve_VouchError.r T.ve_VouchError.s T.ve_VouchError.e (pa_cons (pv 0) pa_nil))) (pss_one (ps_ost (pv 0) (pv 1)))), VB.er1_body h rfl⟩
theorem bag_rd {K : PySem.W.Frag} {σ : L2.St} {H : Hp} {Q : VK} {b c : Addr} {z s i k : Int} {v : V} (h0 : σ[0]? = some (some (.ref b))) (hb : H b = some (bagO z s i c)) (e : atI [V.int z, .int s, .int i, .ref c] k = some v) (q : Q v H) : tOp (rIxL K) (tVar 0) (tC (.int k)) σ H Q :=
  ⟨_, h0, b, _, k, v, rfl, rfl, SqL.of hb, e, q⟩
theorem ok_law_take (T : Tx w K mg a) : FnOk P w K mg base CX0 1 a.f_law_take a.d_law_take ["_law_bag_here", "_law_many"] (spTake K) := by
  refine T.F_law_take.ok (k := 0) sc_law_take (fun vs H Q E h => ?_) (fun cdv A outer s H vs Q E hr h => ?_)
  · exact spA_len h fun _ => rfl
  · obtain ⟨B, W, ⟨b, n⟩, en, ⟨n0, n1⟩, q⟩ := h
    have n0 : 0 < n := n0
    have n1 : n < 2 ^ 200 := n1
    have hv : vs = [.ref b, .int n] := by
      have hl := en.len
      match vs, en, hl with
      | [x, y], en, _ =>
        obtain ⟨e0, _⟩ := en.sl 0 _ rfl
        obtain ⟨v1, e1, s1⟩ := en.sl 1 _ rfl
        cases s1
        cases e0
        cases e1
        rfl
    subst hv
    obtain ⟨_, bW, c, ns, cB, hC⟩ := en.sl 0 _ rfl
    have cW : c ∉ W := fun m => cB (en.bw.sub _ m)
    refine ⟨_, PSs.nox (Evl.pss_cut (ps_if (pt_cmpR op_eq (pe_ix (VB.kIxL (K := K) rfl) (pv 0) pe_int (fun _ _ => rfl)) pe_int (nomark _)) (pss_cons (ps_set (i := 2) sc_law_take.nd rfl (Or.inl rfl) pe_int)
    (Evl.pss_cut (ps_if (pt_cmpR op_lt (pe_ix (VB.kIxL (K := K) rfl) (pv 0) pe_int (fun _ _ => rfl)) (pe_callB (VB.kLen (K := K) rfl) (by rfl) T.n_len (by decide +kernel) (pa_cons (pe_ix (VB.kIxL (K := K) rfl) (pv 0) pe_int (fun _ _ => rfl)) pa_nil)) (nomark _)) (pss_one (ps_set (i := 2) sc_law_take.nd rfl (Or.inl rfl) (pe_ix (VB.kIxL (K := K) rfl) (pe_ix (VB.kIxL (K := K) rfl) (pv 0) pe_int (fun _ _ => rfl)) (pe_ix (VB.kIxL (K := K) rfl) (pv 0) pe_int (fun _ _ => rfl)) (fun _ _ => rfl)))) pss_nil)
    (pss_cons (ps_augS (pv 0) pe_int VB.get_list pe_int ip_add set_list)
    (Evl.pss_cut (ps_if (pt_cmpR op_ge (pv 2) pe_int (nomark _)) (pss_one (ps_asg (pv 2) (pg_sub (pv 0) pe_int set_list))) pss_nil)
    (pss_cons (ps_set (i := 3) sc_law_take.nd rfl (Or.inl rfl) (pe_op op_add (pe_op op_mod (pe_callTy call_int1 (by rfl) T.n_int (by decide +kernel) (pa_cons (pv 2) pa_nil)) pe_int) (pe_op op_mul pe_int (pe_ix (VB.kIxL (K := K) rfl) (pv 0) pe_int (fun _ _ => rfl)))))
    (pss_one (ps_asg (pe_op op_mod (pe_callTy call_int1 (by rfl) T.n_int (by decide +kernel) (pa_cons (pe_op op_add (pe_op op_mul (pe_ix (VB.kIxL (K := K) rfl) (pv 0) pe_int (fun _ _ => rfl)) pe_int) (pv 3)) pa_nil)) pe_int) (pg_sub (pv 0) pe_int set_list)))))))) pss_nil)
    (pss_cons (ps_if (pt_cmpR op_gt (pe_ix (VB.kIxL (K := K) rfl) (pv 0) pe_int (fun _ _ => rfl)) pe_int (nomark _)) (pss_cons (ps_set (i := 4) sc_law_take.nd rfl (Or.inl rfl) (pe_op op_mod (pe_callTy call_int1 (by rfl) T.n_int (by decide +kernel) (pa_cons (pe_ix (VB.kIxL (K := K) rfl) (pv 0) pe_int (fun _ _ => rfl)) pa_nil)) (pv 1)))
    (pss_cons (ps_asg (pe_op op_fdivW (pe_ix (VB.kIxL (K := K) rfl) (pv 0) pe_int (fun _ _ => rfl)) (pv 1)) (pg_sub (pv 0) pe_int set_list))
    (pss_one (ps_ret (pv 4))))) pss_nil)
    (pss_cons (ps_set (i := 5) sc_law_take.nd rfl (Or.inl rfl) (pe_op op_mod (pe_callTy call_int1 (by rfl) T.n_int (by decide +kernel) (pa_cons (pe_op op_mul (pe_op op_add (pe_ix (VB.kIxL (K := K) rfl) (pv 0) pe_int (fun _ _ => rfl)) pe_int) pe_int) pa_nil)) pe_int))
    (pss_cons (ps_set (i := 6) sc_law_take.nd rfl (Or.inl rfl) (pe_op op_mod (pe_callTy call_int1 (by rfl) T.n_int (by decide +kernel) (pa_cons (pe_op op_mul (pe_op op_mod (pe_callTy call_int1 (by rfl) T.n_int (by decide +kernel) (pa_cons (pe_op op_mul (pv 5) (pv 5)) pa_nil)) pe_int) pe_int) pa_nil)) pe_int))
    (pss_cons (ps_if (pt_cmpR op_gt (pv 1) pe_int (nomark _)) (pss_one (ps_ret (pe_op op_mod (pe_callTy call_int1 (by rfl) T.n_int (by decide +kernel) (pa_cons (pe_op op_add (pe_op op_mul (pv 6) pe_int) (pv 5)) pa_nil)) (pv 1)))) pss_nil)
    (pss_one (ps_ret (pe_op op_mod (pe_callTy call_int1 (by rfl) T.n_int (by decide +kernel) (pa_cons (pe_op op_fdivW (pv 6) pe_int) pa_nil)) (pv 1))))))))), ?_⟩
    have fin : ∀ H' r, Gs W H H' → 0 ≤ r → r < n → Q (.int r) H' := fun H' r g h0 h1 => q _ _ H' g (.int r) ⟨r, rfl, h0, h1⟩
    have n9 : CDivW 0 n := wide_div (b := 200) n0 (by omega) (by decide) (by decide)
    -- the first if, whose two ways meet
    refine ⟨fun σ' H' => ∃ c2 c3, σ' = [some (.ref b), some (.int n), c2, c3, none, none, none] ∧ Gs W H H', ?_, ?_⟩
    · obtain ⟨⟨z, s1, i, hb, v1, v2, v3, v4⟩, hc, hn⟩ := hC
      refine bag_rd (v := .int z) rfl hb rfl ⟨rfl, _, rfl, ite2 (fun _ => ?_) (fun _ => ⟨none, none, rfl, Gs.refl⟩)⟩
      refine ⟨fun σ' H' => ∃ k : Int, σ' = [some (.ref b), some (.int n), some (.int k), none, none, none, none] ∧ 0 ≤ k ∧ H' = H, ?_, ?_⟩
      · refine bag_rd (v := .int i) rfl hb rfl (bag_rd (v := .ref c) rfl hb rfl ⟨_, _, rfl, Or.inl ⟨_, SqL.of hc, rfl⟩, _, _, rfl, rfl, _, rfl, ite2 (fun lt => ?_) (fun _ => ⟨0, rfl, Int.le_refl _, rfl⟩)⟩)
        have lt2 : i.toNat < ns.length := by
          have := of_decide_eq_true lt
          rw [List.length_map] at this
          omega
        refine bag_rd (v := .ref c) rfl hb rfl (bag_rd (v := .int i) rfl hb rfl ⟨c, _, i, .int (ns[i.toNat]), rfl, rfl, SqL.of hc, ?_, ?_⟩)
        · have e : i = ((i.toNat : Nat) : Int) := by omega
          have z : (ns.map V.int)[i.toNat]? = some (.int ns[i.toNat]) := by
            rw [List.getElem?_map, List.getElem?_eq_getElem lt2]
            rfl
          have z2 := atI_nat z
          rw [← e] at z2
          exact z2
        · exact ⟨_, rfl, hn _ (List.getElem_mem lt2), rfl⟩
      · rintro σ1 H1 ⟨k, rfl, k0, rfl⟩
        -- the place goes on
        refine ⟨_, rfl, b, _, 2, .int i, rfl, rfl, by decide, by decide, hb, rfl, _, _, rfl, rfl, b, _, 2, 2, rfl, rfl, hb, rfl, ?_⟩
        have g1 : Gs W H1 (upd H1 b (bagO z s1 (i + 1) c)) := Gs.bagW bW hb ⟨v1, v2, v3, by omega⟩
        have hb1 : (upd H1 b (bagO z s1 (i + 1) c)) b = some (bagO z s1 (i + 1) c) := upd_same
        show Evl.tCut _ _ _ _ (upd H1 b (bagO z s1 (i + 1) c))
        generalize upd H1 b (bagO z s1 (i + 1) c) = H2 at g1 hb1 ⊢
        refine ⟨fun σ' H' => ∃ z2 : Int, σ' = [some (.ref b), some (.int n), some (.int k), none, none, none, none] ∧ 0 ≤ z2 ∧ Gs W H1 H' ∧ H' b = some (bagO z2 s1 (i + 1) c), ?_, ?_⟩
        · refine ⟨_, rfl, _, _, rfl, rfl, _, rfl, ite2 (fun _ => ?_) (fun _ => ⟨z, rfl, v1, g1, hb1⟩)⟩
          refine ⟨_, rfl, _, rfl, b, _, 0, 0, rfl, rfl, hb1, rfl, k, rfl, k0, ?_, upd_same⟩
          exact g1.trans (Gs.bagW bW hb1 ⟨k0, v2, v3, by omega⟩)
        · rintro σ3 H3 ⟨z2, rfl, z0, g3, hb3⟩
          -- more
          refine ⟨_, rfl, Or.inl ⟨_, rfl, _, _, rfl, rfl, pos_ (by decide), bag_rd (v := .int (i + 1)) rfl hb3 rfl ⟨_, _, rfl, rfl, (by constructor <;> decide), _, _, rfl, rfl, ?_⟩⟩⟩
          refine bag_rd (v := .int s1) rfl hb3 rfl ⟨_, _, rfl, rfl, (by constructor <;> omega), _, rfl, _, _, rfl, rfl, Or.inl ⟨_, rfl, _, _, rfl, rfl, pos_ (by decide), _, rfl, b, _, 1, 1, rfl, rfl, hb3, rfl, _, _, rfl, ?_⟩⟩
          refine g3.trans (Gs.bagW bW hb3 ⟨z0, Int.emod_nonneg _ (by decide), Int.emod_lt_of_pos _ (by decide), by omega⟩)
    · rintro σ1 H1 ⟨c2, c3, rfl, g⟩
      obtain ⟨⟨z, s1, i, hb, v1, v2, v3, v4⟩, hc, hn⟩ := g.bag b bW c ns cW hC
      refine bag_rd (v := .int z) rfl hb rfl ⟨_, _, rfl, rfl, _, rfl, ite2 (fun zp => ?_) (fun _ => ?_)⟩
      · -- the cell is drawn from
        refine bag_rd (v := .int z) rfl hb rfl (Or.inl ⟨_, rfl, _, rfl, _, _, rfl, rfl, n0, ?_⟩)
        refine bag_rd (v := .int z) rfl hb rfl ⟨_, rfl, _, _, rfl, rfl, n9, _, rfl, b, _, 0, 0, rfl, rfl, hb, rfl, _, rfl, ?_⟩
        refine fin _ _ (g.trans (Gs.bagW (z' := z / n) bW hb ⟨Int.ediv_nonneg v1 (Int.le_of_lt n0), v2, v3, v4⟩)) (Int.emod_nonneg _ (by omega)) (Int.emod_lt_of_pos _ n0)
      · -- a number of its own
        refine bag_rd (v := .int s1) rfl hb rfl ⟨_, _, rfl, rfl, _, _, rfl, rfl, (by constructor <;> omega), Or.inl ⟨_, rfl, _, _, rfl, rfl, pos_ (by decide), ?_⟩⟩
        have p1 : 0 ≤ ((s1 + 1) * 39373) % 1000000007 := Int.emod_nonneg _ (by decide)
        have p2 : ((s1 + 1) * 39373) % 1000000007 < 1000000007 := Int.emod_lt_of_pos _ (by decide)
        generalize ((s1 + 1) * 39373) % 1000000007 = m at p1 p2 ⊢
        refine ⟨_, rfl, _, rfl, _, _, rfl, rfl, (by constructor <;> omega), Or.inl ⟨_, rfl, _, _, rfl, rfl, pos_ (by decide), _, _, rfl, rfl, ?_, Or.inl ⟨_, rfl, _, _, rfl, rfl, pos_ (by decide), ?_⟩⟩⟩
        · have q1 : 0 ≤ m * m % 998244353 := Int.emod_nonneg _ (by decide)
          have q2 : m * m % 998244353 < 998244353 := Int.emod_lt_of_pos _ (by decide)
          constructor <;> omega
        have p3 : 0 ≤ (m * m % 998244353 * 30011) % 998244353 := Int.emod_nonneg _ (by decide)
        have p4 : (m * m % 998244353 * 30011) % 998244353 < 998244353 := Int.emod_lt_of_pos _ (by decide)
        generalize (m * m % 998244353 * 30011) % 998244353 = m2 at p3 p4 ⊢
        refine ⟨_, rfl, _, _, rfl, rfl, _, rfl, ite2 (fun _ => ?_) (fun _ => ?_)⟩
        · exact ⟨_, rfl, _, _, rfl, rfl, (by constructor <;> omega), _, rfl, _, _, rfl, rfl, Or.inl ⟨_, rfl, _, rfl, _, _, rfl, rfl, n0, fin _ _ g (Int.emod_nonneg _ (by omega)) (Int.emod_lt_of_pos _ n0)⟩⟩
        · exact ⟨_, rfl, _, _, rfl, rfl, wide_div (b := 200) (by decide) (by decide) (by decide) (by decide), Or.inl ⟨_, rfl, _, rfl, _, _, rfl, rfl, n0, fin _ _ g (Int.emod_nonneg _ (by omega)) (Int.emod_lt_of_pos _ n0)⟩⟩
theorem ok_law_bag (T : Tx w K mg a) : FnOk P w K mg base CX0 1 a.f_law_bag a.d_law_bag ["_law_script"] (spBag K) := by
  refine T.F_law_bag.ok (k := 0) sc_law_bag (fun vs H Q E h => ?_) (fun cdv A outer s H vs Q E hr h => ?_)
  · obtain ⟨x, ns, rfl, _⟩ := h
    rfl
  · obtain ⟨x, ns, rfl, hS, hl, q⟩ := h
    refine ⟨_, PSs.nox (pss_one (ps_ret (pe_lst (pa_cons pe_int (pa_cons pe_int (pa_cons pe_int (pa_cons (pe_lc (own := [("_law_cell", 1)]) (g := gName 1) (tt := tYes) rfl sc_law_bag.nd (VB.kPiL (K := K) rfl (pe_slice (VB.kSlL (K := K) rfl) (pv 0) po_none (po_some pe_int))) (blkOk_by (N := ["_law_script", "_law_cell"]) (sc := defScope s_law_bag) (by decide +kernel)) (fun _ _ _ _ _ => pg_name (i := 1) sc_law_bag.nd rfl (Or.inl rfl)) (fun _ _ _ _ _ => pts_nil) (fun _ _ _ _ _ => (pe_callB call_abs (by rfl) T.n_abs (by decide +kernel) (pa_cons (pv 1) pa_nil)))) pa_nil))))))), ?_⟩
    refine ⟨_, rfl, 63, rfl, x, _, rfl, hS, fun p np => ?_⟩
    have ecut : cutV (ns.map V.int) none (some 63) = (cutG ns none (some 63)).map V.int := cutG_map V.int ns none (some 63)
    have hp : (upd H p (.lst (cutV (ns.map V.int) none (some 63)))) p = some (.lst ((cutG ns none (some 63)).map V.int)) := by rw [upd_same, ecut]
    generalize upd H p (.lst (cutV (ns.map V.int) none (some 63))) = H1 at hp ⊢
    have ml : (cutG ns none (some 63)).length ≤ 63 := Nat.le_trans (cutG_len ns none (some 63)) hl
    generalize cutG ns none (some 63) = ms at hp ml
    refine ⟨p, rfl, ⟨_, SqL.of hp⟩, fun D nD => ?_⟩
    have pD : p ≠ D := ne_of_none hp nD
    refine lc_list (K := K) (a := p) (xs := ms.map V.int) (fun i H2 => ∃ ks : List Int, H2 D = some (.lst (ks.map V.int)) ∧ ks.length = i ∧ (∀ k ∈ ks, 0 ≤ k) ∧ H2 p = some (.lst (ms.map V.int)))
      ⟨[], upd_same, rfl, (fun _ m => nomatch m), by rw [upd_ne pD]; exact hp⟩ (fun i H2 _ ⟨_, _, _, _, h4⟩ => SqL.of h4) ?_ ?_
    · rintro i y H2 hy ⟨ks, h1, h2, h3, h4⟩
      obtain ⟨m, rfl⟩ : ∃ m, y = V.int m := by
        rw [List.getElem?_map] at hy
        cases e : ms[i]? with
        | none =>
          rw [e] at hy
          cases hy
        | some m =>
          rw [e] at hy
          exact ⟨m, (Option.some.inj hy).symm⟩
      have hi : i < 63 := by
        have := (List.getElem?_eq_some_iff.mp hy).1
        rw [List.length_map] at this
        omega
      refine ⟨rfl, ?_⟩
      unfold tYes
      simp only [if_true]
      refine ⟨_, rfl, m, rfl, _, h1, ?_, ks ++ [if m < 0 then -m else m], ?_, ?_, ?_, ?_⟩
      · rw [List.length_map]
        have : sizeLine = 16777216 := by decide
        omega
      · rw [upd_same, List.map_append]
        rfl
      · rw [List.length_append, h2]
        rfl
      · intro k mk
        rcases List.mem_append.mp mk with z | z
        · exact h3 k z
        · rw [List.mem_singleton.mp z]
          split <;> omega
      · rw [upd_ne pD]
        exact h4
    · rintro H2 ⟨ks, h1, h2, h3, h4⟩
      refine ⟨by show 4 ≤ sizeLine; decide, fun b nb => ?_⟩
      have bD : D ≠ b := ne_of_none h1 nb
      refine q _ b D ks ⟨⟨0, 1234567891, 0, upd_same, by decide, by decide, by decide, by decide⟩, ?_, h3⟩ bD.symm
      rw [upd_ne bD]
      exact h1
end K17
namespace K17
open PySem PySem.Spec PyProof.Rows L2 VB
variable {P : Program} {w : World} {K : PySem.W.Frag} {mg : Str → Option Value} {base : Heap} {a : Ad}
noncomputable def m_is_word (thing6 : D) : M D := ((M.or2 (M.not1 (((((M.ret thing6)).bind fun a7 => ((M.ret (D.ty "str"))).bind fun a8 => (M.two D.isi) [a7, a8])).bind D.asB)) (M.not1 (((M.chain D.le D.le (M.ret (D.int 1)) (((M.ret thing6)).bind fun a9 => (M.one D.len) [a9]) (M.ret (D.int 8)))).bind D.asB)))).bind fun k10 => if k10 = true then (M.ret (D.bl false)) else (((((((M.ret thing6)).bind D.items)).bind fun ds15 => (M.map (fun letter12 => (((M.ret letter12)).bind fun a13 => ((M.ret (D.str "abcdefghijklmnopqrstuvwxyz"))).bind fun b14 => D.inM a13 b14)) ds15).bind fun es16 => .ret (.lst es16))).bind fun a17 => (M.one D.all) [a17])
noncomputable def l_is_word : List D → M D
  | [thing6] => m_is_word thing6
  | _ => .fail
noncomputable def m_is_name (thing37 : D) : M D := (M.andB (((M.ret thing37)).bind fun a38 => ((M.ret (D.ty "tuple"))).bind fun a39 => (M.two D.isi) [a38, a39]) (((((((M.ret thing37)).bind D.items)).bind fun ds43 => (M.map (fun label41 => (((M.ret label41)).bind fun a42 => m_is_word a42)) ds43).bind fun es44 => .ret (.lst es44))).bind fun a45 => (M.one D.all) [a45]))
noncomputable def l_is_name : List D → M D
  | [thing37] => m_is_name thing37
  | _ => .fail
noncomputable def m_is_flagged (thing67 : D) : M D := (M.andB (((M.ret thing67)).bind fun a68 => ((M.ret (D.ty "tuple"))).bind fun a69 => (M.two D.isi) [a68, a69]) (M.andB (((((M.ret thing67)).bind fun a70 => (M.one D.lenA) [a70])).bind fun a71 => ((M.ret (D.int 2))).bind fun b72 => D.eq a71 b72) (M.andB (((((M.ret thing67)).bind fun a73 => ((M.ret (D.int 0))).bind fun b74 => D.ixA a73 b74)).bind fun a75 => m_is_name a75) (((((M.ret thing67)).bind fun a76 => ((M.ret (D.int 1))).bind fun b77 => D.ixA a76 b77)).bind fun a78 => ((M.ret (D.ty "bool"))).bind fun a79 => (M.two D.isi) [a78, a79]))))
noncomputable def l_is_flagged : List D → M D
  | [thing67] => m_is_flagged thing67
  | _ => .fail
noncomputable def m_are_flagged (c : Cl) (thing100 : D) : M D := ((M.or2 (M.not1 (((((M.ret thing100)).bind (D.isiTE c.all [(D.ty "list"), (D.ty "tuple")]))).bind D.asB)) (M.not1 (((((((((M.ret thing100)).bind D.items)).bind fun ds104 => (M.map (fun row102 => (((M.ret row102)).bind fun a103 => m_is_flagged a103)) ds104).bind fun es105 => .ret (.lst es105))).bind fun a106 => (M.one D.all) [a106])).bind D.asB)))).bind fun k107 => if k107 = true then (M.ret (D.bl false)) else (((((((((M.ret thing100)).bind D.items)).bind fun ds112 => (M.map (fun y111 => D.un2 y111 fun name109 flag110 => (M.ret name109)) ds112).bind fun es113 => .ret (.lst es113))).bind D.lenSetT)).bind fun a115 => ((((M.ret thing100)).bind fun a114 => (M.one D.lenA) [a114])).bind fun b116 => D.eq a115 b116)
noncomputable def l_are_flagged (c : Cl) : List D → M D
  | [thing100] => m_are_flagged c thing100
  | _ => .fail
noncomputable def m_flag_at (flags158 name159 : D) : M D := ((((((M.ret name159)).bind fun a160 => (M.one D.lenA) [a160])).bind fun a161 => ((M.ret (D.int (-1)))).bind fun a162 => ((M.ret (D.int (-1)))).bind fun a163 => D.rngD [a161, a162, a163])).bind fun ds167 => (M.loop (X := Empty) (fun ys164 (s164 : Unit) => (fun size166 => ((((((((M.ret name159)).bind fun a171 => ((M.ret none)).bind fun lo172 => ((((M.ret size166)).bind fun a169 => a169.asI.bind fun i170 => .ret (some i170))).bind fun hi173 => D.sl a171 lo172 hi173)).bind fun a174 => ((M.ret flags158)).bind fun b175 => D.inA a174 b175)).bind D.asB)).bind fun k176 => if k176 = true then ((((M.ret flags158)).bind fun a182 => ((((M.ret name159)).bind fun a179 => ((M.ret none)).bind fun lo180 => ((((M.ret size166)).bind fun a177 => a177.asI.bind fun i178 => .ret (some i178))).bind fun hi181 => D.sl a179 lo180 hi181)).bind fun b183 => D.ixA a182 b183)).bind fun r184 => M.ret (Fl.rt r184) else (M.ret (Fl.nx ()))) ys164) ds167 ()).bind (Fl.toF fun s168 => (M.ret (D.bl false)))
noncomputable def l_flag_at : List D → M D
  | [flags158, name159] => m_flag_at flags158 name159
  | _ => .fail
noncomputable def m_needed_flags (flags205 : D) : M D := ((M.ret (D.dit [] []))).bind fun found206 => ((D.rowsM flags205)).bind fun ds212 => (M.fold (fun ys207 (s207 : D) => (fun y211 => D.un2 y211 fun name209 flag210 => ((((((M.ret flag210)).bind fun a223 => ((M.andB (((M.ret name209)).bind fun a214 => ((D.tupM [])).bind fun b215 => D.ne a214 b215) (((M.ret flags205)).bind fun a221 => ((((M.ret name209)).bind fun a218 => ((M.ret none)).bind fun lo219 => ((((M.ret (D.int (-1)))).bind fun a216 => a216.asI.bind fun i217 => .ret (some i217))).bind fun hi220 => D.sl a218 lo219 hi220)).bind fun a222 => m_flag_at a221 a222))).bind fun b224 => D.ne a223 b224)).bind D.asB)).bind fun k225 => if k225 = true then ((M.ret flag210)).bind fun v227 => ((M.ret name209)).bind fun i228 => D.setA s207 i228 v227 fun found226 => (M.ret found226) else (M.ret s207)) ys207) ds212 found206).bind fun s213 => (M.ret s213)
noncomputable def l_needed_flags : List D → M D
  | [flags205] => m_needed_flags flags205
  | _ => .fail
noncomputable def m_Region_init (c : Cl) (rows244 : D) : M D := ((M.not1 (((((M.ret rows244)).bind fun a245 => m_are_flagged c a245)).bind D.asB))).bind fun k246 => if k246 = true then M.fail else ((((((((M.ret rows244)).bind D.items)).bind fun ds253 => M.dc (fun y250 => D.un2 y250 fun name248 flag249 => ((M.ret name248)).bind fun k251 => ((M.ret flag249)).bind fun v252 => .ret (some (k251, v252))) ds253 (D0 true))).bind fun a254 => m_needed_flags a254)).bind fun v255 => D.setF c.Region "kept_flags" (D.ins c.Region [] []) v255 fun self256 => (M.ret self256)
noncomputable def mx_Region_init (c : Cl) (rows244 : D) : M Xr := ((M.not1 (((((M.ret rows244)).bind fun a257 => m_are_flagged c a257)).bind D.asB))).bind fun k268 => if k268 = true then ((M.ret (D.int 0))).bind (fun e269 => M.ret (Xr.ex c.Wrong "place" e269)) else (M.ok (((((((((M.ret rows244)).bind D.items)).bind fun ds264 => M.dc (fun y261 => D.un2 y261 fun name259 flag260 => ((M.ret name259)).bind fun k262 => ((M.ret flag260)).bind fun v263 => .ret (some (k262, v263))) ds264 (D0 true))).bind fun a265 => m_needed_flags a265)).bind fun v266 => D.setF c.Region "kept_flags" (D.ins c.Region [] []) v266 fun self267 => (M.ret self267)))
noncomputable def lx_Region_init (c : Cl) : List D → M Xr
  | [rows244] => mx_Region_init c rows244
  | _ => .fail
noncomputable def l_Region_init (c : Cl) : List D → M D
  | [rows244] => m_Region_init c rows244
  | _ => .fail
noncomputable def m_Region_contains (c : Cl) (self279 name280 : D) : M D := (((((M.ret self279)).bind (D.getF c.Region "kept_flags"))).bind fun a281 => ((M.ret name280)).bind fun a282 => m_flag_at a281 a282)
noncomputable def l_Region_contains (c : Cl) : List D → M D
  | [self279, name280] => m_Region_contains c self279 name280
  | _ => .fail
noncomputable def m_law_mixed (things286 : D) : M D := ((D.lstM [])).bind fun found287 => ((D.items things286)).bind fun ds292 => (M.fold (fun ys289 (s289 : D) => (fun thing291 => D.lsk s289 fun ds295 => if ds295.length < 16777216 then ((((((((M.ret s289)).bind fun a296 => (M.one D.len) [a296])).bind fun a297 => ((M.ret (D.int 1))).bind fun b298 => D.add a297 b298)).bind D.takeM)).bind fun i299 => ((M.ret thing291)).bind fun v300 => D.insK ds295 i299 v300 fun found294 => (M.ret found294) else M.fail) ys289) ds292 found287).bind fun s293 => (M.ret s293)
noncomputable def l_law_mixed : List D → M D
  | [_, things286] => m_law_mixed things286
  | _ => .fail
noncomputable def m_law_labels (many411 : D) : M D := ((M.ret (D.str "abcdefghijklmnopqrstuvwxyz"))).bind fun letters412 => ((M.ret (D.str "lists paper anchor notice trust arrive renew back all none any named open shut soft strict ok root"))).bind fun words413 => ((((((M.ret words413)).bind fun a415 => ((M.ret (D.str " a b ab zz ask days"))).bind fun b416 => D.add a415 b416)).bind fun a417 => ((M.ret (D.str " "))).bind fun b418 => D.split a417 b418)).bind fun words414 => ((((((M.ret (D.int 4))).bind D.takeM)).bind fun a419 => ((((M.ret (D.int 24))).bind D.takeM)).bind fun a420 => D.tupM [a419, a420])).bind (fun y423 => D.un2 y423 fun way421 turn422 => ((((M.ret (D.str ""))).bind fun a433 => ((((((((M.ret (D.int 1))).bind fun a425 => ((((M.ret (D.int 7))).bind D.takeM)).bind fun b426 => D.add a425 b426)).bind fun a427 => D.rng1 [a427])).bind fun ds431 => (M.map (fun k428 => (((M.ret letters412)).bind fun a429 => ((((M.ret (D.int 26))).bind D.takeM)).bind fun b430 => D.ix a429 b430)) ds431).bind fun es432 => .ret (.lst es432))).bind fun b434 => D.join a433 b434)).bind fun base424 => ((((((((((M.ret base424)).bind fun a435 => (M.one D.len) [a435])).bind fun a436 => ((M.ret (D.int 1))).bind fun b437 => D.add a436 b437)).bind D.takeM)).bind fun a440 => ((((M.ret way421)).bind fun a438 => ((M.ret (D.int 3))).bind fun b439 => D.fdiv a438 b439)).bind fun a441 => D.tupM [a440, a441])).bind (fun y444 => D.un2 y444 fun at442 far443 => ((((((M.ret way421)).bind fun a445 => ((M.ret (D.int 0))).bind fun b446 => D.eq a445 b446)).bind D.asB)).bind fun k447 => if k447 = true then (((((((M.ret words414)).bind fun a450 => ((((M.ret turn422)).bind fun a448 => a448.asI.bind fun i449 => .ret (some i449))).bind fun lo451 => ((M.ret none)).bind fun hi452 => D.sl a450 lo451 hi452)).bind fun a458 => ((((M.ret words414)).bind fun a455 => ((M.ret none)).bind fun lo456 => ((((M.ret turn422)).bind fun a453 => a453.asI.bind fun i454 => .ret (some i454))).bind fun hi457 => D.sl a455 lo456 hi457)).bind fun b459 => D.add a458 b459)).bind fun a462 => ((M.ret none)).bind fun lo463 => ((((M.ret many411)).bind fun a460 => a460.asI.bind fun i461 => .ret (some i461))).bind fun hi464 => D.sl a462 lo463 hi464) else ((((((M.ret many411)).bind fun a466 => D.rng1 [a466])).bind fun ds492 => (M.map (fun k467 => (((((M.ret letters412)).bind fun a481 => ((((((((M.ret turn422)).bind fun a476 => ((((((((M.ret (D.int 3))).bind fun a468 => ((M.ret k467)).bind fun b469 => D.mul a468 b469)).bind fun a472 => ((((M.ret k467)).bind fun a470 => ((M.ret (D.int 8))).bind fun b471 => D.fdiv a470 b471)).bind fun a473 => D.lstM [a472, a473])).bind fun a474 => ((M.ret far443)).bind fun b475 => D.ix a474 b475)).bind fun b477 => D.add a476 b477)).bind fun a478 => (M.one D.toInt) [a478])).bind fun a479 => ((M.ret (D.int 26))).bind fun b480 => D.mod a479 b480)).bind fun b482 => D.ix a481 b482)).bind fun a490 => ((((M.ret (D.int 1))).bind fun a488 => ((((((((M.ret k467)).bind fun a483 => (M.one D.toInt) [a483])).bind fun a484 => ((M.ret (D.int 8))).bind fun b485 => D.mod a484 b485)).bind fun a486 => ((M.ret far443)).bind fun b487 => D.mul a486 b487)).bind fun b489 => D.add a488 b489)).bind fun b491 => D.mul a490 b491)) ds492).bind fun es493 => .ret (.lst es493))).bind fun some465 => ((((M.ret base424)).bind fun a498 => ((((((M.ret way421)).bind fun a495 => ((M.ret (D.int 2))).bind fun b496 => D.eq a495 b496)).bind fun a497 => (M.one D.toInt) [a497])).bind fun b499 => D.mul a498 b499)).bind fun base494 => (((((M.ret many411)).bind fun a500 => D.rng1 [a500])).bind fun ds518 => (M.map (fun k501 => (((((((M.ret base494)).bind fun a504 => ((M.ret none)).bind fun lo505 => ((((M.ret at442)).bind fun a502 => a502.asI.bind fun i503 => .ret (some i503))).bind fun hi506 => D.sl a504 lo505 hi506)).bind fun a509 => ((((M.ret some465)).bind fun a507 => ((M.ret k501)).bind fun b508 => D.ix a507 b508)).bind fun b510 => D.add a509 b510)).bind fun a516 => ((((M.ret base494)).bind fun a513 => ((((M.ret at442)).bind fun a511 => a511.asI.bind fun i512 => .ret (some i512))).bind fun lo514 => ((M.ret none)).bind fun hi515 => D.sl a513 lo514 hi515)).bind fun b517 => D.add a516 b517)) ds518).bind fun es519 => .ret (.lst es519))))
noncomputable def l_law_labels : List D → M D
  | [_, many411] => m_law_labels many411
  | _ => .fail
noncomputable def m_law_name (labels_here629 most630 : D) : M D := (((((((((((M.ret most630)).bind fun a631 => ((M.ret (D.int 1))).bind fun b632 => D.add a631 b632)).bind D.takeM)).bind fun a633 => D.rng1 [a633])).bind fun ds638 => (M.map (fun k634 => (((M.ret labels_here629)).bind fun a636 => ((((((M.ret labels_here629)).bind fun a635 => (M.one D.len) [a635])).bind D.takeM)).bind fun b637 => D.ix a636 b637)) ds638).bind fun es639 => .ret (.lst es639))).bind fun a640 => (M.one D.toTup) [a640])
noncomputable def l_law_name : List D → M D
  | [_, labels_here629, most630] => m_law_name labels_here629 most630
  | _ => .fail
noncomputable def m_law_drawn_flags (labels_here652 many653 : D) : M D := ((M.ret (D.dit [] []))).bind fun found654 => ((((((((M.ret many653)).bind fun a655 => ((M.ret (D.int 1))).bind fun b656 => D.add a655 b656)).bind D.takeM)).bind fun a657 => D.rng1 [a657])).bind fun ds661 => (M.fold (fun ys658 (s658 : D) => (fun k660 => ((((((D.tupM [])).bind fun a664 => D.lstM [a664])).bind fun a666 => ((((M.ret s658)).bind fun a665 => (M.one D.toLstA) [a665])).bind fun b667 => D.add a666 b667)).bind fun some663 => ((((((((M.ret some663)).bind fun a670 => ((((((M.ret some663)).bind fun a669 => (M.one D.lenA) [a669])).bind D.takeM)).bind fun b671 => D.ixA a670 b671)).bind fun a674 => ((((M.ret labels_here652)).bind fun a672 => ((M.ret (D.int 2))).bind fun a673 => m_law_name a672 a673)).bind fun b675 => D.add a674 b675)).bind fun a678 => ((M.ret none)).bind fun lo679 => ((((M.ret (D.int 6))).bind fun a676 => a676.asI.bind fun i677 => .ret (some i677))).bind fun hi680 => D.sl a678 lo679 hi680)).bind fun name_here668 => ((((((M.ret (D.int 2))).bind D.takeM)).bind fun a681 => ((M.ret (D.int 0))).bind fun b682 => D.eq a681 b682)).bind fun v684 => ((M.ret name_here668)).bind fun i685 => D.setA s658 i685 v684 fun found683 => (M.ret found683)) ys658) ds661 found654).bind fun s662 => (M.ret s662)
noncomputable def l_law_drawn_flags : List D → M D
  | [_, labels_here652, many653] => m_law_drawn_flags labels_here652 many653
  | _ => .fail
noncomputable def m_law_is_word (thing720 : D) : M D := ((M.or2 (M.not1 (((((M.ret thing720)).bind fun a721 => ((M.ret (D.ty "str"))).bind fun a722 => (M.two D.isi) [a721, a722])).bind D.asB)) (M.or2 (((((((M.ret thing720)).bind fun a723 => (M.one D.len) [a723])).bind fun a724 => ((M.ret (D.int 1))).bind fun b725 => D.lt a724 b725)).bind D.asB) (((((((M.ret thing720)).bind fun a726 => (M.one D.len) [a726])).bind fun a727 => ((M.ret (D.int 8))).bind fun b728 => D.gt a727 b728)).bind D.asB)))).bind fun k729 => if k729 = true then (M.ret (D.bl false)) else (((((((M.ret thing720)).bind D.items)).bind fun ds736 => (M.cm (fun sign731 => ((((((M.ret sign731)).bind fun a732 => ((M.ret (D.str "abcdefghijklmnopqrstuvwxyz"))).bind fun b733 => D.ninM a732 b733)).bind D.asB)).bind fun k734 => if k734 = true then ((M.ret sign731)).bind fun y735 => .ret (some y735) else .ret none) ds736).bind fun es737 => .ret (.lst es737))).bind fun a738 => ((D.lstM [])).bind fun b739 => D.eq a738 b739)
noncomputable def l_law_is_word : List D → M D
  | [thing720] => m_law_is_word thing720
  | _ => .fail
noncomputable def m_law_is_row (thing769 : D) : M D := ((M.or2 (M.not1 (((((M.ret thing769)).bind fun a770 => ((M.ret (D.ty "tuple"))).bind fun a771 => (M.two D.isi) [a770, a771])).bind D.asB)) (M.or2 (((((((M.ret thing769)).bind fun a772 => (M.one D.lenA) [a772])).bind fun a773 => ((M.ret (D.int 2))).bind fun b774 => D.ne a773 b774)).bind D.asB) (M.not1 (((((((M.ret thing769)).bind fun a775 => ((M.ret (D.int 0))).bind fun b776 => D.ixA a775 b776)).bind fun a777 => ((M.ret (D.ty "tuple"))).bind fun a778 => (M.two D.isi) [a777, a778])).bind D.asB))))).bind fun k779 => if k779 = true then (M.ret (D.bl false)) else (M.andB (((((((((M.ret thing769)).bind fun a780 => ((M.ret (D.int 0))).bind fun b781 => D.ixA a780 b781)).bind D.items)).bind fun ds787 => (M.cm (fun part783 => ((M.not1 (((((M.ret part783)).bind fun a784 => m_law_is_word a784)).bind D.asB))).bind fun k785 => if k785 = true then ((M.ret part783)).bind fun y786 => .ret (some y786) else .ret none) ds787).bind fun es788 => .ret (.lst es788))).bind fun a789 => ((D.lstM [])).bind fun b790 => D.eq a789 b790) (((((M.ret thing769)).bind fun a791 => ((M.ret (D.int 1))).bind fun b792 => D.ixA a791 b792)).bind fun a793 => ((M.ret (D.ty "bool"))).bind fun a794 => (M.two D.isi) [a793, a794]))
noncomputable def l_law_is_row : List D → M D
  | [thing769] => m_law_is_row thing769
  | _ => .fail
noncomputable def m_law_is_good (c : Cl) (thing830 : D) : M D := ((M.or2 (M.not1 (((((M.ret thing830)).bind (D.isiTE c.all [(D.ty "list"), (D.ty "tuple")]))).bind D.asB)) (((((((((M.ret thing830)).bind D.items)).bind fun ds836 => (M.cm (fun row832 => ((M.not1 (((((M.ret row832)).bind fun a833 => m_law_is_row a833)).bind D.asB))).bind fun k834 => if k834 = true then ((M.ret row832)).bind fun y835 => .ret (some y835) else .ret none) ds836).bind fun es837 => .ret (.lst es837))).bind fun a838 => ((D.lstM [])).bind fun b839 => D.ne a838 b839)).bind D.asB))).bind fun k840 => if k840 = true then (M.ret (D.bl false)) else ((((((M.ret thing830)).bind D.items)).bind fun ds846 => (M.map (fun row843 => (((M.ret row843)).bind fun a844 => ((M.ret (D.int 0))).bind fun b845 => D.ixA a844 b845)) ds846).bind fun es847 => .ret (.lst es847))).bind fun names841 => (((((((((((M.ret names841)).bind fun a848 => (M.one D.lenA) [a848])).bind fun a849 => D.rng1 [a849])).bind fun ds862 => (M.cm (fun k850 => ((((((((M.ret names841)).bind fun a851 => ((M.ret k850)).bind fun b852 => D.ixA a851 b852)).bind fun a858 => ((((M.ret names841)).bind fun a855 => ((M.ret none)).bind fun lo856 => ((((M.ret k850)).bind fun a853 => a853.asI.bind fun i854 => .ret (some i854))).bind fun hi857 => D.sl a855 lo856 hi857)).bind fun b859 => D.inA a858 b859)).bind D.asB)).bind fun k860 => if k860 = true then ((M.ret k850)).bind fun y861 => .ret (some y861) else .ret none) ds862).bind fun es863 => .ret (.lst es863))).bind fun a864 => (M.one D.lenA) [a864])).bind fun a865 => ((M.ret (D.int 0))).bind fun b866 => D.eq a865 b866)
noncomputable def l_law_is_good (c : Cl) : List D → M D
  | [thing830] => m_law_is_good c thing830
  | _ => .fail
noncomputable def m_law_odd_row (row1016 : D) : M D := ((M.ret row1016)).bind (fun y1019 => D.un2 y1019 fun name_here1017 flag1018 => ((((((((M.ret name_here1017)).bind fun a1021 => (M.one D.lenA) [a1021])).bind fun a1022 => ((M.ret (D.int 1))).bind fun b1023 => D.add a1022 b1023)).bind D.takeM)).bind fun spot1020 => ((((((M.ret (D.str ""))).bind fun a1026 => ((M.ret (D.str "A"))).bind fun a1027 => ((M.ret (D.str "a1"))).bind fun a1028 => ((M.ret (D.str "abcdefghi"))).bind fun a1029 => ((M.ret D.non)).bind fun a1030 => ((M.ret (D.int 5))).bind fun a1031 => ((((M.ret (D.str "a"))).bind fun a1025 => D.tupM [a1025])).bind fun a1032 => ((M.ret (D.str "a b"))).bind fun a1033 => ((M.ret (D.bl true))).bind fun a1034 => ((M.ret (D.str "a.b"))).bind fun a1035 => D.lstM [a1026, a1027, a1028, a1029, a1030, a1031, a1032, a1033, a1034, a1035])).bind fun a1036 => ((((M.ret (D.int 10))).bind D.takeM)).bind fun b1037 => D.ixA a1036 b1037)).bind fun odd1024 => ((((((M.ret row1016)).bind fun a1039 => (M.one D.toLstA) [a1039])).bind fun a1054 => ((((M.ret name_here1017)).bind fun a1040 => D.tupM [a1040])).bind fun a1055 => ((((M.ret name_here1017)).bind fun a1041 => ((M.ret flag1018)).bind fun a1042 => ((M.ret flag1018)).bind fun a1043 => D.tupM [a1041, a1042, a1043])).bind fun a1056 => ((((M.ret flag1018)).bind fun a1044 => ((M.ret name_here1017)).bind fun a1045 => D.tupM [a1044, a1045])).bind fun a1057 => ((((M.ret name_here1017)).bind fun a1047 => ((((M.ret flag1018)).bind fun a1046 => (M.one D.toInt) [a1046])).bind fun a1048 => D.tupM [a1047, a1048])).bind fun a1058 => ((((M.ret name_here1017)).bind fun a1049 => ((M.ret D.non)).bind fun a1050 => D.tupM [a1049, a1050])).bind fun a1059 => ((((M.ret name_here1017)).bind fun a1052 => ((((M.ret flag1018)).bind fun a1051 => (M.one D.strB) [a1051])).bind fun a1053 => D.tupM [a1052, a1053])).bind fun a1060 => D.lstM [a1054, a1055, a1056, a1057, a1058, a1059, a1060])).bind fun some1038 => ((((M.ret some1038)).bind fun a1089 => ((((((((M.ret name_here1017)).bind fun a1062 => (M.one D.toLstA) [a1062])).bind fun a1063 => ((M.ret flag1018)).bind fun a1064 => D.tupM [a1063, a1064])).bind fun a1086 => ((((((M.ret (D.str "."))).bind fun a1065 => ((M.ret name_here1017)).bind fun b1066 => D.joinA a1065 b1066)).bind fun a1067 => ((M.ret flag1018)).bind fun a1068 => D.tupM [a1067, a1068])).bind fun a1087 => ((((((((((M.ret name_here1017)).bind fun a1071 => ((M.ret none)).bind fun lo1072 => ((((M.ret spot1020)).bind fun a1069 => a1069.asI.bind fun i1070 => .ret (some i1070))).bind fun hi1073 => D.sl a1071 lo1072 hi1073)).bind fun a1075 => ((((M.ret odd1024)).bind fun a1074 => D.tupM [a1074])).bind fun b1076 => D.add a1075 b1076)).bind fun a1082 => ((((M.ret name_here1017)).bind fun a1079 => ((((M.ret spot1020)).bind fun a1077 => a1077.asI.bind fun i1078 => .ret (some i1078))).bind fun lo1080 => ((M.ret none)).bind fun hi1081 => D.sl a1079 lo1080 hi1081)).bind fun b1083 => D.add a1082 b1083)).bind fun a1084 => ((M.ret flag1018)).bind fun a1085 => D.tupM [a1084, a1085])).bind fun a1088 => D.lstM [a1086, a1087, a1088])).bind fun b1090 => D.add a1089 b1090)).bind fun some1061 => ((((M.ret some1061)).bind fun a1123 => ((((((((((((M.ret name_here1017)).bind fun a1094 => ((M.ret none)).bind fun lo1095 => ((((M.ret spot1020)).bind fun a1092 => a1092.asI.bind fun i1093 => .ret (some i1093))).bind fun hi1096 => D.sl a1094 lo1095 hi1096)).bind fun a1098 => ((((M.ret odd1024)).bind fun a1097 => D.tupM [a1097])).bind fun b1099 => D.add a1098 b1099)).bind fun a1107 => ((((M.ret name_here1017)).bind fun a1104 => ((((((M.ret spot1020)).bind fun a1100 => ((M.ret (D.int 1))).bind fun b1101 => D.add a1100 b1101)).bind fun a1102 => a1102.asI.bind fun i1103 => .ret (some i1103))).bind fun lo1105 => ((M.ret none)).bind fun hi1106 => D.sl a1104 lo1105 hi1106)).bind fun b1108 => D.add a1107 b1108)).bind fun a1109 => ((M.ret flag1018)).bind fun a1110 => D.tupM [a1109, a1110])).bind fun a1117 => ((M.ret D.non)).bind fun a1118 => ((M.ret (D.dic [] []))).bind fun a1119 => ((M.ret name_here1017)).bind fun a1120 => ((((M.ret name_here1017)).bind fun a1113 => ((((M.ret flag1018)).bind fun a1111 => a1111.truth.bind fun k1112 => .ret (.bl (!k1112)))).bind fun a1114 => D.tupM [a1113, a1114])).bind fun a1121 => ((((M.ret D.non)).bind fun a1115 => ((M.ret flag1018)).bind fun a1116 => D.tupM [a1115, a1116])).bind fun a1122 => D.lstM [a1117, a1118, a1119, a1120, a1121, a1122])).bind fun b1124 => D.add a1123 b1124)).bind fun some1091 => (((M.ret some1091)).bind fun a1125 => ((((M.ret (D.int 16))).bind D.takeM)).bind fun b1126 => D.ixA a1125 b1126))
noncomputable def l_law_odd_row : List D → M D
  | [_, row1016] => m_law_odd_row row1016
  | _ => .fail
noncomputable def m_law_spoilt (rows1296 size1297 : D) : M D := ((((M.ret (D.int 6))).bind D.takeM)).bind fun way1301 => ((((((((M.ret rows1296)).bind fun a1298 => (M.one D.lenA) [a1298])).bind fun a1299 => ((M.ret (D.int 1))).bind fun b1300 => D.add a1299 b1300)).bind D.takeM)).bind fun spot1302 => ((((((((M.ret rows1296)).bind fun a1310 => ((((M.ret spot1302)).bind fun a1304 => a1304.asI.bind fun i1305 => .ret (some i1305))).bind fun lo1311 => ((((((M.ret spot1302)).bind fun a1306 => ((M.ret (D.int 1))).bind fun b1307 => D.add a1306 b1307)).bind fun a1308 => a1308.asI.bind fun i1309 => .ret (some i1309))).bind fun hi1312 => D.sl a1310 lo1311 hi1312)).bind fun a1317 => ((((((((M.ret (D.str "a"))).bind fun a1313 => D.tupM [a1313])).bind fun a1314 => ((M.ret (D.bl true))).bind fun a1315 => D.tupM [a1314, a1315])).bind fun a1316 => D.lstM [a1316])).bind fun b1318 => D.add a1317 b1318)).bind fun a1319 => ((M.ret (D.int 0))).bind fun b1320 => D.ixA a1319 b1320)).bind fun row1303 => ((((((M.ret way1301)).bind fun a1321 => ((M.ret (D.int 0))).bind fun b1322 => D.eq a1321 b1322)).bind D.asB)).bind fun k1323 => if k1323 = true then ((((M.ret D.non)).bind fun a1325 => D.lstM [a1325])).bind fun deep1324 => ((((M.ret (D.int 29))).bind fun a1326 => D.rng1 [a1326])).bind fun ds1330 => (M.fold (fun ys1327 (s1327 : D) => (fun k1329 => ((((M.ret s1327)).bind fun a1333 => D.lstM [a1333])).bind fun deep1332 => (M.ret deep1332)) ys1327) ds1330 deep1324).bind fun s1331 => ((((M.ret D.non)).bind fun a1346 => ((M.ret (D.int 5))).bind fun a1347 => ((M.ret (D.str ""))).bind fun a1348 => ((M.ret (D.str "rows"))).bind fun a1349 => ((M.ret (D.dic [] []))).bind fun a1350 => ((M.ret (D.bl true))).bind fun a1351 => ((((M.ret rows1296)).bind fun a1335 => (M.one D.dictPT) [a1335])).bind fun a1352 => ((((D.lstM [])).bind fun a1336 => D.lstM [a1336])).bind fun a1353 => ((((D.tupM [])).bind fun a1337 => D.lstM [a1337])).bind fun a1354 => ((((((D.tupM [])).bind fun a1338 => ((M.ret (D.bl true))).bind fun a1339 => D.tupM [a1338, a1339])).bind fun a1340 => D.tupM [a1340])).bind fun a1355 => ((((D.tupM [])).bind fun a1341 => ((M.ret (D.bl true))).bind fun a1342 => D.tupM [a1341, a1342])).bind fun a1356 => ((M.ret s1331)).bind fun a1357 => ((((((M.ret D.non)).bind fun a1343 => D.lstM [a1343])).bind fun a1344 => ((M.ret size1297)).bind fun b1345 => D.mul a1344 b1345)).bind fun a1358 => D.lstM [a1346, a1347, a1348, a1349, a1350, a1351, a1352, a1353, a1354, a1355, a1356, a1357, a1358])).bind fun odd1334 => (((M.ret odd1334)).bind fun a1359 => ((((M.ret (D.int 13))).bind D.takeM)).bind fun b1360 => D.ixA a1359 b1360) else ((((((M.ret way1301)).bind fun a1361 => ((M.ret (D.int 1))).bind fun b1362 => D.eq a1361 b1362)).bind D.asB)).bind fun k1363 => if k1363 = true then (((((((M.ret rows1296)).bind fun a1366 => ((M.ret none)).bind fun lo1367 => ((((M.ret spot1302)).bind fun a1364 => a1364.asI.bind fun i1365 => .ret (some i1365))).bind fun hi1368 => D.sl a1366 lo1367 hi1368)).bind fun a1370 => ((((M.ret row1303)).bind fun a1369 => D.lstM [a1369])).bind fun b1371 => D.add a1370 b1371)).bind fun a1377 => ((((M.ret rows1296)).bind fun a1374 => ((((M.ret spot1302)).bind fun a1372 => a1372.asI.bind fun i1373 => .ret (some i1373))).bind fun lo1375 => ((M.ret none)).bind fun hi1376 => D.sl a1374 lo1375 hi1376)).bind fun b1378 => D.add a1377 b1378) else ((((((M.ret way1301)).bind fun a1379 => ((M.ret (D.int 2))).bind fun b1380 => D.eq a1379 b1380)).bind D.asB)).bind fun k1381 => if k1381 = true then (((((((M.ret rows1296)).bind fun a1384 => ((M.ret none)).bind fun lo1385 => ((((M.ret spot1302)).bind fun a1382 => a1382.asI.bind fun i1383 => .ret (some i1383))).bind fun hi1386 => D.sl a1384 lo1385 hi1386)).bind fun a1396 => ((((((((M.ret row1303)).bind fun a1387 => ((M.ret (D.int 0))).bind fun b1388 => D.ixA a1387 b1388)).bind fun a1393 => ((((((M.ret row1303)).bind fun a1389 => ((M.ret (D.int 1))).bind fun b1390 => D.ixA a1389 b1390)).bind fun a1391 => a1391.truth.bind fun k1392 => .ret (.bl (!k1392)))).bind fun a1394 => D.tupM [a1393, a1394])).bind fun a1395 => D.lstM [a1395])).bind fun b1397 => D.add a1396 b1397)).bind fun a1403 => ((((M.ret rows1296)).bind fun a1400 => ((((M.ret spot1302)).bind fun a1398 => a1398.asI.bind fun i1399 => .ret (some i1399))).bind fun lo1401 => ((M.ret none)).bind fun hi1402 => D.sl a1400 lo1401 hi1402)).bind fun b1404 => D.add a1403 b1404) else ((((((M.ret way1301)).bind fun a1405 => ((M.ret (D.int 3))).bind fun b1406 => D.eq a1405 b1406)).bind D.asB)).bind fun k1407 => if k1407 = true then (((((((M.ret rows1296)).bind fun a1410 => ((M.ret none)).bind fun lo1411 => ((((M.ret spot1302)).bind fun a1408 => a1408.asI.bind fun i1409 => .ret (some i1409))).bind fun hi1412 => D.sl a1410 lo1411 hi1412)).bind fun a1415 => ((((((M.ret row1303)).bind fun a1413 => m_law_odd_row a1413)).bind fun a1414 => D.lstM [a1414])).bind fun b1416 => D.add a1415 b1416)).bind fun a1422 => ((((M.ret rows1296)).bind fun a1419 => ((((M.ret spot1302)).bind fun a1417 => a1417.asI.bind fun i1418 => .ret (some i1418))).bind fun lo1420 => ((M.ret none)).bind fun hi1421 => D.sl a1419 lo1420 hi1421)).bind fun b1423 => D.add a1422 b1423) else (((((((M.ret rows1296)).bind fun a1426 => ((M.ret none)).bind fun lo1427 => ((((M.ret spot1302)).bind fun a1424 => a1424.asI.bind fun i1425 => .ret (some i1425))).bind fun hi1428 => D.sl a1426 lo1427 hi1428)).bind fun a1431 => ((((((M.ret row1303)).bind fun a1429 => m_law_odd_row a1429)).bind fun a1430 => D.lstM [a1430])).bind fun b1432 => D.add a1431 b1432)).bind fun a1440 => ((((M.ret rows1296)).bind fun a1437 => ((((((M.ret spot1302)).bind fun a1433 => ((M.ret (D.int 1))).bind fun b1434 => D.add a1433 b1434)).bind fun a1435 => a1435.asI.bind fun i1436 => .ret (some i1436))).bind fun lo1438 => ((M.ret none)).bind fun hi1439 => D.sl a1437 lo1438 hi1439)).bind fun b1441 => D.add a1440 b1441)
noncomputable def l_law_spoilt : List D → M D
  | [_, rows1296, size1297] => m_law_spoilt rows1296 size1297
  | _ => .fail
noncomputable def m_law_tried (c : Cl) (thing1571 : D) : M D := (M.tryAs c.Wrong "place" (((M.ret (D.str "made"))).bind fun a1573 => ((((M.ret thing1571)).bind fun a1572 => mx_Region_init c a1572)).bind (Xr.next fun a1574 => .ret (.ok (.tup [a1573, a1574])))) (fun d => D.tupM [D.str "refused", d]))
noncomputable def l_law_tried (c : Cl) : List D → M D
  | [thing1571] => m_law_tried c thing1571
  | _ => .fail
noncomputable def m_law (c : Cl) : M D := ((((((M.ret (D.int 2))).bind fun a1580 => ((((M.ret (D.int 2))).bind D.takeM)).bind fun b1581 => D.add a1580 b1581)).bind fun a1582 => m_law_labels a1582)).bind fun labels_here1579 => ((((M.ret (D.int 16))).bind fun a1583 => D.rng1 [a1583])).bind fun ds1587 => (M.loop (X := Empty) (fun ys1584 (s1584 : Unit) => (fun k1586 => ((((((((M.ret labels_here1579)).bind fun a1590 => ((M.ret (D.int 6))).bind fun a1591 => m_law_drawn_flags a1590 a1591)).bind D.listItems)).bind fun a1592 => m_law_mixed a1592)).bind fun good1589 => ((((M.ret good1589)).bind fun a1594 => (M.one D.toLstA) [a1594])).bind fun thing1593 => ((((((M.ret (D.int 3))).bind D.takeM)).bind fun a1595 => D.rng1 [a1595])).bind fun ds1599 => (M.fold (fun ys1596 (s1596 : D) => (fun time1598 => ((M.and2 (((((M.ret s1596)).bind fun a1601 => ((M.ret (D.ty "list"))).bind fun a1602 => (M.two D.isiE) [a1601, a1602])).bind D.asB) (((((((((M.ret s1596)).bind D.items)).bind fun ds1608 => (M.cm (fun row1604 => ((M.not1 (((((M.ret row1604)).bind fun a1605 => m_law_is_row a1605)).bind D.asB))).bind fun k1606 => if k1606 = true then ((M.ret row1604)).bind fun y1607 => .ret (some y1607) else .ret none) ds1608).bind fun es1609 => .ret (.lst es1609))).bind fun a1610 => ((D.lstM [])).bind fun b1611 => D.eq a1610 b1611)).bind D.asB))).bind fun k1612 => if k1612 = true then ((((M.ret s1596)).bind fun a1621 => ((((((M.ret (D.int 900))).bind fun a1614 => ((M.ret (D.int 19990))).bind fun a1615 => D.lstM [a1614, a1615])).bind fun a1619 => ((((((M.ret k1586)).bind fun a1616 => ((M.ret (D.int 0))).bind fun b1617 => D.eq a1616 b1617)).bind fun a1618 => (M.one D.toInt) [a1618])).bind fun b1620 => D.ixA a1619 b1620)).bind fun a1622 => m_law_spoilt a1621 a1622)).bind fun thing1613 => (M.ret thing1613) else (M.ret s1596)) ys1596) ds1599 thing1593).bind fun s1600 => (((M.and2 (((((M.ret s1600)).bind fun a1630 => ((M.ret (D.ty "list"))).bind fun a1631 => (M.two D.isiE) [a1630, a1631])).bind D.asB) (((((((M.ret (D.int 4))).bind D.takeM)).bind fun a1632 => ((M.ret (D.int 0))).bind fun b1633 => D.eq a1632 b1633)).bind D.asB))).bind fun k1634 => if k1634 = true then ((((M.ret s1600)).bind fun a1636 => (M.one D.toTup) [a1636])).bind fun thing1635 => (M.ret thing1635) else (M.ret s1600) : M (D)).bind fun s1628 => ((((M.ret s1628)).bind fun a1638 => (M.one D.reprE) [a1638])).bind fun shown1637 => ((((M.ret s1628)).bind fun a1639 => m_law_tried c a1639)).bind (fun y1642 => D.un2 y1642 fun word1640 found1641 => ((M.or2 (((((((M.ret s1628)).bind fun a1643 => (M.one D.reprE) [a1643])).bind fun a1644 => ((M.ret shown1637)).bind fun b1645 => D.ne a1644 b1645)).bind D.asB) (((((((M.ret word1640)).bind fun a1646 => ((M.ret (D.str "made"))).bind fun b1647 => D.eq a1646 b1647)).bind fun a1649 => ((((M.ret s1628)).bind fun a1648 => m_law_is_good c a1648)).bind fun b1650 => D.ne a1649 b1650)).bind D.asB))).bind fun k1651 => if k1651 = true then ((M.ret (D.bl false))).bind fun r1652 => M.ret (Fl.rt r1652) else ((M.and2 (((((M.ret word1640)).bind fun a1653 => ((M.ret (D.str "refused"))).bind fun b1654 => D.eq a1653 b1654)).bind D.asB) (((((((M.ret found1641)).bind fun a1655 => (M.one D.reprM) [a1655])).bind fun a1656 => ((M.ret (D.str "0"))).bind fun b1657 => D.ne a1656 b1657)).bind D.asB))).bind fun k1658 => if k1658 = true then ((M.ret (D.bl false))).bind fun r1659 => M.ret (Fl.rt r1659) else (((((((M.ret word1640)).bind fun a1665 => ((M.ret (D.str "made"))).bind fun b1666 => D.eq a1665 b1666)).bind D.asB)).bind fun k1667 => if k1667 = true then ((((M.ret s1628)).bind D.items)).bind fun ds1674 => (M.loop (X := Unit) (fun ys1669 (s1669 : Unit) => (fun y1673 => D.un2 y1673 fun name_here1671 flag1672 => ((((((((M.ret name_here1671)).bind fun a1676 => ((M.ret found1641)).bind fun b1677 => D.inO c.Region (l_Region_contains c) a1676 b1677)).bind fun a1678 => ((M.ret flag1672)).bind fun b1679 => D.ne a1678 b1679)).bind D.asB)).bind fun k1680 => if k1680 = true then ((M.ret (D.bl false))).bind fun r1681 => M.ret (Fl.rt r1681) else (M.ret (Fl.nx ()))) ys1669) ds1674 ()).bind (Fl.toS fun s1675 => (M.ret (Fl.nx ()))) else (M.ret (Fl.nx ()))).bind (Fl.toS fun s1663 => ((((((((((M.ret good1589)).bind D.items)).bind fun ds1693 => (M.cm (fun y1685 => D.un2 y1685 fun name_here1683 flag1684 => ((((((((M.ret name_here1683)).bind fun a1687 => ((((M.ret good1589)).bind fun a1686 => m_Region_init c a1686)).bind fun b1688 => D.inO c.Region (l_Region_contains c) a1687 b1688)).bind fun a1689 => ((M.ret flag1684)).bind fun b1690 => D.ne a1689 b1690)).bind D.asB)).bind fun k1691 => if k1691 = true then ((M.ret name_here1683)).bind fun y1692 => .ret (some y1692) else .ret none) ds1693).bind fun es1694 => .ret (.lst es1694))).bind fun a1695 => ((D.lstM [])).bind fun b1696 => D.ne a1695 b1696)).bind D.asB)).bind fun k1697 => if k1697 = true then ((M.ret (D.bl false))).bind fun r1698 => M.ret (Fl.rt r1698) else (M.ret (Fl.nx ()))))) ys1584) ds1587 ()).bind (Fl.toF fun s1588 => (M.ret (D.bl true)))
end K17
namespace K17
open PySem PySem.Spec PyProof.Rows L2 VB
variable {P : Program} {w : World} {K : PySem.W.Frag} {mg : Str → Option Value} {base : Heap} {a : Ad}
theorem ok_is_word (T : Tx w K mg a) : FnOk P w K mg base CX0 1 a.f_is_word a.d_is_word ["thing"] (spM K [.bor] l_is_word) := by
  refine T.F_is_word.ok (k := 0) sc_is_word (fun vs H Q E h => spM_len h) (fun cdv A outer s H vs Q E hr h => ?_)
  refine ⟨_, PSs.nox (pss_cons (ps_if (PW.pt (pw_or (pt_not (pt_val (pe_callB (VB.kIsi (K := K) rfl) (by rfl) T.n_isinstance (by decide +kernel) (pa_cons (pv 0) (pa_cons (pe_bltn (v := .ty "str") (u := .type "str") (by rfl) T.n_str (by decide +kernel) rfl) pa_nil))))) (pw_or1 (pt_not (pt_chain VB.op_leX VB.op_leX pe_int (pe_callB (VB.kLen (K := K) rfl) (by rfl) T.n_len (by decide +kernel) (pa_cons (pv 0) pa_nil)) (pe_glob (v := .int 8) (by rfl) T.g_MOST_LETTERS ⟨_, rfl⟩)))))) (pss_one (ps_ret pe_bl)) pss_nil)
    (pss_one (ps_ret (pe_callB (VB.kAll (K := K) rfl rfl) (by rfl) T.n_all (by decide +kernel) (pa_cons (pe_lc (own := [("letter", 1)]) (g := gName 1) (tt := tYes) rfl sc_is_word.nd (VB.pi_dat (K := K) rfl (pv 0)) (blkOk_by (N := ["thing", "letter"]) (sc := defScope s_is_word) (by decide +kernel)) (fun _ _ _ _ _ => (pg_name (i := 1) sc_is_word.nd rfl (Or.inl rfl))) (fun _ _ _ _ _ => pts_nil) (fun _ _ _ _ _ => (pe_cmpR (VB.op_inX (K := K) rfl (VB.room65 hr)) (pv 1) (pe_glob (v := .str "abcdefghijklmnopqrstuvwxyz") (by rfl) T.g_LETTERS ⟨_, rfl⟩) (by rfl)))) pa_nil))))), body_M h fun ds hd => ?_⟩
  match ds, hd with
  | _, (.bor thing6 .nil) =>
    refine ⟨[.bor thing6, .no], rfl, ?_⟩
    show G K _ _ _ (m_is_word thing6) CF
    unfold m_is_word
    exact (G.ifS (RT.or (RT.not (RT.b (RE.rr (RE.cb isi_c (RAr.cons (RR.bor (d := thing6) rfl) (RAr.cons (RE.rr RE.ty) RAr.nil)))))) (RT.not (RT.test (RE.rr (RE.chain le_d le_d (RE.rr RE.int) (RE.rr (RE.cb len_c (RAr.cons (RR.bor (d := thing6) rfl) RAr.nil))) (RE.rr RE.int)))))) (G.retF (fun _ r => r.1) RE.bl) (G.next (G.one (G.retF (fun _ r => r.1) (RE.cb all_c (RAr.cons (RE.rr (RN.re (RN.map (p := .nm 1) (js := [1]) (RI.rd (RR.bor (d := thing6) rfl)) (fun _ m => m) (PB.nm fun letter12 P w => CTp.of (RE.op in_d (RE.rr (RE.var (d := letter12) rfl)) (RE.rr RE.str)) w)))) RAr.nil))))))
theorem ok_is_name (T : Tx w K mg a) : FnOk P w K mg base CX0 2 a.f_is_name a.d_is_name ["thing"] (spM K [.bor] l_is_name) := by
  refine T.F_is_name.ok (k := 1) sc_is_name (fun vs H Q E h => spM_len h) (fun cdv A outer s H vs Q E hr h => ?_)
  refine ⟨_, PSs.nox (pss_one (ps_ret (pe_and (pe_callB (VB.kIsi (K := K) rfl) (by rfl) T.n_isinstance (by decide +kernel) (pa_cons (pv 0) (pa_cons (pe_bltn (v := .ty "tuple") (u := .type "tuple") (by rfl) T.n_tuple (by decide +kernel) rfl) pa_nil))) (pe_one (pe_callB (VB.kAll (K := K) rfl rfl) (by rfl) T.n_all (by decide +kernel) (pa_cons (pe_lc (own := [("label", 1)]) (g := gName 1) (tt := tYes) rfl sc_is_name.nd (VB.pi_dat (K := K) rfl (pv 0)) (blkOk_by (N := ["thing", "label"]) (sc := defScope s_is_name) (by decide +kernel)) (fun _ _ _ _ _ => (pg_name (i := 1) sc_is_name.nd rfl (Or.inl rfl))) (fun _ _ _ _ _ => pts_nil) (fun _ _ _ _ _ => (pe_call (ok_is_word (K := K) T) (hr.mono (by decide)) (by rfl) T.m_is_word T.k_is_word T.b_is_word .nil pass0 (pa_cons (pv 1) pa_nil)))) pa_nil)))))), body_M h fun ds hd => ?_⟩
  match ds, hd with
  | _, (.bor thing37 .nil) =>
    refine ⟨[.bor thing37, .no], rfl, ?_⟩
    show G K _ _ _ (m_is_name thing37) CF
    unfold m_is_name
    exact (G.one (G.retF (fun _ r => r.1) (RE.andV (RE.cb isi_c (RAr.cons (RR.bor (d := thing37) rfl) (RAr.cons (RE.rr RE.ty) RAr.nil))) (RE.cb all_c (RAr.cons (RE.rr (RN.re (RN.map (p := .nm 1) (js := [1]) (RI.rd (RR.bor (d := thing37) rfl)) (fun _ m => m) (PB.nm fun label41 P w => CTp.of (RE.callE (RAm.bor (RE.rr (RE.var (d := label41) rfl)) RAm.nil) rfl) w)))) RAr.nil)))))
theorem ok_is_flagged (T : Tx w K mg a) : FnOk P w K mg base CX0 3 a.f_is_flagged a.d_is_flagged ["thing"] (spM K [.bor] l_is_flagged) := by
  refine T.F_is_flagged.ok (k := 2) sc_is_flagged (fun vs H Q E h => spM_len h) (fun cdv A outer s H vs Q E hr h => ?_)
  refine ⟨_, PSs.nox (pss_one (ps_ret (pe_and (pe_callB (VB.kIsi (K := K) rfl) (by rfl) T.n_isinstance (by decide +kernel) (pa_cons (pv 0) (pa_cons (pe_bltn (v := .ty "tuple") (u := .type "tuple") (by rfl) T.n_tuple (by decide +kernel) rfl) pa_nil))) (pe_and (pe_cmpR (VB.op_eqX (K := K) rfl hr.units) (pe_callB (VB.kLenA (K := K) rfl) (by rfl) T.n_len (by decide +kernel) (pa_cons (pv 0) pa_nil)) pe_int (nomark _)) (pe_and (pe_call (ok_is_name (K := K) T) (hr.mono (by decide)) (by rfl) T.m_is_name T.k_is_name T.b_is_name .nil pass0 (pa_cons (pe_ix (VB.ixA (K := K) rfl (VB.room65 hr)) (pv 0) pe_int (fun _ _ => rfl)) pa_nil)) (pe_one (pe_callB (VB.kIsi (K := K) rfl) (by rfl) T.n_isinstance (by decide +kernel) (pa_cons (pe_ix (VB.ixA (K := K) rfl (VB.room65 hr)) (pv 0) pe_int (fun _ _ => rfl)) (pa_cons (pe_bltn (v := .ty "bool") (u := .type "bool") (by rfl) T.n_bool (by decide +kernel) rfl) pa_nil))))))))), body_M h fun ds hd => ?_⟩
  match ds, hd with
  | _, (.bor thing67 .nil) =>
    refine ⟨[.bor thing67], rfl, ?_⟩
    show G K _ _ _ (m_is_flagged thing67) CF
    unfold m_is_flagged
    exact (G.one (G.retF (fun _ r => r.1) (RE.andV (RE.cb isi_c (RAr.cons (RR.bor (d := thing67) rfl) (RAr.cons (RE.rr RE.ty) RAr.nil))) (RE.andV (RE.op eq_d (RE.rr (RE.cb lenA_c (RAr.cons (RR.bor (d := thing67) rfl) RAr.nil))) (RE.rr RE.int)) (RE.andV (RE.callE (RAm.bor (RE.rr (RE.op ixA_d (RR.bor (d := thing67) rfl) (RE.rr RE.int))) RAm.nil) rfl) (RE.cb isi_c (RAr.cons (RE.rr (RE.op ixA_d (RR.bor (d := thing67) rfl) (RE.rr RE.int))) (RAr.cons (RE.rr RE.ty) RAr.nil))))))))
theorem ok_are_flagged (T : Tx w K mg a) : FnOk P w K mg base CX0 4 a.f_are_flagged a.d_are_flagged ["thing"] (spM K [.bor] (l_are_flagged a.c)) := by
  refine T.F_are_flagged.ok (k := 3) sc_are_flagged (fun vs H Q E h => spM_len h) (fun cdv A outer s H vs Q E hr h => ?_)
  refine ⟨_, PSs.nox (pss_cons (ps_if (PW.pt (pw_or (pt_not (pt_val (pe_callB (VB.cr_isiTE (K := K) rfl) (by rfl) T.n_isinstance (by decide +kernel) (pa_cons (pv 0) (pa_cons (pe_tup (pa_cons (pe_bltn (v := .ty "list") (u := .type "list") (by rfl) T.n_list (by decide +kernel) rfl) (pa_cons (pe_bltn (v := .ty "tuple") (u := .type "tuple") (by rfl) T.n_tuple (by decide +kernel) rfl) pa_nil))) pa_nil))))) (pw_or1 (pt_not (pt_val (pe_callB (VB.kAll (K := K) rfl rfl) (by rfl) T.n_all (by decide +kernel) (pa_cons (pe_lc (own := [("row", 1)]) (g := gName 1) (tt := tYes) rfl sc_are_flagged.nd (VB.pi_dat (K := K) rfl (pv 0)) (blkOk_by (N := ["thing", "row", "name", "flag"]) (sc := defScope s_are_flagged) (by decide +kernel)) (fun _ _ _ _ _ => (pg_name (i := 1) sc_are_flagged.nd rfl (Or.inl rfl))) (fun _ _ _ _ _ => pts_nil) (fun _ _ _ _ _ => (pe_call (ok_is_flagged (K := K) T) (hr.mono (by decide)) (by rfl) T.m_is_flagged T.k_is_flagged T.b_is_flagged .nil pass0 (pa_cons (pv 1) pa_nil)))) pa_nil))))))) (pss_one (ps_ret pe_bl)) pss_nil)
    (pss_one (ps_ret (pe_cmpR (VB.op_eqX (K := K) rfl hr.units) (pe_callB (VB.cr_lenT rfl rfl) (by rfl) T.n_len (by decide +kernel) (pa_cons (pe_callTy (VB.cr_setT (K := K) rfl rfl rfl rfl (Nat.lt_trans (Nat.lt_succ_self _) (VB.room65 hr))) (by rfl) T.n_set (by decide +kernel) (pa_cons (pe_lc (own := [("name", 2), ("flag", 3)]) (tt := tYes) rfl sc_are_flagged.nd (VB.pi_dat (K := K) rfl (pv 0)) (blkOk_by (N := ["thing", "row", "name", "flag"]) (sc := defScope s_are_flagged) (by decide +kernel)) (fun _ _ _ _ _ => (VB.kTg (K := K) (n := 2) rfl rfl (pgs_cons (pg_name (i := 2) sc_are_flagged.nd rfl (Or.inl rfl)) (pgs_cons (pg_name (i := 3) sc_are_flagged.nd rfl (Or.inl rfl)) pgs_nil)))) (fun _ _ _ _ _ => pts_nil) (fun _ _ _ _ _ => (pv 2))) pa_nil)) pa_nil)) (pe_callB (VB.kLenA (K := K) rfl) (by rfl) T.n_len (by decide +kernel) (pa_cons (pv 0) pa_nil)) (nomark _))))), body_M h fun ds hd => ?_⟩
  match ds, hd with
  | _, (.bor thing100 .nil) =>
    refine ⟨[.bor thing100, .no, .no, .no], rfl, ?_⟩
    show G K _ _ _ (m_are_flagged a.c thing100) CF
    unfold m_are_flagged
    exact (G.ifS (RT.or (RT.not (RT.b (RE.rr (RE.isiTE (cs := [(D.ty "list"), (D.ty "tuple")]) T.kc (RR.bor (d := thing100) rfl) (fun _ _ _ q => q))))) (RT.not (RT.b (RE.rr (RE.cb all_c (RAr.cons (RE.rr (RN.re (RN.map (p := .nm 1) (js := [1]) (RI.rd (RR.bor (d := thing100) rfl)) (fun _ m => m) (PB.nm fun row102 P w => CTp.of (RE.callE (RAm.bor (RE.rr (RE.var (d := row102) rfl)) RAm.nil) rfl) w)))) RAr.nil)))))) (G.retF (fun _ r => r.1) RE.bl) (G.next (G.one (G.retF (fun _ r => r.1) (RE.op eq_d (RE.rr (RE.lenSetT (RE.rr (RN.re (RN.map (p := Pt.two 2 3) (js := [2, 3]) (RI.rd (RR.bor (d := thing100) rfl)) (fun _ m => m) (PB.two fun name109 flag110 P w => CTp.of (RE.var (d := name109) rfl) w)))))) (RE.rr (RE.cb lenA_c (RAr.cons (RR.bor (d := thing100) rfl) RAr.nil))))))))
theorem ok_flag_at (T : Tx w K mg a) : FnOk P w K mg base CX0 1 a.f_flag_at a.d_flag_at ["flags", "name"] (spM K [.bor, .bor] l_flag_at) := by
  refine T.F_flag_at.ok (k := 0) sc_flag_at (fun vs H Q E h => spM_len h) (fun cdv A outer s H vs Q E hr h => ?_)
  refine ⟨_, PSs.nox (pss_cons (ps_for PassesOwn.never rfl (pi_range3 rfl T.n_range (pa_cons (pe_callB (VB.kLenA (K := K) rfl) (by rfl) T.n_len (by decide +kernel) (pa_cons (pv 1) pa_nil)) (pa_cons (pe_un un_neg pe_int) (pa_cons (pe_un un_neg pe_int) pa_nil)))) (pg_name (i := 2) sc_flag_at.nd rfl (Or.inl rfl))
      (pss_one (ps_if (pt_cmpR (VB.op_inA (K := K) rfl (VB.room65 hr)) (pe_slice (VB.slX (K := K) rfl) (pv 1) po_none (po_some (pv 2))) (pv 0) (by rfl)) (pss_one (ps_ret (pe_ix (VB.ixA (K := K) rfl (VB.room65 hr)) (pv 0) (pe_slice (VB.slX (K := K) rfl) (pv 1) po_none (po_some (pv 2))) (fun _ _ => rfl)))) pss_nil)))
    (pss_one (ps_ret pe_bl))), body_M h fun ds hd => ?_⟩
  match ds, hd with
  | _, (.bor flags158 (.bor name159 .nil)) =>
    refine ⟨[.bor flags158, .bor name159, .no], rfl, ?_⟩
    show G K _ _ _ (m_flag_at flags158 name159) CF
    unfold m_flag_at
    exact (G.forF (embL := fun s165 : Unit => [.bor flags158, .bor name159, .no]) (s0 := ()) (p := .nm 2) (fun _ r => r.1) (RI.rngD (RAr.cons (RE.rr (RE.cb lenA_c (RAr.cons (RR.bor (d := name159) rfl) RAr.nil))) (RAr.cons (RE.rr RE.negC) (RAr.cons (RE.rr RE.negC) RAr.nil)))) (.same _ (.same _ (.same _ .nil))) (fun s164 => PB.nm fun size166 P w => LT.of (by exact (G.one (G.ifS (RT.test (RE.rr (RE.op inA_d (RE.rr (RE.sl sl_d (RR.bor (d := name159) rfl) RO.none (RO.some (RE.var (d := size166) rfl)))) (RR.bor (d := flags158) rfl)))) (G.retS (fun _ r => r.1) (RE.op ixA_d (RR.bor (d := flags158) rfl) (RE.rr (RE.sl sl_d (RR.bor (d := name159) rfl) RO.none (RO.some (RE.var (d := size166) rfl)))))) (G.next (G.finS (.same _ (.same _ (.drop _ .nil)))))))) w) (fun s168 => (G.one (G.retF (fun _ r => r.1) RE.bl))))
theorem ok_needed_flags (T : Tx w K mg a) : FnOk P w K mg base CX0 2 a.f_needed_flags a.d_needed_flags ["flags"] (spMN K [.dat] l_needed_flags) := by
  refine T.F_needed_flags.ok (k := 1) sc_needed_flags (fun vs H Q E h => spMN_len h) (fun cdv A outer s H vs Q E hr h => ?_)
  refine ⟨_, PSs.nox (pss_cons (ps_set (i := 1) sc_needed_flags.nd rfl (Or.inl rfl) pe_dnewT)
    (pss_cons (VB.ps_lockX (ps_for PassesOwn.never rfl (VB.pi_itR (pv 0)) (VB.kTg (K := K) (n := 2) rfl rfl (pgs_cons (pg_name (i := 2) sc_needed_flags.nd rfl (Or.inl rfl)) (pgs_cons (pg_name (i := 3) sc_needed_flags.nd rfl (Or.inl rfl)) pgs_nil)))
      (pss_one (ps_if (pt_cmpR (VB.op_neX (K := K) rfl hr.units) (pv 3) (pe_and (pe_cmpR (VB.op_neX (K := K) rfl hr.units) (pv 2) (pe_tup pa_nil) (nomark _)) (pe_one (pe_call (ok_flag_at (K := K) T) (hr.mono (by decide)) (by rfl) T.m_flag_at T.k_flag_at T.b_flag_at .nil pass0 (pa_cons (pv 0) (pa_cons (pe_slice (VB.slX (K := K) rfl) (pv 2) po_none (po_some (pe_un un_neg pe_int))) pa_nil))))) (nomark _)) (pss_one (ps_asg (pv 3) (pg_sub (pv 1) (pv 2) (VB.set_A (VB.room65 hr))))) pss_nil))))
    (pss_one (ps_ret (pv 1))))), body_MN h fun ds hd => ?_⟩
  match ds, hd with
  | _, (.dat flags205 .nil) =>
    refine ⟨[.dat flags205, .no, .no, .no], rfl, ?_⟩
    show G K _ _ _ (m_needed_flags flags205) CF
    unfold m_needed_flags
    exact (G.asgO RN.dnewT (fun found206 => (G.forPL (embL := fun s208 : D => [.dat flags205, .own ⟨none, s208⟩, .no, .no]) (s0 := found206) (p := Pt.two 2 3) (i := 0) (d := flags205) rfl (fun w => rowsM_dc w) (fun _ r => r) (RI.itR (i := 0) (d := flags205) rfl) (.same _ (.same _ (.same _ (.same _ .nil)))) (fun s207 => PB.two fun name209 flag210 P w => LTp.of (by exact (G.one (G.ifS (RT.test (RE.rr (RE.op ne_d (RE.rr (RE.var (d := flag210) rfl)) (RE.rr (RE.andV (RE.op ne_d (RE.rr (RE.var (d := name209) rfl)) (RE.rr (RE.tup RAs.nil))) (RE.callE (RAm.bor (RE.rr (RE.var (d := flags205) rfl)) (RAm.bor (RE.rr (RE.sl sl_d (RE.rr (RE.var (d := name209) rfl)) RO.none (RO.some RE.negC))) RAm.nil)) rfl)))))) (by exact (G.setA (i := 1) (d := s207) rfl (RE.var (d := flag210) rfl) (RE.var (d := name209) rfl) (fun found226 => (G.finP (.same _ (.same _ (.drop _ (.drop _ .nil)))))))) (by exact (G.next (G.finP (.same _ (.same _ (.drop _ (.drop _ .nil)))))))))) w) (fun s213 => (G.one (G.retFO (i := 1) (d := s213) (fun _ r => r) rfl))))))
theorem ok_Region_init (T : Tx w K mg a) : FnOk P w K mg base CX0 5 a.f_Region_init a.d_Region_init ["self", "rows"] (spMI K a.c.Region [.bor] (l_Region_init a.c)) := by
  refine T.F_Region_init.ok (k := 4) sc_Region_init (fun vs H Q E h => spMI_len h) (fun cdv A outer s H vs Q E hr h => ?_)
  refine ⟨_, PSs.nox (pss_cons (ps_if (pt_not (pt_val (pe_call (ok_are_flagged (K := K) T) (hr.mono (by decide)) (by rfl) T.m_are_flagged T.k_are_flagged T.b_are_flagged .nil pass0 (pa_cons (pv 1) pa_nil)))) (pss_one VB.ps_never) pss_nil)
    (pss_one (ps_fld (pv 0) (pe_call (ok_needed_flags (K := K) T) (hr.mono (by decide)) (by rfl) T.m_needed_flags T.k_needed_flags T.b_needed_flags .nil pass0 (pa_cons (VB.pe_dcA (own := [("name", 2), ("flag", 3)]) (tt := tYes) (VB.mt0 true) (VB.room65 hr) rfl sc_Region_init.nd (VB.pi_dat (K := K) rfl (pv 1)) (blkOk_by (N := ["self", "rows", "name", "flag"]) (sc := defScope s_Region_init) (by decide +kernel)) (fun _ _ _ _ _ => (VB.kTg (K := K) (n := 2) rfl rfl (pgs_cons (pg_name (i := 2) sc_Region_init.nd rfl (Or.inl rfl)) (pgs_cons (pg_name (i := 3) sc_Region_init.nd rfl (Or.inl rfl)) pgs_nil)))) (fun _ _ _ _ _ => pts_nil) (fun _ _ _ _ _ => (pv 2)) (fun _ _ _ _ _ => (pv 3))) pa_nil)) rfl))), body_MI h (by decide) fun ds x hd => ?_⟩
  match ds, hd with
  | _, (.bor rows244 .nil) =>
    refine ⟨[.own ⟨some x, (D.ins a.c.Region [] [])⟩, .bor rows244, .no, .no], rfl, ?_⟩
    show G K _ _ _ (m_Region_init a.c rows244) (CI x)
    unfold m_Region_init
    exact (G.ifS (RT.not (RT.b (RE.rr (RE.callE (RAm.bor (RR.bor (d := rows244) rfl) RAm.nil) rfl)))) G.never (G.next (G.one (G.fld (i := 0) (d := (D.ins a.c.Region [] [])) T.c_Region.cl T.na_Region_kept_flags rfl (RN.re (RN.callE (RAm.dat (RN.re (RN.dc (kd := true) (p := Pt.two 2 3) (js := [2, 3]) (RI.rd (RR.bor (d := rows244) rfl)) (fun _ m => m) (PB.two fun name248 flag249 P w => DT1.plain (RE.var (d := name248) rfl) (RE.var (d := flag249) rfl) w))) RAm.nil) rfl)) (fun self256 => (G.finI rfl))))))
theorem okx_Region_init (T : Tx w K mg a) : FnOk P w K mg base (L2.CX P w) 5 a.f_Region_init a.d_Region_init ["self", "rows"] (spMIX K a.c.Region [.bor] (lx_Region_init a.c)) := by
  refine T.F_Region_init.ok (k := 4) sc_Region_init (fun vs H Q E h => spMIX_len h) (fun cdv A outer s H vs Q E hr h => ?_)
  refine ⟨_, (pss_cons (ps_if (PT.nox (pt_not (pt_val (pe_call (ok_are_flagged (K := K) T) (hr.mono (by decide)) (by rfl) T.m_are_flagged T.k_are_flagged T.b_are_flagged .nil pass0 (pa_cons (pv 1) pa_nil))))) (pss_one (ps_raise rfl (takes_of rfl rfl rfl rfl) (pmk_oex T.er_Wrong.ox T.er_Wrong.ii T.er_Wrong.ti (ok_Wrong_init (K := K) T) (hr.mono (by decide)) T.b_Wrong_init .nil pass0 (by rfl) T.mc_Wrong (pa_cons pe_int pa_nil)))) pss_nil)
    (PSs.nox (pss_one (ps_fld (pv 0) (pe_call (ok_needed_flags (K := K) T) (hr.mono (by decide)) (by rfl) T.m_needed_flags T.k_needed_flags T.b_needed_flags .nil pass0 (pa_cons (VB.pe_dcA (own := [("name", 2), ("flag", 3)]) (tt := tYes) (VB.mt0 true) (VB.room65 hr) rfl sc_Region_init.nd (VB.pi_dat (K := K) rfl (pv 1)) (blkOk_by (N := ["self", "rows", "name", "flag"]) (sc := defScope s_Region_init) (by decide +kernel)) (fun _ _ _ _ _ => (VB.kTg (K := K) (n := 2) rfl rfl (pgs_cons (pg_name (i := 2) sc_Region_init.nd rfl (Or.inl rfl)) (pgs_cons (pg_name (i := 3) sc_Region_init.nd rfl (Or.inl rfl)) pgs_nil)))) (fun _ _ _ _ _ => pts_nil) (fun _ _ _ _ _ => (pv 2)) (fun _ _ _ _ _ => (pv 3))) pa_nil)) rfl)))), body_MIX h (by decide) fun ds x hd => ?_⟩
  match ds, hd with
  | _, (.bor rows244 .nil) =>
    refine ⟨[.own ⟨some x, (D.ins a.c.Region [] [])⟩, .bor rows244, .no, .no], rfl, ?_⟩
    show GX K _ E _ _ (mx_Region_init a.c rows244) (CI x)
    unfold mx_Region_init
    exact (GX.ifRaise T.er_Wrong.ox T.er_Wrong.nf (RT.not (RT.b (RE.rr (RE.callE (RAm.bor (RR.bor (d := rows244) rfl) RAm.nil) rfl)))) RE.int (GX.of (G.one (G.fld (i := 0) (d := (D.ins a.c.Region [] [])) T.c_Region.cl T.na_Region_kept_flags rfl (RN.re (RN.callE (RAm.dat (RN.re (RN.dc (kd := true) (p := Pt.two 2 3) (js := [2, 3]) (RI.rd (RR.bor (d := rows244) rfl)) (fun _ m => m) (PB.two fun name259 flag260 P w => DT1.plain (RE.var (d := name259) rfl) (RE.var (d := flag260) rfl) w))) RAm.nil) rfl)) (fun self267 => (G.finI rfl))))))
theorem ok_Region_contains (T : Tx w K mg a) : FnOk P w K mg base CX0 2 a.f_Region_contains a.d_Region_contains ["self", "name"] (spM K [.bor, .bor] (l_Region_contains a.c)) := by
  refine T.F_Region_contains.ok (k := 1) sc_Region_contains (fun vs H Q E h => spM_len h) (fun cdv A outer s H vs Q E hr h => ?_)
  refine ⟨_, PSs.nox (pss_one (ps_ret (pe_call (ok_flag_at (K := K) T) (hr.mono (by decide)) (by rfl) T.m_flag_at T.k_flag_at T.b_flag_at .nil pass0 (pa_cons (VB.kFld (K := K) rfl (by exact (pv 0)) (by rfl)) (pa_cons (pv 1) pa_nil))))), body_M h fun ds hd => ?_⟩
  match ds, hd with
  | _, (.bor self279 (.bor name280 .nil)) =>
    refine ⟨[.bor self279, .bor name280], rfl, ?_⟩
    show G K _ _ _ (m_Region_contains a.c self279 name280) CF
    unfold m_Region_contains
    exact (G.one (G.retF (fun _ r => r.1) (RE.callE (RAm.bor (RE.rr (RE.fld T.c_Region.cl T.na_Region_kept_flags (RR.bor (d := self279) rfl))) (RAm.bor (RR.bor (d := name280) rfl) RAm.nil)) rfl)))
theorem ok_law_mixed (T : Tx w K mg a) : FnOk P w K mg base CX0 2 a.f_law_mixed a.d_law_mixed ["_law_bag_here", "_law_things"] (spMN K [.bag, .bor] l_law_mixed) := by
  refine T.F_law_mixed.ok (k := 1) sc_law_mixed (fun vs H Q E h => spMN_len h) (fun cdv A outer s H vs Q E hr h => ?_)
  refine ⟨_, PSs.nox (pss_cons (ps_set (i := 2) sc_law_mixed.nd rfl (Or.inl rfl) (pe_lst pa_nil))
    (pss_cons (ps_for PassesOwn.never rfl (VB.pi_dat (K := K) rfl (pv 1)) (pg_name (i := 3) sc_law_mixed.nd rfl (Or.inl rfl))
      (pss_one (ps_expr (pe_bm PySem.F.plainAttrs_list PySem.F.slot_list_insert PySem.F.type_list_insert mt_insert (pv 2) (pa_cons (pe_call (ok_law_take (K := K) T) (hr.mono (by decide)) (by rfl) T.m_law_take T.k_law_take T.b_law_take .nil pass0 (pa_cons (pv 0) (pa_cons (pe_op (VB.op_addX (K := K) rfl) (pe_callB (VB.kLen (K := K) rfl) (by rfl) T.n_len (by decide +kernel) (pa_cons (pv 2) pa_nil)) pe_int) pa_nil))) (pa_cons (pv 3) pa_nil))))))
    (pss_one (ps_ret (pv 2))))), body_MN h fun ds hd => ?_⟩
  match ds, hd with
  | _, (.bag b285 (.bor things286 .nil)) =>
    refine ⟨[.bag b285, .bor things286, .no, .no], rfl, ?_⟩
    show G K _ _ _ (m_law_mixed things286) CF
    unfold m_law_mixed
    exact (G.asgO (RN.lst RAs.nil) (fun found287 => (G.forP (embL := fun s290 : D => [.bag b285, .bor things286, .own ⟨none, s290⟩, .no]) (s0 := found287) (p := .nm 3) (fun _ r => r) (RI.bor (d := things286) rfl) (.same _ (.same _ (.same _ (.same _ .nil)))) (fun s289 => PB.nm fun thing291 P w => LTp.of (by exact (G.one (G.ins (i := 2) (d := s289) rfl (RAs.cons (RE.take (i := 0) rfl (RE.op add_d (RE.rr (RE.cb len_c (RAr.cons (RR.own (d := s289) rfl) RAr.nil))) (RE.rr RE.int))) (RAs.cons (RE.var (d := thing291) rfl) RAs.nil)) (fun found294 => (G.finP (.same _ (.same _ (.same _ (.drop _ .nil))))))))) w) (fun s293 => (G.one (G.retFO (i := 2) (d := s293) (fun _ r => r) rfl))))))
theorem ok_law_labels (T : Tx w K mg a) : FnOk P w K mg base CX0 2 a.f_law_labels a.d_law_labels ["_law_bag_here", "_law_many"] (spM K [.bag, .dat] l_law_labels) := by
  refine T.F_law_labels.ok (k := 1) sc_law_labels (fun vs H Q E h => spM_len h) (fun cdv A outer s H vs Q E hr h => ?_)
  refine ⟨_, PSs.nox (pss_cons (ps_set (i := 2) sc_law_labels.nd rfl (Or.inr rfl) pe_str)
    (pss_cons (ps_set (i := 3) sc_law_labels.nd rfl (Or.inl rfl) pe_str)
    (pss_cons (ps_set (i := 3) sc_law_labels.nd rfl (Or.inl rfl) (VB.kSplit (pe_op (VB.op_addX (K := K) rfl) (pv 3) pe_str) pe_str))
    (pss_cons (ps_asg (pe_tup (pa_cons (pe_call (ok_law_take (K := K) T) (hr.mono (by decide)) (by rfl) T.m_law_take T.k_law_take T.b_law_take .nil pass0 (pa_cons (pv 0) (pa_cons pe_int pa_nil))) (pa_cons (pe_call (ok_law_take (K := K) T) (hr.mono (by decide)) (by rfl) T.m_law_take T.k_law_take T.b_law_take .nil pass0 (pa_cons (pv 0) (pa_cons pe_int pa_nil))) pa_nil))) (VB.kTg (K := K) (n := 2) rfl rfl (pgs_cons (pg_name (i := 4) sc_law_labels.nd rfl (Or.inl rfl)) (pgs_cons (pg_name (i := 5) sc_law_labels.nd rfl (Or.inr rfl)) pgs_nil))))
    (pss_cons (ps_set (i := 6) sc_law_labels.nd rfl (Or.inr rfl) (VB.kJoin (K := K) rfl pe_str (pe_lc (own := [("_law_k", 10)]) (g := gName 10) (tt := tYes) rfl sc_law_labels.nd (pi_range1 rfl T.n_range (pa_cons (pe_op (VB.op_addX (K := K) rfl) pe_int (pe_call (ok_law_take (K := K) T) (hr.mono (by decide)) (by rfl) T.m_law_take T.k_law_take T.b_law_take .nil pass0 (pa_cons (pv 0) (pa_cons pe_int pa_nil)))) pa_nil)) (blkOk_by (N := ["_law_bag_here", "_law_many", "_law_letters", "_law_words", "_law_way", "_law_turn", "_law_base", "_law_at", "_law_far", "_law_some", "_law_k"]) (sc := defScope s_law_labels) (by decide +kernel)) (fun _ _ _ _ _ => (pg_name (i := 10) sc_law_labels.nd rfl (Or.inl rfl))) (fun _ _ _ _ _ => pts_nil) (fun _ _ _ _ _ => (pe_ix (VB.ixX (K := K) rfl) (pv 2) (pe_call (ok_law_take (K := K) T) (hr.mono (by decide)) (by rfl) T.m_law_take T.k_law_take T.b_law_take .nil pass0 (pa_cons (pv 0) (pa_cons pe_int pa_nil))) (fun _ _ => rfl))))))
    (pss_cons (ps_asg (pe_tup (pa_cons (pe_call (ok_law_take (K := K) T) (hr.mono (by decide)) (by rfl) T.m_law_take T.k_law_take T.b_law_take .nil pass0 (pa_cons (pv 0) (pa_cons (pe_op (VB.op_addX (K := K) rfl) (pe_callB (VB.kLen (K := K) rfl) (by rfl) T.n_len (by decide +kernel) (pa_cons (pv 6) pa_nil)) pe_int) pa_nil))) (pa_cons (pe_op op_fdivW (pv 4) pe_int) pa_nil))) (VB.kTg (K := K) (n := 2) rfl rfl (pgs_cons (pg_name (i := 7) sc_law_labels.nd rfl (Or.inr rfl)) (pgs_cons (pg_name (i := 8) sc_law_labels.nd rfl (Or.inr rfl)) pgs_nil))))
    (pss_cons (ps_if (pt_cmpR (VB.op_eqX (K := K) rfl hr.units) (pv 4) pe_int (nomark _)) (pss_one (ps_ret (pe_slice (VB.slX (K := K) rfl) (pe_op (VB.op_addX (K := K) rfl) (pe_slice (VB.slX (K := K) rfl) (pv 3) (po_some (pv 5)) po_none) (pe_slice (VB.slX (K := K) rfl) (pv 3) po_none (po_some (pv 5)))) po_none (po_some (pv 1))))) pss_nil)
    (pss_cons (ps_set (i := 9) sc_law_labels.nd rfl (Or.inr rfl) (pe_lc (own := [("_law_k", 10)]) (g := gName 10) (tt := tYes) rfl sc_law_labels.nd (pi_range1 rfl T.n_range (pa_cons (pv 1) pa_nil)) (blkOk_by (N := ["_law_bag_here", "_law_many", "_law_letters", "_law_words", "_law_way", "_law_turn", "_law_base", "_law_at", "_law_far", "_law_some", "_law_k"]) (sc := defScope s_law_labels) (by decide +kernel)) (fun _ _ _ _ _ => (pg_name (i := 10) sc_law_labels.nd rfl (Or.inl rfl))) (fun _ _ _ _ _ => pts_nil) (fun _ _ _ _ _ => (pe_op (VB.op_mulX (K := K) rfl) (pe_ix (VB.ixX (K := K) rfl) (pv 2) (pe_op op_mod (pe_callTy call_int1 (by rfl) T.n_int (by decide +kernel) (pa_cons (pe_op (VB.op_addX (K := K) rfl) (pv 5) (pe_ix (VB.ixX (K := K) rfl) (pe_lst (pa_cons (pe_op (VB.op_mulX (K := K) rfl) pe_int (pv 10)) (pa_cons (pe_op op_fdivW (pv 10) pe_int) pa_nil))) (pv 8) (fun _ _ => rfl))) pa_nil)) pe_int) (fun _ _ => rfl)) (pe_op (VB.op_addX (K := K) rfl) pe_int (pe_op (VB.op_mulX (K := K) rfl) (pe_op op_mod (pe_callTy call_int1 (by rfl) T.n_int (by decide +kernel) (pa_cons (pv 10) pa_nil)) pe_int) (pv 8)))))))
    (pss_cons (ps_set (i := 6) sc_law_labels.nd rfl (Or.inr rfl) (pe_op (VB.op_mulX (K := K) rfl) (pv 6) (pe_callTy call_int1 (by rfl) T.n_int (by decide +kernel) (pa_cons (pe_cmpR (VB.op_eqX (K := K) rfl hr.units) (pv 4) pe_int (nomark _)) pa_nil))))
    (pss_one (ps_ret (pe_lc (own := [("_law_k", 10)]) (g := gName 10) (tt := tYes) rfl sc_law_labels.nd (pi_range1 rfl T.n_range (pa_cons (pv 1) pa_nil)) (blkOk_by (N := ["_law_bag_here", "_law_many", "_law_letters", "_law_words", "_law_way", "_law_turn", "_law_base", "_law_at", "_law_far", "_law_some", "_law_k"]) (sc := defScope s_law_labels) (by decide +kernel)) (fun _ _ _ _ _ => (pg_name (i := 10) sc_law_labels.nd rfl (Or.inl rfl))) (fun _ _ _ _ _ => pts_nil) (fun _ _ _ _ _ => (pe_op (VB.op_addX (K := K) rfl) (pe_op (VB.op_addX (K := K) rfl) (pe_slice (VB.slX (K := K) rfl) (pv 6) po_none (po_some (pv 7))) (pe_ix (VB.ixX (K := K) rfl) (pv 9) (pv 10) (fun _ _ => rfl))) (pe_slice (VB.slX (K := K) rfl) (pv 6) (po_some (pv 7)) po_none))))))))))))))), body_M h fun ds hd => ?_⟩
  match ds, hd with
  | _, (.bag b410 (.dat many411 .nil)) =>
    refine ⟨[.bag b410, .dat many411, .no, .no, .no, .no, .no, .no, .no, .no, .no], rfl, ?_⟩
    show G K _ _ _ (m_law_labels many411) CF
    unfold m_law_labels
    exact (G.asg RE.str (fun letters412 => (G.asg RE.str (fun words413 => (G.asg (RE.split (RE.rr (RE.op add_d (RE.rr (RE.var (d := words413) rfl)) (RE.rr RE.str))) (RE.rr RE.str)) (fun words414 => (G.unp (p := Pt.two 4 5) (RE.tup (RAs.cons (RE.take (i := 0) rfl RE.int) (RAs.cons (RE.take (i := 0) rfl RE.int) RAs.nil))) (PB.two fun way421 turn422 P w => unp_of (by exact (G.asg (RE.join (RE.rr RE.str) (RE.rr (RN.re (RN.map (p := .nm 10) (js := [10]) (RI.rng1 (RAr.cons (RE.rr (RE.op add_d (RE.rr RE.int) (RE.rr (RE.take (i := 0) rfl RE.int)))) RAr.nil)) (fun _ m => m) (PB.nm fun k428 P w => CTp.of (RE.op ix_d (RE.rr (RE.var (d := letters412) rfl)) (RE.rr (RE.take (i := 0) rfl RE.int))) w))))) (fun base424 => (G.unp (p := Pt.two 7 8) (RE.tup (RAs.cons (RE.take (i := 0) rfl (RE.op add_d (RE.rr (RE.cb len_c (RAr.cons (RE.rr (RE.var (d := base424) rfl)) RAr.nil))) (RE.rr RE.int))) (RAs.cons (RE.op fdiv_d (RE.rr (RE.var (d := way421) rfl)) (RE.rr RE.int)) RAs.nil))) (PB.two fun at442 far443 P w => unp_of (by exact (G.ifS (RT.test (RE.rr (RE.op eq_d (RE.rr (RE.var (d := way421) rfl)) (RE.rr RE.int)))) (G.retF (fun _ r => r.1) (RE.sl sl_d (RE.rr (RE.op add_d (RE.rr (RE.sl sl_d (RE.rr (RE.var (d := words414) rfl)) (RO.some (RE.var (d := turn422) rfl)) RO.none)) (RE.rr (RE.sl sl_d (RE.rr (RE.var (d := words414) rfl)) RO.none (RO.some (RE.var (d := turn422) rfl)))))) RO.none (RO.some (RE.var (d := many411) rfl)))) (G.next (G.asg (RN.re (RN.map (p := .nm 10) (js := [10]) (RI.rng1 (RAr.cons (RE.rr (RE.var (d := many411) rfl)) RAr.nil)) (fun _ m => m) (PB.nm fun k467 P w => CTp.of (RE.op mul_d (RE.rr (RE.op ix_d (RE.rr (RE.var (d := letters412) rfl)) (RE.rr (RE.op mod_d (RE.rr (RE.cb int_c (RAr.cons (RE.rr (RE.op add_d (RE.rr (RE.var (d := turn422) rfl)) (RE.rr (RE.op ix_d (RE.rr (RN.re (RN.lst (RAs.cons (RE.op mul_d (RE.rr RE.int) (RE.rr (RE.var (d := k467) rfl))) (RAs.cons (RE.op fdiv_d (RE.rr (RE.var (d := k467) rfl)) (RE.rr RE.int)) RAs.nil))))) (RE.rr (RE.var (d := far443) rfl)))))) RAr.nil))) (RE.rr RE.int))))) (RE.rr (RE.op add_d (RE.rr RE.int) (RE.rr (RE.op mul_d (RE.rr (RE.op mod_d (RE.rr (RE.cb int_c (RAr.cons (RE.rr (RE.var (d := k467) rfl)) RAr.nil))) (RE.rr RE.int))) (RE.rr (RE.var (d := far443) rfl))))))) w))) (fun some465 => (G.asg (RE.op mul_d (RE.rr (RE.var (d := base424) rfl)) (RE.rr (RE.cb int_c (RAr.cons (RE.rr (RE.op eq_d (RE.rr (RE.var (d := way421) rfl)) (RE.rr RE.int))) RAr.nil)))) (fun base494 => (G.one (G.retF (fun _ r => r.1) (RN.re (RN.map (p := .nm 10) (js := [10]) (RI.rng1 (RAr.cons (RE.rr (RE.var (d := many411) rfl)) RAr.nil)) (fun _ m => m) (PB.nm fun k501 P w => CTp.of (RE.op add_d (RE.rr (RE.op add_d (RE.rr (RE.sl sl_d (RE.rr (RE.var (d := base494) rfl)) RO.none (RO.some (RE.var (d := at442) rfl)))) (RE.rr (RE.op ix_d (RE.rr (RE.var (d := some465) rfl)) (RE.rr (RE.var (d := k501) rfl)))))) (RE.rr (RE.sl sl_d (RE.rr (RE.var (d := base494) rfl)) (RO.some (RE.var (d := at442) rfl)) RO.none))) w)))))))))))) w))))) w))))))))
theorem ok_law_name (T : Tx w K mg a) : FnOk P w K mg base CX0 2 a.f_law_name a.d_law_name ["_law_bag_here", "_law_labels_here", "_law_most"] (spM K [.bag, .bor, .bor] l_law_name) := by
  refine T.F_law_name.ok (k := 1) sc_law_name (fun vs H Q E h => spM_len h) (fun cdv A outer s H vs Q E hr h => ?_)
  refine ⟨_, PSs.nox (pss_one (ps_ret (pe_callTy (VB.kTup (K := K) rfl) (by rfl) T.n_tuple (by decide +kernel) (pa_cons (pe_lc (own := [("_law_k", 3)]) (g := gName 3) (tt := tYes) rfl sc_law_name.nd (pi_range1 rfl T.n_range (pa_cons (pe_call (ok_law_take (K := K) T) (hr.mono (by decide)) (by rfl) T.m_law_take T.k_law_take T.b_law_take .nil pass0 (pa_cons (pv 0) (pa_cons (pe_op (VB.op_addX (K := K) rfl) (pv 2) pe_int) pa_nil))) pa_nil)) (blkOk_by (N := ["_law_bag_here", "_law_labels_here", "_law_most", "_law_k"]) (sc := defScope s_law_name) (by decide +kernel)) (fun _ _ _ _ _ => (pg_name (i := 3) sc_law_name.nd rfl (Or.inl rfl))) (fun _ _ _ _ _ => pts_nil) (fun _ _ _ _ _ => (pe_ix (VB.ixX (K := K) rfl) (pv 1) (pe_call (ok_law_take (K := K) T) (hr.mono (by decide)) (by rfl) T.m_law_take T.k_law_take T.b_law_take .nil pass0 (pa_cons (pv 0) (pa_cons (pe_callB (VB.kLen (K := K) rfl) (by rfl) T.n_len (by decide +kernel) (pa_cons (pv 1) pa_nil)) pa_nil))) (fun _ _ => rfl)))) pa_nil)))), body_M h fun ds hd => ?_⟩
  match ds, hd with
  | _, (.bag b628 (.bor labels_here629 (.bor most630 .nil))) =>
    refine ⟨[.bag b628, .bor labels_here629, .bor most630, .no], rfl, ?_⟩
    show G K _ _ _ (m_law_name labels_here629 most630) CF
    unfold m_law_name
    exact (G.one (G.retF (fun _ r => r.1) (RE.cb tup_c (RAr.cons (RE.rr (RN.re (RN.map (p := .nm 3) (js := [3]) (RI.rng1 (RAr.cons (RE.rr (RE.take (i := 0) rfl (RE.op add_d (RR.bor (d := most630) rfl) (RE.rr RE.int)))) RAr.nil)) (fun _ m => m) (PB.nm fun k634 P w => CTp.of (RE.op ix_d (RR.bor (d := labels_here629) rfl) (RE.rr (RE.take (i := 0) rfl (RE.cb len_c (RAr.cons (RR.bor (d := labels_here629) rfl) RAr.nil))))) w)))) RAr.nil))))
theorem ok_law_drawn_flags (T : Tx w K mg a) : FnOk P w K mg base CX0 3 a.f_law_drawn_flags a.d_law_drawn_flags ["_law_bag_here", "_law_labels_here", "_law_many"] (spMN K [.bag, .bor, .bor] l_law_drawn_flags) := by
  refine T.F_law_drawn_flags.ok (k := 2) sc_law_drawn_flags (fun vs H Q E h => spMN_len h) (fun cdv A outer s H vs Q E hr h => ?_)
  refine ⟨_, PSs.nox (pss_cons (ps_set (i := 3) sc_law_drawn_flags.nd rfl (Or.inl rfl) pe_dnewT)
    (pss_cons (ps_for PassesOwn.never rfl (pi_range1 rfl T.n_range (pa_cons (pe_call (ok_law_take (K := K) T) (hr.mono (by decide)) (by rfl) T.m_law_take T.k_law_take T.b_law_take .nil pass0 (pa_cons (pv 0) (pa_cons (pe_op (VB.op_addX (K := K) rfl) (pv 2) pe_int) pa_nil))) pa_nil)) (pg_name (i := 4) sc_law_drawn_flags.nd rfl (Or.inl rfl))
      (pss_cons (ps_set (i := 5) sc_law_drawn_flags.nd rfl (Or.inl rfl) (pe_op (VB.op_addX (K := K) rfl) (pe_lst (pa_cons (pe_tup pa_nil) pa_nil)) (pe_callTy (VB.kLstA (K := K) rfl rfl) (by rfl) T.n_list (by decide +kernel) (pa_cons (pv 3) pa_nil))))
    (pss_cons (ps_set (i := 6) sc_law_drawn_flags.nd rfl (Or.inl rfl) (pe_slice (VB.slX (K := K) rfl) (pe_op (VB.op_addX (K := K) rfl) (pe_ix (VB.ixA (K := K) rfl (VB.room65 hr)) (pv 5) (pe_call (ok_law_take (K := K) T) (hr.mono (by decide)) (by rfl) T.m_law_take T.k_law_take T.b_law_take .nil pass0 (pa_cons (pv 0) (pa_cons (pe_callB (VB.kLenA (K := K) rfl) (by rfl) T.n_len (by decide +kernel) (pa_cons (pv 5) pa_nil)) pa_nil))) (fun _ _ => rfl)) (pe_call (ok_law_name (K := K) T) (hr.mono (by decide)) (by rfl) T.m_law_name T.k_law_name T.b_law_name .nil pass0 (pa_cons (pv 0) (pa_cons (pv 1) (pa_cons pe_int pa_nil))))) po_none (po_some pe_int)))
    (pss_one (ps_asg (pe_cmpR (VB.op_eqX (K := K) rfl hr.units) (pe_call (ok_law_take (K := K) T) (hr.mono (by decide)) (by rfl) T.m_law_take T.k_law_take T.b_law_take .nil pass0 (pa_cons (pv 0) (pa_cons pe_int pa_nil))) pe_int (nomark _)) (pg_sub (pv 3) (pv 6) (VB.set_A (VB.room65 hr))))))))
    (pss_one (ps_ret (pv 3))))), body_MN h fun ds hd => ?_⟩
  match ds, hd with
  | _, (.bag b651 (.bor labels_here652 (.bor many653 .nil))) =>
    refine ⟨[.bag b651, .bor labels_here652, .bor many653, .no, .no, .no, .no], rfl, ?_⟩
    show G K _ _ _ (m_law_drawn_flags labels_here652 many653) CF
    unfold m_law_drawn_flags
    exact (G.asgO RN.dnewT (fun found654 => (G.forP (embL := fun s659 : D => [.bag b651, .bor labels_here652, .bor many653, .own ⟨none, s659⟩, .no, .no, .no]) (s0 := found654) (p := .nm 4) (fun _ r => r) (RI.rng1 (RAr.cons (RE.rr (RE.take (i := 0) rfl (RE.op add_d (RR.bor (d := many653) rfl) (RE.rr RE.int)))) RAr.nil)) (.same _ (.same _ (.same _ (.same _ (.same _ (.same _ (.same _ .nil))))))) (fun s658 => PB.nm fun k660 P w => LTp.of (by exact (G.asg (RE.op add_d (RE.rr (RN.re (RN.lst (RAs.cons (RE.tup RAs.nil) RAs.nil)))) (RE.rr (RN.re (RN.cb lstA_c (RAr.cons (RR.own (d := s658) rfl) RAr.nil))))) (fun some663 => (G.asg (RE.sl sl_d (RE.rr (RE.op add_d (RE.rr (RE.op ixA_d (RE.rr (RE.var (d := some663) rfl)) (RE.rr (RE.take (i := 0) rfl (RE.cb lenA_c (RAr.cons (RE.rr (RE.var (d := some663) rfl)) RAr.nil)))))) (RE.rr (RE.callE (RAm.bag (i := 0) rfl (RAm.bor (RR.bor (d := labels_here652) rfl) (RAm.bor (RE.rr RE.int) RAm.nil))) rfl)))) RO.none (RO.some RE.int)) (fun name_here668 => (G.one (G.setA (i := 3) (d := s658) rfl (RE.op eq_d (RE.rr (RE.take (i := 0) rfl RE.int)) (RE.rr RE.int)) (RE.var (d := name_here668) rfl) (fun found683 => (G.finP (.same _ (.same _ (.same _ (.same _ (.drop _ (.drop _ (.drop _ .nil)))))))))))))))) w) (fun s662 => (G.one (G.retFO (i := 3) (d := s662) (fun _ r => r) rfl))))))
theorem ok_law_is_word (T : Tx w K mg a) : FnOk P w K mg base CX0 1 a.f_law_is_word a.d_law_is_word ["_law_thing"] (spM K [.bor] l_law_is_word) := by
  refine T.F_law_is_word.ok (k := 0) sc_law_is_word (fun vs H Q E h => spM_len h) (fun cdv A outer s H vs Q E hr h => ?_)
  refine ⟨_, PSs.nox (pss_cons (ps_if (PW.pt (pw_or (pt_not (pt_val (pe_callB (VB.kIsi (K := K) rfl) (by rfl) T.n_isinstance (by decide +kernel) (pa_cons (pv 0) (pa_cons (pe_bltn (v := .ty "str") (u := .type "str") (by rfl) T.n_str (by decide +kernel) rfl) pa_nil))))) (pw_or (pt_cmpR VB.op_ltX (pe_callB (VB.kLen (K := K) rfl) (by rfl) T.n_len (by decide +kernel) (pa_cons (pv 0) pa_nil)) pe_int (nomark _)) (pw_or1 (pt_cmpR VB.op_gtX (pe_callB (VB.kLen (K := K) rfl) (by rfl) T.n_len (by decide +kernel) (pa_cons (pv 0) pa_nil)) pe_int (nomark _)))))) (pss_one (ps_ret pe_bl)) pss_nil)
    (pss_one (ps_ret (pe_cmpR (VB.op_eqX (K := K) rfl hr.units) (pe_lc (own := [("_law_sign", 1)]) (g := gName 1) rfl sc_law_is_word.nd (VB.pi_dat (K := K) rfl (pv 0)) (blkOk_by (N := ["_law_thing", "_law_sign"]) (sc := defScope s_law_is_word) (by decide +kernel)) (fun _ _ _ _ _ => (pg_name (i := 1) sc_law_is_word.nd rfl (Or.inl rfl))) (fun _ _ _ _ _ => pts_one (pt_cmpR (VB.op_ninX (K := K) rfl (VB.room65 hr)) (pv 1) pe_str (by rfl))) (fun _ _ _ _ _ => (pv 1))) (pe_lst pa_nil) (nomark _))))), body_M h fun ds hd => ?_⟩
  match ds, hd with
  | _, (.bor thing720 .nil) =>
    refine ⟨[.bor thing720, .no], rfl, ?_⟩
    show G K _ _ _ (m_law_is_word thing720) CF
    unfold m_law_is_word
    exact (G.ifS (RT.or (RT.not (RT.b (RE.rr (RE.cb isi_c (RAr.cons (RR.bor (d := thing720) rfl) (RAr.cons (RE.rr RE.ty) RAr.nil)))))) (RT.or (RT.test (RE.rr (RE.op lt_d (RE.rr (RE.cb len_c (RAr.cons (RR.bor (d := thing720) rfl) RAr.nil))) (RE.rr RE.int)))) (RT.test (RE.rr (RE.op gt_d (RE.rr (RE.cb len_c (RAr.cons (RR.bor (d := thing720) rfl) RAr.nil))) (RE.rr RE.int)))))) (G.retF (fun _ r => r.1) RE.bl) (G.next (G.one (G.retF (fun _ r => r.1) (RE.op eq_d (RE.rr (RN.re (RN.lc (p := .nm 1) (js := [1]) (RI.rd (RR.bor (d := thing720) rfl)) (fun _ m => m) (PB.nm fun sign731 P w => CT.test (RT.test (RE.rr (RE.op nin_d (RE.rr (RE.var (d := sign731) rfl)) (RE.rr RE.str)))) (RE.var (d := sign731) rfl) w)))) (RE.rr (RN.re (RN.lst RAs.nil))))))))
theorem ok_law_is_row (T : Tx w K mg a) : FnOk P w K mg base CX0 2 a.f_law_is_row a.d_law_is_row ["_law_thing"] (spM K [.bor] l_law_is_row) := by
  refine T.F_law_is_row.ok (k := 1) sc_law_is_row (fun vs H Q E h => spM_len h) (fun cdv A outer s H vs Q E hr h => ?_)
  refine ⟨_, PSs.nox (pss_cons (ps_if (PW.pt (pw_or (pt_not (pt_val (pe_callB (VB.kIsi (K := K) rfl) (by rfl) T.n_isinstance (by decide +kernel) (pa_cons (pv 0) (pa_cons (pe_bltn (v := .ty "tuple") (u := .type "tuple") (by rfl) T.n_tuple (by decide +kernel) rfl) pa_nil))))) (pw_or (pt_cmpR (VB.op_neX (K := K) rfl hr.units) (pe_callB (VB.kLenA (K := K) rfl) (by rfl) T.n_len (by decide +kernel) (pa_cons (pv 0) pa_nil)) pe_int (nomark _)) (pw_or1 (pt_not (pt_val (pe_callB (VB.kIsi (K := K) rfl) (by rfl) T.n_isinstance (by decide +kernel) (pa_cons (pe_ix (VB.ixA (K := K) rfl (VB.room65 hr)) (pv 0) pe_int (fun _ _ => rfl)) (pa_cons (pe_bltn (v := .ty "tuple") (u := .type "tuple") (by rfl) T.n_tuple (by decide +kernel) rfl) pa_nil))))))))) (pss_one (ps_ret pe_bl)) pss_nil)
    (pss_one (ps_ret (pe_and (pe_cmpR (VB.op_eqX (K := K) rfl hr.units) (pe_lc (own := [("_law_part", 1)]) (g := gName 1) rfl sc_law_is_row.nd (VB.pi_dat (K := K) rfl (pe_ix (VB.ixA (K := K) rfl (VB.room65 hr)) (pv 0) pe_int (fun _ _ => rfl))) (blkOk_by (N := ["_law_thing", "_law_part"]) (sc := defScope s_law_is_row) (by decide +kernel)) (fun _ _ _ _ _ => (pg_name (i := 1) sc_law_is_row.nd rfl (Or.inl rfl))) (fun _ _ _ _ _ => pts_one (pt_not (pt_val (pe_call (ok_law_is_word (K := K) T) (hr.mono (by decide)) (by rfl) T.m_law_is_word T.k_law_is_word T.b_law_is_word .nil pass0 (pa_cons (pv 1) pa_nil))))) (fun _ _ _ _ _ => (pv 1))) (pe_lst pa_nil) (nomark _)) (pe_one (pe_callB (VB.kIsi (K := K) rfl) (by rfl) T.n_isinstance (by decide +kernel) (pa_cons (pe_ix (VB.ixA (K := K) rfl (VB.room65 hr)) (pv 0) pe_int (fun _ _ => rfl)) (pa_cons (pe_bltn (v := .ty "bool") (u := .type "bool") (by rfl) T.n_bool (by decide +kernel) rfl) pa_nil)))))))), body_M h fun ds hd => ?_⟩
  match ds, hd with
  | _, (.bor thing769 .nil) =>
    refine ⟨[.bor thing769, .no], rfl, ?_⟩
    show G K _ _ _ (m_law_is_row thing769) CF
    unfold m_law_is_row
    exact (G.ifS (RT.or (RT.not (RT.b (RE.rr (RE.cb isi_c (RAr.cons (RR.bor (d := thing769) rfl) (RAr.cons (RE.rr RE.ty) RAr.nil)))))) (RT.or (RT.test (RE.rr (RE.op ne_d (RE.rr (RE.cb lenA_c (RAr.cons (RR.bor (d := thing769) rfl) RAr.nil))) (RE.rr RE.int)))) (RT.not (RT.b (RE.rr (RE.cb isi_c (RAr.cons (RE.rr (RE.op ixA_d (RR.bor (d := thing769) rfl) (RE.rr RE.int))) (RAr.cons (RE.rr RE.ty) RAr.nil)))))))) (G.retF (fun _ r => r.1) RE.bl) (G.next (G.one (G.retF (fun _ r => r.1) (RE.andV (RE.op eq_d (RE.rr (RN.re (RN.lc (p := .nm 1) (js := [1]) (RI.dat (RE.op ixA_d (RR.bor (d := thing769) rfl) (RE.rr RE.int))) (fun _ m => m) (PB.nm fun part783 P w => CT.test (RT.not (RT.b (RE.rr (RE.callE (RAm.bor (RE.rr (RE.var (d := part783) rfl)) RAm.nil) rfl)))) (RE.var (d := part783) rfl) w)))) (RE.rr (RN.re (RN.lst RAs.nil)))) (RE.cb isi_c (RAr.cons (RE.rr (RE.op ixA_d (RR.bor (d := thing769) rfl) (RE.rr RE.int))) (RAr.cons (RE.rr RE.ty) RAr.nil))))))))
end K17
namespace K17
open PySem PySem.Spec PyProof.Rows L2 VB
variable {P : Program} {w : World} {K : PySem.W.Frag} {mg : Str → Option Value} {base : Heap} {a : Ad}
theorem ok_law_is_good (T : Tx w K mg a) : FnOk P w K mg base CX0 3 a.f_law_is_good a.d_law_is_good ["_law_thing"] (spM K [.bor] (l_law_is_good a.c)) := by
  refine T.F_law_is_good.ok (k := 2) sc_law_is_good (fun vs H Q E h => spM_len h) (fun cdv A outer s H vs Q E hr h => ?_)
  refine ⟨_, PSs.nox (pss_cons (ps_if (PW.pt (pw_or (pt_not (pt_val (pe_callB (VB.cr_isiTE (K := K) rfl) (by rfl) T.n_isinstance (by decide +kernel) (pa_cons (pv 0) (pa_cons (pe_tup (pa_cons (pe_bltn (v := .ty "list") (u := .type "list") (by rfl) T.n_list (by decide +kernel) rfl) (pa_cons (pe_bltn (v := .ty "tuple") (u := .type "tuple") (by rfl) T.n_tuple (by decide +kernel) rfl) pa_nil))) pa_nil))))) (pw_or1 (pt_cmpR (VB.op_neX (K := K) rfl hr.units) (pe_lc (own := [("_law_row", 2)]) (g := gName 2) rfl sc_law_is_good.nd (VB.pi_dat (K := K) rfl (pv 0)) (blkOk_by (N := ["_law_thing", "_law_names", "_law_row", "_law_k"]) (sc := defScope s_law_is_good) (by decide +kernel)) (fun _ _ _ _ _ => (pg_name (i := 2) sc_law_is_good.nd rfl (Or.inl rfl))) (fun _ _ _ _ _ => pts_one (pt_not (pt_val (pe_call (ok_law_is_row (K := K) T) (hr.mono (by decide)) (by rfl) T.m_law_is_row T.k_law_is_row T.b_law_is_row .nil pass0 (pa_cons (pv 2) pa_nil))))) (fun _ _ _ _ _ => (pv 2))) (pe_lst pa_nil) (nomark _))))) (pss_one (ps_ret pe_bl)) pss_nil)
    (pss_cons (ps_set (i := 1) sc_law_is_good.nd rfl (Or.inr rfl) (pe_lc (own := [("_law_row", 2)]) (g := gName 2) (tt := tYes) rfl sc_law_is_good.nd (VB.pi_dat (K := K) rfl (pv 0)) (blkOk_by (N := ["_law_thing", "_law_names", "_law_row", "_law_k"]) (sc := defScope s_law_is_good) (by decide +kernel)) (fun _ _ _ _ _ => (pg_name (i := 2) sc_law_is_good.nd rfl (Or.inl rfl))) (fun _ _ _ _ _ => pts_nil) (fun _ _ _ _ _ => (pe_ix (VB.ixA (K := K) rfl (VB.room65 hr)) (pv 2) pe_int (fun _ _ => rfl)))))
    (pss_one (ps_ret (pe_cmpR (VB.op_eqX (K := K) rfl hr.units) (pe_callB (VB.kLenA (K := K) rfl) (by rfl) T.n_len (by decide +kernel) (pa_cons (pe_lc (own := [("_law_k", 3)]) (g := gName 3) rfl sc_law_is_good.nd (pi_range1 rfl T.n_range (pa_cons (pe_callB (VB.kLenA (K := K) rfl) (by rfl) T.n_len (by decide +kernel) (pa_cons (pv 1) pa_nil)) pa_nil)) (blkOk_by (N := ["_law_thing", "_law_names", "_law_row", "_law_k"]) (sc := defScope s_law_is_good) (by decide +kernel)) (fun _ _ _ _ _ => (pg_name (i := 3) sc_law_is_good.nd rfl (Or.inl rfl))) (fun _ _ _ _ _ => pts_one (pt_cmpR (VB.op_inA (K := K) rfl (VB.room65 hr)) (pe_ix (VB.ixA (K := K) rfl (VB.room65 hr)) (pv 1) (pv 3) (fun _ _ => rfl)) (pe_slice (VB.slX (K := K) rfl) (pv 1) po_none (po_some (pv 3))) (by rfl))) (fun _ _ _ _ _ => (pv 3))) pa_nil)) pe_int (nomark _)))))), body_M h fun ds hd => ?_⟩
  match ds, hd with
  | _, (.bor thing830 .nil) =>
    refine ⟨[.bor thing830, .no, .no, .no], rfl, ?_⟩
    show G K _ _ _ (m_law_is_good a.c thing830) CF
    unfold m_law_is_good
    exact (G.ifS (RT.or (RT.not (RT.b (RE.rr (RE.isiTE (cs := [(D.ty "list"), (D.ty "tuple")]) T.kc (RR.bor (d := thing830) rfl) (fun _ _ _ q => q))))) (RT.test (RE.rr (RE.op ne_d (RE.rr (RN.re (RN.lc (p := .nm 2) (js := [2]) (RI.rd (RR.bor (d := thing830) rfl)) (fun _ m => m) (PB.nm fun row832 P w => CT.test (RT.not (RT.b (RE.rr (RE.callE (RAm.bor (RE.rr (RE.var (d := row832) rfl)) RAm.nil) rfl)))) (RE.var (d := row832) rfl) w)))) (RE.rr (RN.re (RN.lst RAs.nil))))))) (G.retF (fun _ r => r.1) RE.bl) (G.next (G.asg (RN.re (RN.map (p := .nm 2) (js := [2]) (RI.rd (RR.bor (d := thing830) rfl)) (fun _ m => m) (PB.nm fun row843 P w => CTp.of (RE.op ixA_d (RE.rr (RE.var (d := row843) rfl)) (RE.rr RE.int)) w))) (fun names841 => (G.one (G.retF (fun _ r => r.1) (RE.op eq_d (RE.rr (RE.cb lenA_c (RAr.cons (RE.rr (RN.re (RN.lc (p := .nm 3) (js := [3]) (RI.rng1 (RAr.cons (RE.rr (RE.cb lenA_c (RAr.cons (RE.rr (RE.var (d := names841) rfl)) RAr.nil))) RAr.nil)) (fun _ m => m) (PB.nm fun k850 P w => CT.test (RT.test (RE.rr (RE.op inA_d (RE.rr (RE.op ixA_d (RE.rr (RE.var (d := names841) rfl)) (RE.rr (RE.var (d := k850) rfl)))) (RE.rr (RE.sl sl_d (RE.rr (RE.var (d := names841) rfl)) RO.none (RO.some (RE.var (d := k850) rfl))))))) (RE.var (d := k850) rfl) w)))) RAr.nil))) (RE.rr RE.int))))))))
theorem ok_law_odd_row (T : Tx w K mg a) : FnOk P w K mg base CX0 2 a.f_law_odd_row a.d_law_odd_row ["_law_bag_here", "_law_row"] (spM K [.bag, .dat] l_law_odd_row) := by
  refine T.F_law_odd_row.ok (k := 1) sc_law_odd_row (fun vs H Q E h => spM_len h) (fun cdv A outer s H vs Q E hr h => ?_)
  refine ⟨_, PSs.nox (pss_cons (ps_asg (pv 1) (VB.kTg (K := K) (n := 2) rfl rfl (pgs_cons (pg_name (i := 2) sc_law_odd_row.nd rfl (Or.inl rfl)) (pgs_cons (pg_name (i := 3) sc_law_odd_row.nd rfl (Or.inl rfl)) pgs_nil))))
    (pss_cons (ps_set (i := 4) sc_law_odd_row.nd rfl (Or.inl rfl) (pe_call (ok_law_take (K := K) T) (hr.mono (by decide)) (by rfl) T.m_law_take T.k_law_take T.b_law_take .nil pass0 (pa_cons (pv 0) (pa_cons (pe_op (VB.op_addX (K := K) rfl) (pe_callB (VB.kLenA (K := K) rfl) (by rfl) T.n_len (by decide +kernel) (pa_cons (pv 2) pa_nil)) pe_int) pa_nil))))
    (pss_cons (ps_set (i := 5) sc_law_odd_row.nd rfl (Or.inl rfl) (pe_ix (VB.ixA (K := K) rfl (VB.room65 hr)) (pe_lst (pa_cons pe_str (pa_cons pe_str (pa_cons pe_str (pa_cons pe_str (pa_cons pe_non (pa_cons pe_int (pa_cons (pe_tup (pa_cons pe_str pa_nil)) (pa_cons pe_str (pa_cons pe_bl (pa_cons pe_str pa_nil))))))))))) (pe_call (ok_law_take (K := K) T) (hr.mono (by decide)) (by rfl) T.m_law_take T.k_law_take T.b_law_take .nil pass0 (pa_cons (pv 0) (pa_cons pe_int pa_nil))) (fun _ _ => rfl)))
    (pss_cons (ps_set (i := 6) sc_law_odd_row.nd rfl (Or.inl rfl) (pe_lst (pa_cons (pe_callTy (VB.kLstA (K := K) rfl rfl) (by rfl) T.n_list (by decide +kernel) (pa_cons (pv 1) pa_nil)) (pa_cons (pe_tup (pa_cons (pv 2) pa_nil)) (pa_cons (pe_tup (pa_cons (pv 2) (pa_cons (pv 3) (pa_cons (pv 3) pa_nil)))) (pa_cons (pe_tup (pa_cons (pv 3) (pa_cons (pv 2) pa_nil))) (pa_cons (pe_tup (pa_cons (pv 2) (pa_cons (pe_callTy call_int1 (by rfl) T.n_int (by decide +kernel) (pa_cons (pv 3) pa_nil)) pa_nil))) (pa_cons (pe_tup (pa_cons (pv 2) (pa_cons pe_non pa_nil))) (pa_cons (pe_tup (pa_cons (pv 2) (pa_cons (pe_callTy VB.cr_strB (by rfl) T.n_str (by decide +kernel) (pa_cons (pv 3) pa_nil)) pa_nil))) pa_nil)))))))))
    (pss_cons (ps_set (i := 6) sc_law_odd_row.nd rfl (Or.inl rfl) (pe_op (VB.op_addX (K := K) rfl) (pv 6) (pe_lst (pa_cons (pe_tup (pa_cons (pe_callTy (VB.kLstA (K := K) rfl rfl) (by rfl) T.n_list (by decide +kernel) (pa_cons (pv 2) pa_nil)) (pa_cons (pv 3) pa_nil))) (pa_cons (pe_tup (pa_cons (VB.kJoin (K := K) rfl pe_str (pv 2)) (pa_cons (pv 3) pa_nil))) (pa_cons (pe_tup (pa_cons (pe_op (VB.op_addX (K := K) rfl) (pe_op (VB.op_addX (K := K) rfl) (pe_slice (VB.slX (K := K) rfl) (pv 2) po_none (po_some (pv 4))) (pe_tup (pa_cons (pv 5) pa_nil))) (pe_slice (VB.slX (K := K) rfl) (pv 2) (po_some (pv 4)) po_none)) (pa_cons (pv 3) pa_nil))) pa_nil))))))
    (pss_cons (ps_set (i := 6) sc_law_odd_row.nd rfl (Or.inl rfl) (pe_op (VB.op_addX (K := K) rfl) (pv 6) (pe_lst (pa_cons (pe_tup (pa_cons (pe_op (VB.op_addX (K := K) rfl) (pe_op (VB.op_addX (K := K) rfl) (pe_slice (VB.slX (K := K) rfl) (pv 2) po_none (po_some (pv 4))) (pe_tup (pa_cons (pv 5) pa_nil))) (pe_slice (VB.slX (K := K) rfl) (pv 2) (po_some (pe_op (VB.op_addX (K := K) rfl) (pv 4) pe_int)) po_none)) (pa_cons (pv 3) pa_nil))) (pa_cons pe_non (pa_cons pe_dnewK (pa_cons (pv 2) (pa_cons (pe_tup (pa_cons (pv 2) (pa_cons (VB.kNotT (K := K) rfl (by exact (pv 3))) pa_nil))) (pa_cons (pe_tup (pa_cons pe_non (pa_cons (pv 3) pa_nil))) pa_nil)))))))))
    (pss_one (ps_ret (pe_ix (VB.ixA (K := K) rfl (VB.room65 hr)) (pv 6) (pe_call (ok_law_take (K := K) T) (hr.mono (by decide)) (by rfl) T.m_law_take T.k_law_take T.b_law_take .nil pass0 (pa_cons (pv 0) (pa_cons pe_int pa_nil))) (fun _ _ => rfl)))))))))), body_M h fun ds hd => ?_⟩
  match ds, hd with
  | _, (.bag b1015 (.dat row1016 .nil)) =>
    refine ⟨[.bag b1015, .dat row1016, .no, .no, .no, .no, .no], rfl, ?_⟩
    show G K _ _ _ (m_law_odd_row row1016) CF
    unfold m_law_odd_row
    exact (G.unp (p := Pt.two 2 3) (RE.var (d := row1016) rfl) (PB.two fun name_here1017 flag1018 P w => unp_of (by exact (G.asg (RE.take (i := 0) rfl (RE.op add_d (RE.rr (RE.cb lenA_c (RAr.cons (RE.rr (RE.var (d := name_here1017) rfl)) RAr.nil))) (RE.rr RE.int))) (fun spot1020 => (G.asg (RE.op ixA_d (RE.rr (RN.re (RN.lst (RAs.cons RE.str (RAs.cons RE.str (RAs.cons RE.str (RAs.cons RE.str (RAs.cons RE.non (RAs.cons RE.int (RAs.cons (RE.tup (RAs.cons RE.str RAs.nil)) (RAs.cons RE.str (RAs.cons RE.bl (RAs.cons RE.str RAs.nil))))))))))))) (RE.rr (RE.take (i := 0) rfl RE.int))) (fun odd1024 => (G.asg (RN.re (RN.lst (RAs.cons (RN.re (RN.cb lstA_c (RAr.cons (RE.rr (RE.var (d := row1016) rfl)) RAr.nil))) (RAs.cons (RE.tup (RAs.cons (RE.var (d := name_here1017) rfl) RAs.nil)) (RAs.cons (RE.tup (RAs.cons (RE.var (d := name_here1017) rfl) (RAs.cons (RE.var (d := flag1018) rfl) (RAs.cons (RE.var (d := flag1018) rfl) RAs.nil)))) (RAs.cons (RE.tup (RAs.cons (RE.var (d := flag1018) rfl) (RAs.cons (RE.var (d := name_here1017) rfl) RAs.nil))) (RAs.cons (RE.tup (RAs.cons (RE.var (d := name_here1017) rfl) (RAs.cons (RE.cb int_c (RAr.cons (RE.rr (RE.var (d := flag1018) rfl)) RAr.nil)) RAs.nil))) (RAs.cons (RE.tup (RAs.cons (RE.var (d := name_here1017) rfl) (RAs.cons RE.non RAs.nil))) (RAs.cons (RE.tup (RAs.cons (RE.var (d := name_here1017) rfl) (RAs.cons (RE.cb strB_c (RAr.cons (RE.rr (RE.var (d := flag1018) rfl)) RAr.nil)) RAs.nil))) RAs.nil))))))))) (fun some1038 => (G.asg (RE.op add_d (RE.rr (RE.var (d := some1038) rfl)) (RE.rr (RN.re (RN.lst (RAs.cons (RE.tup (RAs.cons (RN.re (RN.cb lstA_c (RAr.cons (RE.rr (RE.var (d := name_here1017) rfl)) RAr.nil))) (RAs.cons (RE.var (d := flag1018) rfl) RAs.nil))) (RAs.cons (RE.tup (RAs.cons (RE.joinA (RE.rr RE.str) (RE.rr (RE.var (d := name_here1017) rfl))) (RAs.cons (RE.var (d := flag1018) rfl) RAs.nil))) (RAs.cons (RE.tup (RAs.cons (RE.op add_d (RE.rr (RE.op add_d (RE.rr (RE.sl sl_d (RE.rr (RE.var (d := name_here1017) rfl)) RO.none (RO.some (RE.var (d := spot1020) rfl)))) (RE.rr (RE.tup (RAs.cons (RE.var (d := odd1024) rfl) RAs.nil))))) (RE.rr (RE.sl sl_d (RE.rr (RE.var (d := name_here1017) rfl)) (RO.some (RE.var (d := spot1020) rfl)) RO.none))) (RAs.cons (RE.var (d := flag1018) rfl) RAs.nil))) RAs.nil))))))) (fun some1061 => (G.asg (RE.op add_d (RE.rr (RE.var (d := some1061) rfl)) (RE.rr (RN.re (RN.lst (RAs.cons (RE.tup (RAs.cons (RE.op add_d (RE.rr (RE.op add_d (RE.rr (RE.sl sl_d (RE.rr (RE.var (d := name_here1017) rfl)) RO.none (RO.some (RE.var (d := spot1020) rfl)))) (RE.rr (RE.tup (RAs.cons (RE.var (d := odd1024) rfl) RAs.nil))))) (RE.rr (RE.sl sl_d (RE.rr (RE.var (d := name_here1017) rfl)) (RO.some (RE.op add_d (RE.rr (RE.var (d := spot1020) rfl)) (RE.rr RE.int))) RO.none))) (RAs.cons (RE.var (d := flag1018) rfl) RAs.nil))) (RAs.cons RE.non (RAs.cons (RN.re RN.dnew) (RAs.cons (RE.var (d := name_here1017) rfl) (RAs.cons (RE.tup (RAs.cons (RE.var (d := name_here1017) rfl) (RAs.cons (RE.notT (RE.rr (RE.var (d := flag1018) rfl))) RAs.nil))) (RAs.cons (RE.tup (RAs.cons RE.non (RAs.cons (RE.var (d := flag1018) rfl) RAs.nil))) RAs.nil)))))))))) (fun some1091 => (G.one (G.retF (fun _ r => r.1) (RE.op ixA_d (RE.rr (RE.var (d := some1091) rfl)) (RE.rr (RE.take (i := 0) rfl RE.int)))))))))))))))) w))
theorem ok_law_spoilt (T : Tx w K mg a) : FnOk P w K mg base CX0 3 a.f_law_spoilt a.d_law_spoilt ["_law_bag_here", "_law_rows", "_law_size"] (spM K [.bag, .bor, .bor] l_law_spoilt) := by
  refine T.F_law_spoilt.ok (k := 2) sc_law_spoilt (fun vs H Q E h => spM_len h) (fun cdv A outer s H vs Q E hr h => ?_)
  refine ⟨_, PSs.nox (pss_cons (ps_par (i := 3) (j := 4) (by rfl) sc_law_spoilt.nd rfl rfl (by decide) rfl rfl (pa_cons (pe_call (ok_law_take (K := K) T) (hr.mono (by decide)) (by rfl) T.m_law_take T.k_law_take T.b_law_take .nil pass0 (pa_cons (pv 0) (pa_cons pe_int pa_nil))) (pa_cons (pe_call (ok_law_take (K := K) T) (hr.mono (by decide)) (by rfl) T.m_law_take T.k_law_take T.b_law_take .nil pass0 (pa_cons (pv 0) (pa_cons (pe_op (VB.op_addX (K := K) rfl) (pe_callB (VB.kLenA (K := K) rfl) (by rfl) T.n_len (by decide +kernel) (pa_cons (pv 1) pa_nil)) pe_int) pa_nil))) pa_nil)) (by rfl))
    (pss_cons (ps_set (i := 5) sc_law_spoilt.nd rfl (Or.inl rfl) (pe_ix (VB.ixA (K := K) rfl (VB.room65 hr)) (pe_op (VB.op_addX (K := K) rfl) (pe_slice (VB.slX (K := K) rfl) (pv 1) (po_some (pv 4)) (po_some (pe_op (VB.op_addX (K := K) rfl) (pv 4) pe_int))) (pe_lst (pa_cons (pe_tup (pa_cons (pe_tup (pa_cons pe_str pa_nil)) (pa_cons pe_bl pa_nil))) pa_nil))) pe_int (fun _ _ => rfl)))
    (pss_cons (ps_if (pt_cmpR (VB.op_eqX (K := K) rfl hr.units) (pv 3) pe_int (nomark _)) (pss_cons (ps_set (i := 6) sc_law_spoilt.nd rfl (Or.inl rfl) (pe_lst (pa_cons pe_non pa_nil)))
    (pss_cons (ps_for PassesOwn.never rfl (pi_range1 rfl T.n_range (pa_cons pe_int pa_nil)) (pg_name (i := 7) sc_law_spoilt.nd rfl (Or.inl rfl))
      (pss_one (ps_set (i := 6) sc_law_spoilt.nd rfl (Or.inl rfl) (pe_lst (pa_cons (pv 6) pa_nil)))))
    (pss_cons (ps_set (i := 8) sc_law_spoilt.nd rfl (Or.inl rfl) (pe_lst (pa_cons pe_non (pa_cons pe_int (pa_cons pe_str (pa_cons pe_str (pa_cons pe_dnewK (pa_cons pe_bl (pa_cons (pe_callTy (VB.kDictPT (K := K) rfl rfl (VB.room65 hr)) (by rfl) T.n_dict (by decide +kernel) (pa_cons (pv 1) pa_nil)) (pa_cons (pe_lst (pa_cons (pe_lst pa_nil) pa_nil)) (pa_cons (pe_lst (pa_cons (pe_tup pa_nil) pa_nil)) (pa_cons (pe_tup (pa_cons (pe_tup (pa_cons (pe_tup pa_nil) (pa_cons pe_bl pa_nil))) pa_nil)) (pa_cons (pe_tup (pa_cons (pe_tup pa_nil) (pa_cons pe_bl pa_nil))) (pa_cons (pv 6) (pa_cons (pe_op (VB.op_mulX (K := K) rfl) (pe_lst (pa_cons pe_non pa_nil)) (pv 2)) pa_nil)))))))))))))))
    (pss_one (ps_ret (pe_ix (VB.ixA (K := K) rfl (VB.room65 hr)) (pv 8) (pe_call (ok_law_take (K := K) T) (hr.mono (by decide)) (by rfl) T.m_law_take T.k_law_take T.b_law_take .nil pass0 (pa_cons (pv 0) (pa_cons pe_int pa_nil))) (fun _ _ => rfl))))))) pss_nil)
    (pss_cons (ps_if (pt_cmpR (VB.op_eqX (K := K) rfl hr.units) (pv 3) pe_int (nomark _)) (pss_one (ps_ret (pe_op (VB.op_addX (K := K) rfl) (pe_op (VB.op_addX (K := K) rfl) (pe_slice (VB.slX (K := K) rfl) (pv 1) po_none (po_some (pv 4))) (pe_lst (pa_cons (pv 5) pa_nil))) (pe_slice (VB.slX (K := K) rfl) (pv 1) (po_some (pv 4)) po_none)))) pss_nil)
    (pss_cons (ps_if (pt_cmpR (VB.op_eqX (K := K) rfl hr.units) (pv 3) pe_int (nomark _)) (pss_one (ps_ret (pe_op (VB.op_addX (K := K) rfl) (pe_op (VB.op_addX (K := K) rfl) (pe_slice (VB.slX (K := K) rfl) (pv 1) po_none (po_some (pv 4))) (pe_lst (pa_cons (pe_tup (pa_cons (pe_ix (VB.ixA (K := K) rfl (VB.room65 hr)) (pv 5) pe_int (fun _ _ => rfl)) (pa_cons (VB.kNotT (K := K) rfl (by exact (pe_ix (VB.ixA (K := K) rfl (VB.room65 hr)) (pv 5) pe_int (fun _ _ => rfl)))) pa_nil))) pa_nil))) (pe_slice (VB.slX (K := K) rfl) (pv 1) (po_some (pv 4)) po_none)))) pss_nil)
    (pss_cons (ps_if (pt_cmpR (VB.op_eqX (K := K) rfl hr.units) (pv 3) pe_int (nomark _)) (pss_one (ps_ret (pe_op (VB.op_addX (K := K) rfl) (pe_op (VB.op_addX (K := K) rfl) (pe_slice (VB.slX (K := K) rfl) (pv 1) po_none (po_some (pv 4))) (pe_lst (pa_cons (pe_call (ok_law_odd_row (K := K) T) (hr.mono (by decide)) (by rfl) T.m_law_odd_row T.k_law_odd_row T.b_law_odd_row .nil pass0 (pa_cons (pv 0) (pa_cons (pv 5) pa_nil))) pa_nil))) (pe_slice (VB.slX (K := K) rfl) (pv 1) (po_some (pv 4)) po_none)))) pss_nil)
    (pss_one (ps_ret (pe_op (VB.op_addX (K := K) rfl) (pe_op (VB.op_addX (K := K) rfl) (pe_slice (VB.slX (K := K) rfl) (pv 1) po_none (po_some (pv 4))) (pe_lst (pa_cons (pe_call (ok_law_odd_row (K := K) T) (hr.mono (by decide)) (by rfl) T.m_law_odd_row T.k_law_odd_row T.b_law_odd_row .nil pass0 (pa_cons (pv 0) (pa_cons (pv 5) pa_nil))) pa_nil))) (pe_slice (VB.slX (K := K) rfl) (pv 1) (po_some (pe_op (VB.op_addX (K := K) rfl) (pv 4) pe_int)) po_none)))))))))), body_M h fun ds hd => ?_⟩
  match ds, hd with
  | _, (.bag b1295 (.bor rows1296 (.bor size1297 .nil))) =>
    refine ⟨[.bag b1295, .bor rows1296, .bor size1297, .no, .no, .no, .no, .no, .no], rfl, ?_⟩
    show G K _ _ _ (m_law_spoilt rows1296 size1297) CF
    unfold m_law_spoilt
    exact (G.par (RAs.cons (RE.take (i := 0) rfl RE.int) (RAs.cons (RE.take (i := 0) rfl (RE.op add_d (RE.rr (RE.cb lenA_c (RAr.cons (RR.bor (d := rows1296) rfl) RAr.nil))) (RE.rr RE.int))) RAs.nil)) (fun way1301 spot1302 => (G.asg (RE.op ixA_d (RE.rr (RE.op add_d (RE.rr (RE.sl sl_d (RR.bor (d := rows1296) rfl) (RO.some (RE.var (d := spot1302) rfl)) (RO.some (RE.op add_d (RE.rr (RE.var (d := spot1302) rfl)) (RE.rr RE.int))))) (RE.rr (RN.re (RN.lst (RAs.cons (RE.tup (RAs.cons (RE.tup (RAs.cons RE.str RAs.nil)) (RAs.cons RE.bl RAs.nil))) RAs.nil)))))) (RE.rr RE.int)) (fun row1303 => (G.ifS (RT.test (RE.rr (RE.op eq_d (RE.rr (RE.var (d := way1301) rfl)) (RE.rr RE.int)))) (G.assoc (G.asg (RN.re (RN.lst (RAs.cons RE.non RAs.nil))) (fun deep1324 => (G.assoc (G.forP (embL := fun s1328 : D => [.bag b1295, .bor rows1296, .bor size1297, .dat way1301, .dat spot1302, .dat row1303, .dat s1328, .no, .no]) (s0 := deep1324) (p := .nm 7) (fun _ r => r.1) (RI.rng1 (RAr.cons (RE.rr RE.int) RAr.nil)) (.same _ (.same _ (.same _ (.same _ (.same _ (.same _ (.same _ (.same _ (.same _ .nil))))))))) (fun s1327 => PB.nm fun k1329 P w => LTp.of (by exact (G.one (G.asg (RN.re (RN.lst (RAs.cons (RE.var (d := s1327) rfl) RAs.nil))) (fun deep1332 => (G.finP (.same _ (.same _ (.same _ (.same _ (.same _ (.same _ (.same _ (.drop _ (.same _ .nil)))))))))))))) w) (fun s1331 => (G.assoc (G.asg (RN.re (RN.lst (RAs.cons RE.non (RAs.cons RE.int (RAs.cons RE.str (RAs.cons RE.str (RAs.cons (RN.re RN.dnew) (RAs.cons RE.bl (RAs.cons (RN.re (RN.cb dictPT_c (RAr.cons (RR.bor (d := rows1296) rfl) RAr.nil))) (RAs.cons (RN.re (RN.lst (RAs.cons (RN.re (RN.lst RAs.nil)) RAs.nil))) (RAs.cons (RN.re (RN.lst (RAs.cons (RE.tup RAs.nil) RAs.nil))) (RAs.cons (RE.tup (RAs.cons (RE.tup (RAs.cons (RE.tup RAs.nil) (RAs.cons RE.bl RAs.nil))) RAs.nil)) (RAs.cons (RE.tup (RAs.cons (RE.tup RAs.nil) (RAs.cons RE.bl RAs.nil))) (RAs.cons (RE.var (d := s1331) rfl) (RAs.cons (RE.op mul_d (RE.rr (RN.re (RN.lst (RAs.cons RE.non RAs.nil)))) (RR.bor (d := size1297) rfl)) RAs.nil))))))))))))))) (fun odd1334 => (G.retF (fun _ r => r.1) (RE.op ixA_d (RE.rr (RE.var (d := odd1334) rfl)) (RE.rr (RE.take (i := 0) rfl RE.int))))))))))))) (G.next (G.ifS (RT.test (RE.rr (RE.op eq_d (RE.rr (RE.var (d := way1301) rfl)) (RE.rr RE.int)))) (G.retF (fun _ r => r.1) (RE.op add_d (RE.rr (RE.op add_d (RE.rr (RE.sl sl_d (RR.bor (d := rows1296) rfl) RO.none (RO.some (RE.var (d := spot1302) rfl)))) (RE.rr (RN.re (RN.lst (RAs.cons (RE.var (d := row1303) rfl) RAs.nil)))))) (RE.rr (RE.sl sl_d (RR.bor (d := rows1296) rfl) (RO.some (RE.var (d := spot1302) rfl)) RO.none)))) (G.next (G.ifS (RT.test (RE.rr (RE.op eq_d (RE.rr (RE.var (d := way1301) rfl)) (RE.rr RE.int)))) (G.retF (fun _ r => r.1) (RE.op add_d (RE.rr (RE.op add_d (RE.rr (RE.sl sl_d (RR.bor (d := rows1296) rfl) RO.none (RO.some (RE.var (d := spot1302) rfl)))) (RE.rr (RN.re (RN.lst (RAs.cons (RE.tup (RAs.cons (RE.op ixA_d (RE.rr (RE.var (d := row1303) rfl)) (RE.rr RE.int)) (RAs.cons (RE.notT (RE.rr (RE.op ixA_d (RE.rr (RE.var (d := row1303) rfl)) (RE.rr RE.int)))) RAs.nil))) RAs.nil)))))) (RE.rr (RE.sl sl_d (RR.bor (d := rows1296) rfl) (RO.some (RE.var (d := spot1302) rfl)) RO.none)))) (G.next (G.ifS (RT.test (RE.rr (RE.op eq_d (RE.rr (RE.var (d := way1301) rfl)) (RE.rr RE.int)))) (G.retF (fun _ r => r.1) (RE.op add_d (RE.rr (RE.op add_d (RE.rr (RE.sl sl_d (RR.bor (d := rows1296) rfl) RO.none (RO.some (RE.var (d := spot1302) rfl)))) (RE.rr (RN.re (RN.lst (RAs.cons (RE.callE (RAm.bag (i := 0) rfl (RAm.dat (RE.var (d := row1303) rfl) RAm.nil)) rfl) RAs.nil)))))) (RE.rr (RE.sl sl_d (RR.bor (d := rows1296) rfl) (RO.some (RE.var (d := spot1302) rfl)) RO.none)))) (G.next (G.one (G.retF (fun _ r => r.1) (RE.op add_d (RE.rr (RE.op add_d (RE.rr (RE.sl sl_d (RR.bor (d := rows1296) rfl) RO.none (RO.some (RE.var (d := spot1302) rfl)))) (RE.rr (RN.re (RN.lst (RAs.cons (RE.callE (RAm.bag (i := 0) rfl (RAm.dat (RE.var (d := row1303) rfl) RAm.nil)) rfl) RAs.nil)))))) (RE.rr (RE.sl sl_d (RR.bor (d := rows1296) rfl) (RO.some (RE.op add_d (RE.rr (RE.var (d := spot1302) rfl)) (RE.rr RE.int))) RO.none)))))))))))))))))
theorem ok_law_tried (T : Tx w K mg a) : FnOk P w K mg base CX0 7 a.f_law_tried a.d_law_tried ["_law_thing"] (spM K [.bor] (l_law_tried a.c)) := by
  refine T.F_law_tried.ok (k := 6) sc_law_tried (fun vs H Q E h => spM_len h) (fun cdv A outer s H vs Q E hr h => ?_)
  refine ⟨_, PSs.nox (pss_one (VB.ps_try1 (i := 1) rfl rfl sc_law_tried.nd rfl rfl ⟨by rfl, by decide, .inl T.mc_Wrong⟩ VB.take_none rfl (fun E pn xe px => (pe_tup (pa_cons pe_str (pa_cons (pe_make T.mk_Region (okx_Region_init (K := K) T) (hr.mono (by decide)) (by rfl) T.mc_Region T.b_Region_init .nil px (pa_cons (pv 0) pa_nil)) pa_nil)))) (fun a0 oe cls d pn hz hf => (pss_cons (ps_set (i := 2) sc_law_tried.nd rfl (Or.inl rfl) (pe_and (pe_callB (VB.call_isX hz hf) (by rfl) T.n_isinstance (by decide +kernel) (pa_cons (pv 1) (pa_cons (pe_glob (v := .ref a.c.VouchError) (by rfl) T.mc_VouchError rfl) pa_nil))) (pe_one (pe_not (pe_callB (VB.call_isX hz hf) (by rfl) T.n_isinstance (by decide +kernel) (pa_cons (pv 1) (pa_cons (pe_tup (pa_cons (pe_glob (v := .ref a.c.TooMany) (by rfl) T.mc_TooMany rfl) (pa_cons (pe_glob (v := .ref a.c.Unfit) (by rfl) T.mc_Unfit rfl) pa_nil))) pa_nil))))))) (pss_one (ps_ret (pe_tup (pa_cons pe_str (pa_cons (pe_ifExp (pt_val (pv 2)) (pe_xf T.er_Wrong.xf T.er_Wrong.nf hz hf (pv 1)) pe_str) pa_nil))))))))), body_M h fun ds hd => ?_⟩
  match ds, hd with
  | _, (.bor thing1571 .nil) =>
    refine ⟨[.bor thing1571, .no, .no], rfl, ?_⟩
    show G K _ _ _ (m_law_tried a.c thing1571) CF
    unfold m_law_tried
    exact (G.one (G.tryAs (n := 3) (fun _ r => r.1) rfl T.er_Wrong.me (fun E => (RX.tup2 RE.str (RX.makeE (C := a.c.Region) (l := lx_Region_init a.c) (RAm.bor (RR.bor (d := thing1571) rfl) RAm.nil) rfl))) (VB.su_refused (f := "place") (n := 3) (i := 1) (j := 2) (z1 := "refused") (z2 := "odd") T.er_Wrong.ex T.ki_Wrong_VouchError T.ka_Wrong_TooMany_Unfit (by decide) (by decide) (by decide))))
end K17
namespace K17
open PySem PySem.Spec PyProof.Rows L2 VB
variable {P : Program} {w : World} {K : PySem.W.Frag} {mg : Str → Option Value} {base : Heap} {a : Ad}
set_option maxHeartbeats 0 in
theorem ok_law (T : Tx w K mg a) (hw : wp (m_law a.c) fun d => d = .bl true) : FnG P w K mg base CX0 8 a.f_law a.d_law ["_law_script"] (spLaw K) := by
  refine VB.okG (k := 7) T.F_law sc_law (fun vs H Q E h => ?_) (fun cdv A outer s H vs Q E hg hr h => ?_)
  · obtain ⟨_, _, rfl, _⟩ := h
    rfl
  · refine ⟨_, PSs.nox (pss_cons (ps_set (i := 1) sc_law.nd rfl (Or.inl rfl) (pe_call (ok_law_bag (K := K) T) (hr.mono (by decide)) (by rfl) T.m_law_bag T.k_law_bag T.b_law_bag .nil pass0 (pa_cons (pv 0) pa_nil)))
    (pss_cons (ps_set (i := 2) sc_law.nd rfl (Or.inl rfl) (pe_call (ok_law_labels (K := K) T) (hr.mono (by decide)) (by rfl) T.m_law_labels T.k_law_labels T.b_law_labels .nil pass0 (pa_cons (pv 1) (pa_cons (pe_op (VB.op_addX (K := K) rfl) pe_int (pe_call (ok_law_take (K := K) T) (hr.mono (by decide)) (by rfl) T.m_law_take T.k_law_take T.b_law_take .nil pass0 (pa_cons (pv 1) (pa_cons pe_int pa_nil)))) pa_nil))))
    (pss_cons (ps_for PassesOwn.never rfl (pi_range1 rfl T.n_range (pa_cons pe_int pa_nil)) (pg_name (i := 3) sc_law.nd rfl (Or.inl rfl))
      (pss_cons (ps_set (i := 4) sc_law.nd rfl (Or.inr rfl) (pe_call (ok_law_mixed (K := K) T) (hr.mono (by decide)) (by rfl) T.m_law_mixed T.k_law_mixed T.b_law_mixed .nil pass0 (pa_cons (pv 1) (pa_cons (pe_callTy (VB.cr_listItX rfl) (by rfl) T.n_list (by decide +kernel) (pa_cons (VB.pe_itX (pe_call (ok_law_drawn_flags (K := K) T) (hr.mono (by decide)) (by rfl) T.m_law_drawn_flags T.k_law_drawn_flags T.b_law_drawn_flags .nil pass0 (pa_cons (pv 1) (pa_cons (pv 2) (pa_cons pe_int pa_nil))))) pa_nil)) pa_nil))))
    (pss_cons (ps_set (i := 5) sc_law.nd rfl (Or.inl rfl) (pe_callTy (VB.kLstA (K := K) rfl rfl) (by rfl) T.n_list (by decide +kernel) (pa_cons (pv 4) pa_nil)))
    (pss_cons (ps_for PassesOwn.never rfl (pi_range1 rfl T.n_range (pa_cons (pe_call (ok_law_take (K := K) T) (hr.mono (by decide)) (by rfl) T.m_law_take T.k_law_take T.b_law_take .nil pass0 (pa_cons (pv 1) (pa_cons pe_int pa_nil))) pa_nil)) (pg_name (i := 6) sc_law.nd rfl (Or.inl rfl))
      (pss_one (ps_if (PW.pt (pw_and (pt_val (pe_callB (VB.cr_isiE (K := K) rfl) (by rfl) T.n_isinstance (by decide +kernel) (pa_cons (pv 5) (pa_cons (pe_bltn (v := .ty "list") (u := .type "list") (by rfl) T.n_list (by decide +kernel) rfl) pa_nil)))) (pw_and1 (pt_cmpR (VB.op_eqX (K := K) rfl hr.units) (pe_lc (own := [("_law_row", 12)]) (g := gName 12) rfl sc_law.nd (VB.pi_dat (K := K) rfl (pv 5)) (blkOk_by (N := ["_law_script", "_law_bag_here", "_law_labels_here", "_law_k", "_law_good", "_law_thing", "_law_time", "_law_shown", "_law_word", "_law_found", "_law_name_here", "_law_flag", "_law_row"]) (sc := defScope s_law) (by decide +kernel)) (fun _ _ _ _ _ => (pg_name (i := 12) sc_law.nd rfl (Or.inl rfl))) (fun _ _ _ _ _ => pts_one (pt_not (pt_val (pe_call (ok_law_is_row (K := K) T) (hr.mono (by decide)) (by rfl) T.m_law_is_row T.k_law_is_row T.b_law_is_row .nil pass0 (pa_cons (pv 12) pa_nil))))) (fun _ _ _ _ _ => (pv 12))) (pe_lst pa_nil) (nomark _))))) (pss_one (ps_set (i := 5) sc_law.nd rfl (Or.inl rfl) (pe_call (ok_law_spoilt (K := K) T) (hr.mono (by decide)) (by rfl) T.m_law_spoilt T.k_law_spoilt T.b_law_spoilt .nil pass0 (pa_cons (pv 1) (pa_cons (pv 5) (pa_cons (pe_ix (VB.ixA (K := K) rfl (VB.room65 hr)) (pe_lst (pa_cons pe_int (pa_cons pe_int pa_nil))) (pe_callTy call_int1 (by rfl) T.n_int (by decide +kernel) (pa_cons (pe_cmpR (VB.op_eqX (K := K) rfl hr.units) (pv 3) pe_int (nomark _)) pa_nil)) (fun _ _ => rfl)) pa_nil)))))) pss_nil)))
    (pss_cons (ps_if (PW.pt (pw_and (pt_val (pe_callB (VB.cr_isiE (K := K) rfl) (by rfl) T.n_isinstance (by decide +kernel) (pa_cons (pv 5) (pa_cons (pe_bltn (v := .ty "list") (u := .type "list") (by rfl) T.n_list (by decide +kernel) rfl) pa_nil)))) (pw_and1 (pt_cmpR (VB.op_eqX (K := K) rfl hr.units) (pe_call (ok_law_take (K := K) T) (hr.mono (by decide)) (by rfl) T.m_law_take T.k_law_take T.b_law_take .nil pass0 (pa_cons (pv 1) (pa_cons pe_int pa_nil))) pe_int (nomark _))))) (pss_one (ps_set (i := 5) sc_law.nd rfl (Or.inl rfl) (pe_callTy (VB.kTup (K := K) rfl) (by rfl) T.n_tuple (by decide +kernel) (pa_cons (pv 5) pa_nil)))) pss_nil)
    (pss_cons (ps_set (i := 7) sc_law.nd rfl (Or.inl rfl) (pe_callB (VB.cr_reprE (K := K) rfl T.sys hg hr.units) (by rfl) T.n_repr (by decide +kernel) (pa_cons (pv 5) pa_nil)))
    (pss_cons (ps_asg (pe_call (ok_law_tried (K := K) T) (hr.mono (by decide)) (by rfl) T.m_law_tried T.k_law_tried T.b_law_tried .nil pass0 (pa_cons (pv 5) pa_nil)) (VB.kTg (K := K) (n := 2) rfl rfl (pgs_cons (pg_name (i := 8) sc_law.nd rfl (Or.inl rfl)) (pgs_cons (pg_name (i := 9) sc_law.nd rfl (Or.inl rfl)) pgs_nil))))
    (pss_cons (ps_if (PW.pt (pw_or (pt_cmpR (VB.op_neX (K := K) rfl hr.units) (pe_callB (VB.cr_reprE (K := K) rfl T.sys hg hr.units) (by rfl) T.n_repr (by decide +kernel) (pa_cons (pv 5) pa_nil)) (pv 7) (nomark _)) (pw_or1 (pt_cmpR (VB.op_neX (K := K) rfl hr.units) (pe_cmpR (VB.op_eqX (K := K) rfl hr.units) (pv 8) pe_str (nomark _)) (pe_call (ok_law_is_good (K := K) T) (hr.mono (by decide)) (by rfl) T.m_law_is_good T.k_law_is_good T.b_law_is_good .nil pass0 (pa_cons (pv 5) pa_nil)) (nomark _))))) (pss_one (ps_ret pe_bl)) pss_nil)
    (pss_cons (ps_if (PW.pt (pw_and (pt_cmpR (VB.op_eqX (K := K) rfl hr.units) (pv 8) pe_str (nomark _)) (pw_and1 (pt_cmpR (VB.op_neX (K := K) rfl hr.units) (pe_callB (VB.call_reprX (K := K) rfl T.sys hg hr.units) (by rfl) T.n_repr (by decide +kernel) (pa_cons (pv 9) pa_nil)) pe_str (nomark _))))) (pss_one (ps_ret pe_bl)) pss_nil)
    (pss_cons (ps_if (pt_cmpR (VB.op_eqX (K := K) rfl hr.units) (pv 8) pe_str (nomark _)) (pss_one (ps_for PassesOwn.never rfl (VB.pi_dat (K := K) rfl (pv 5)) (VB.kTg (K := K) (n := 2) rfl rfl (pgs_cons (pg_name (i := 10) sc_law.nd rfl (Or.inl rfl)) (pgs_cons (pg_name (i := 11) sc_law.nd rfl (Or.inl rfl)) pgs_nil)))
      (pss_one (ps_if (pt_cmpR (VB.op_neX (K := K) rfl hr.units) (pe_cmpR (VB.op_inO T.me_Region_contains (ok_Region_contains (K := K) T) T.b_Region_contains (hr.mono (by decide)) pass0) (pv 10) (pv 9) (by rfl)) (pv 11) (nomark _)) (pss_one (ps_ret pe_bl)) pss_nil)))) pss_nil)
    (pss_one (ps_if (pt_cmpR (VB.op_neX (K := K) rfl hr.units) (pe_lc (own := [("_law_name_here", 10), ("_law_flag", 11)]) rfl sc_law.nd (VB.pi_dat (K := K) rfl (pv 4)) (blkOk_by (N := ["_law_script", "_law_bag_here", "_law_labels_here", "_law_k", "_law_good", "_law_thing", "_law_time", "_law_shown", "_law_word", "_law_found", "_law_name_here", "_law_flag", "_law_row"]) (sc := defScope s_law) (by decide +kernel)) (fun _ _ _ _ _ => (VB.kTg (K := K) (n := 2) rfl rfl (pgs_cons (pg_name (i := 10) sc_law.nd rfl (Or.inl rfl)) (pgs_cons (pg_name (i := 11) sc_law.nd rfl (Or.inl rfl)) pgs_nil)))) (fun _ _ _ _ _ => pts_one (pt_cmpR (VB.op_neX (K := K) rfl hr.units) (pe_cmpR (VB.op_inO T.me_Region_contains (ok_Region_contains (K := K) T) T.b_Region_contains (hr.mono (by decide)) pass0) (pv 10) (pe_make T.mk_Region (ok_Region_init (K := K) T) (hr.mono (by decide)) (by rfl) T.mc_Region T.b_Region_init .nil pass0 (pa_cons (pv 4) pa_nil)) (by rfl)) (pv 11) (nomark _))) (fun _ _ _ _ _ => (pv 10))) (pe_lst pa_nil) (nomark _)) (pss_one (ps_ret pe_bl)) pss_nil))))))))))))
    (pss_one (ps_ret pe_bl))))), law_body h (by decide) fun b => ⟨[.no, .bag b, .no, .no, .no, .no, .no, .no, .no, .no, .no, .no, .no], rfl, ?_⟩⟩
    refine unfold_law (show G K (fnR false) _ _ (m_law a.c) CF from ?_) hw
    unfold m_law
    exact (G.asg (RE.callE (RAm.bag (i := 1) rfl (RAm.dat (RE.op add_d (RE.rr RE.int) (RE.rr (RE.take (i := 1) rfl RE.int))) RAm.nil)) rfl) (fun labels_here1579 => (G.forF (embL := fun s1585 : Unit => [.no, .bag b, .dat labels_here1579, .no, .no, .no, .no, .no, .no, .no, .no, .no, .no]) (s0 := ()) (p := .nm 3) (fun _ r => r.1) (RI.rng1 (RAr.cons (RE.rr RE.int) RAr.nil)) (.same _ (.same _ (.same _ (.same _ (.same _ (.same _ (.same _ (.same _ (.same _ (.same _ (.same _ (.same _ (.same _ .nil))))))))))))) (fun s1584 => PB.nm fun k1586 P w => LT.of (by exact (G.asg (RN.re (RN.callE (RAm.bag (i := 1) rfl (RAm.bor (RE.rr (RN.re (RN.listItems (RE.rr (RN.re (RN.callE (RAm.bag (i := 1) rfl (RAm.bor (RE.rr (RE.var (d := labels_here1579) rfl)) (RAm.bor (RE.rr RE.int) RAm.nil))) rfl)))))) RAm.nil)) rfl)) (fun good1589 => (G.asg (RN.re (RN.cb lstA_c (RAr.cons (RE.rr (RE.var (d := good1589) rfl)) RAr.nil))) (fun thing1593 => (G.forP (embL := fun s1597 : D => [.no, .bag b, .dat labels_here1579, .dat k1586, .dat good1589, .dat s1597, .no, .no, .no, .no, .no, .no, .no]) (s0 := thing1593) (p := .nm 6) (fun _ r => r.1) (RI.rng1 (RAr.cons (RE.rr (RE.take (i := 1) rfl RE.int)) RAr.nil)) (.same _ (.same _ (.same _ (.same _ (.same _ (.same _ (.same _ (.same _ (.same _ (.same _ (.same _ (.same _ (.same _ .nil))))))))))))) (fun s1596 => PB.nm fun time1598 P w => LTp.of (by exact (G.one (G.ifS (RT.and (RT.b (RE.rr (RE.cb isiE_c (RAr.cons (RE.rr (RE.var (d := s1596) rfl)) (RAr.cons (RE.rr RE.ty) RAr.nil))))) (RT.test (RE.rr (RE.op eq_d (RE.rr (RN.re (RN.lc (p := .nm 12) (js := [12]) (RI.dat (RE.var (d := s1596) rfl)) (fun _ m => m) (PB.nm fun row1604 P w => CT.test (RT.not (RT.b (RE.rr (RE.callE (RAm.bor (RE.rr (RE.var (d := row1604) rfl)) RAm.nil) rfl)))) (RE.var (d := row1604) rfl) w)))) (RE.rr (RN.re (RN.lst RAs.nil))))))) (by exact (G.asg (RE.callE (RAm.bag (i := 1) rfl (RAm.bor (RE.rr (RE.var (d := s1596) rfl)) (RAm.bor (RE.rr (RE.op ixA_d (RE.rr (RN.re (RN.lst (RAs.cons RE.int (RAs.cons RE.int RAs.nil))))) (RE.rr (RE.cb int_c (RAr.cons (RE.rr (RE.op eq_d (RE.rr (RE.var (d := k1586) rfl)) (RE.rr RE.int))) RAr.nil))))) RAm.nil))) rfl) (fun thing1613 => (G.finP (.same _ (.same _ (.same _ (.same _ (.same _ (.same _ (.drop _ (.same _ (.same _ (.same _ (.same _ (.same _ (.same _ .nil))))))))))))))))) (by exact (G.next (G.finP (.same _ (.same _ (.same _ (.same _ (.same _ (.same _ (.drop _ (.same _ (.same _ (.same _ (.same _ (.same _ (.same _ .nil))))))))))))))))))) w) (fun s1600 => (G.joinP (emb := fun s1629 : D => [.no, .bag b, .dat labels_here1579, .dat k1586, .dat good1589, .dat s1629, .no, .no, .no, .no, .no, .no, .no]) (fun _ r => r.1) (G.one (G.ifS (RT.and (RT.b (RE.rr (RE.cb isiE_c (RAr.cons (RE.rr (RE.var (d := s1600) rfl)) (RAr.cons (RE.rr RE.ty) RAr.nil))))) (RT.test (RE.rr (RE.op eq_d (RE.rr (RE.take (i := 1) rfl RE.int)) (RE.rr RE.int))))) (by exact (G.asg (RE.cb tup_c (RAr.cons (RE.rr (RE.var (d := s1600) rfl)) RAr.nil)) (fun thing1635 => (G.finP (.same _ (.same _ (.same _ (.same _ (.same _ (.same _ (.same _ (.same _ (.same _ (.same _ (.same _ (.same _ (.same _ .nil))))))))))))))))) (by exact (G.next (G.finP (.same _ (.same _ (.same _ (.same _ (.same _ (.same _ (.same _ (.same _ (.same _ (.same _ (.same _ (.same _ (.same _ .nil)))))))))))))))))) (fun s1628 => (G.asg (RE.cb reprE_c (RAr.cons (RE.rr (RE.var (d := s1628) rfl)) RAr.nil)) (fun shown1637 => (G.unp (p := Pt.two 8 9) (RE.callE (RAm.bor (RE.rr (RE.var (d := s1628) rfl)) RAm.nil) rfl) (PB.two fun word1640 found1641 P w => unp_of (by exact (G.ifS (RT.or (RT.test (RE.rr (RE.op ne_d (RE.rr (RE.cb reprE_c (RAr.cons (RE.rr (RE.var (d := s1628) rfl)) RAr.nil))) (RE.rr (RE.var (d := shown1637) rfl))))) (RT.test (RE.rr (RE.op ne_d (RE.rr (RE.op eq_d (RE.rr (RE.var (d := word1640) rfl)) (RE.rr RE.str))) (RE.rr (RE.callE (RAm.bor (RE.rr (RE.var (d := s1628) rfl)) RAm.nil) rfl)))))) (G.retS (fun _ r => r.1) RE.bl) (G.next (G.ifS (RT.and (RT.test (RE.rr (RE.op eq_d (RE.rr (RE.var (d := word1640) rfl)) (RE.rr RE.str)))) (RT.test (RE.rr (RE.op ne_d (RE.rr (RE.cb repr_c (RAr.cons (RE.rr (RE.var (d := found1641) rfl)) RAr.nil))) (RE.rr RE.str))))) (G.retS (fun _ r => r.1) RE.bl) (G.next (G.joinS (emb := fun s1664 : Unit => [.no, .bag b, .dat labels_here1579, .dat k1586, .dat good1589, .dat s1628, .no, .dat shown1637, .dat word1640, .dat found1641, .no, .no, .no]) (fun _ r => r.1) (G.one (G.ifS (RT.test (RE.rr (RE.op eq_d (RE.rr (RE.var (d := word1640) rfl)) (RE.rr RE.str)))) (G.forS (embL := fun s1670 : Unit => [.no, .bag b, .dat labels_here1579, .dat k1586, .dat good1589, .dat s1628, .no, .dat shown1637, .dat word1640, .dat found1641, .no, .no, .no]) (s0 := ()) (p := Pt.two 10 11) (fun _ r => r) (RI.dat (RE.var (d := s1628) rfl)) (.same _ (.same _ (.same _ (.same _ (.same _ (.same _ (.same _ (.same _ (.same _ (.same _ (.same _ (.same _ (.same _ .nil))))))))))))) (fun s1669 => PB.two fun name_here1671 flag1672 P w => LT.of (by exact (G.one (G.ifS (RT.test (RE.rr (RE.op ne_d (RE.rr (RE.op inO_d (RE.rr (RE.var (d := name_here1671) rfl)) (RE.rr (RE.var (d := found1641) rfl)))) (RE.rr (RE.var (d := flag1672) rfl))))) (G.retS (fun _ r => r.1) RE.bl) (G.next (G.finS (.same _ (.same _ (.same _ (.same _ (.same _ (.same _ (.same _ (.same _ (.same _ (.same _ (.drop _ (.drop _ (.same _ .nil)))))))))))))))))) w) (fun s1675 => (G.finS (.same _ (.same _ (.same _ (.same _ (.same _ (.same _ (.same _ (.same _ (.same _ (.same _ (.same _ (.same _ (.same _ .nil)))))))))))))))) (G.next (G.finS (.same _ (.same _ (.same _ (.same _ (.same _ (.same _ (.same _ (.same _ (.same _ (.same _ (.same _ (.same _ (.same _ .nil))))))))))))))))) (fun s1663 => (G.one (G.ifS (RT.test (RE.rr (RE.op ne_d (RE.rr (RN.re (RN.lc (p := Pt.two 10 11) (js := [10, 11]) (RI.dat (RE.var (d := good1589) rfl)) (fun _ m => m) (PB.two fun name_here1683 flag1684 P w => CT.test (RT.test (RE.rr (RE.op ne_d (RE.rr (RE.op inO_d (RE.rr (RE.var (d := name_here1683) rfl)) (RE.rr (RN.re (RN.makeE (RAm.bor (RE.rr (RE.var (d := good1589) rfl)) RAm.nil) rfl))))) (RE.rr (RE.var (d := flag1684) rfl))))) (RE.var (d := name_here1683) rfl) w)))) (RE.rr (RN.re (RN.lst RAs.nil)))))) (G.retS (fun _ r => r.1) RE.bl) (G.next (G.finS (.same _ (.same _ (.same _ (.drop _ (.drop _ (.drop _ (.same _ (.drop _ (.drop _ (.drop _ (.same _ (.same _ (.same _ .nil)))))))))))))))))))))))) w))))))))))))) w) (fun s1588 => (G.one (G.retF (fun _ r => r.1) RE.bl))))))
end K17
namespace K17
open PySem PySem.Spec PyProof.Rows L2 VB
variable {P : Program} {w : World} {K : PySem.W.Frag} {mg : Str → Option Value} {base : Heap} {a : Ad}
theorem e_flag_at {F : Rg} {n : Nme} (hl : n.length ≤ 1000000) : m_flag_at (rgD F) (nm n) = .ret (.bl (flagOf F n)) := by
  unfold m_flag_at
  have e1 : D.rngD [.int (n.length : Nat), .int (-1), .int (-1)] = .ret (D.down (n.length : Nat) (n.length + 1)) := rng3_dn (by omega) (by omega)
  simp only [M.ret_bind, M.one, lenA_nm, e1]
  unfold flagOf
  generalize hf : (fun ys (s : Unit) => _) = f
  have step : ∀ k : Nat, k ≤ n.length → f (.int k) () = match lkF F (n.take k) with
      | some b => .ret (.rt (.bl b))
      | none => .ret (.nx ()) := fun k hk => by
    rw [← hf]
    simp only [asI_int, M.ret_bind, sl_nm, inA_rg, asB_bl]
    cases e : lkF F (n.take k) with
    | none =>
      simp only [Option.isSome_none, Bool.false_eq_true, if_false]
    | some b =>
      simp only [Option.isSome_some, if_true, ixA_rg e, M.ret_bind]
  clear hf
  have go : ∀ k : Nat, k ≤ n.length → (M.loop (X := Empty) f (D.down (k : Int) (k + 1)) ()).bind (Fl.toF fun s => (M.ret (D.bl false))) = .ret (.bl (flagN F n k)) := fun k => by
    induction k with
    | zero =>
      intro hk
      rw [down_succ]
      unfold M.loop
      have s0 := step 0 hk
      rw [List.take_zero] at s0
      rw [show ((0 : Nat) : Int) = 0 from rfl] at s0 ⊢
      rw [s0]
      unfold flagN
      cases lkF F [] with
      | none => rfl
      | some b => rfl
    | succ k ih =>
      intro hk
      rw [down_succ]
      unfold M.loop
      rw [step (k + 1) hk]
      unfold flagN
      cases lkF F (n.take (k + 1)) with
      | none =>
        have z := ih (by omega)
        rw [show (((k + 1 : Nat) : Int) - 1) = (k : Int) by omega]
        exact z
      | some b => rfl
  exact go n.length (Nat.le_refl _)
theorem under_ev {F : Rg} {n : Nme} (hw : ∀ x ∈ n, Wd x) (hl : n.length ≤ 1000000) : M.andB (D.ne (nm n) (.tup [])) (m_flag_at (rgD F) (nm n.dropLast)) = .ret (.bl (under F n)) := by
  unfold M.andB
  rw [show D.tup [] = nm [] from rfl, nm_ne (b := []) hw (fun x m => nomatch m)]
  simp only [M.ret_bind, asB_bl]
  cases n with
  | nil => rfl
  | cons x n =>
    rw [decide_eq_false (fun z : x :: n = [] => nomatch z), if_pos (show (!false) = true from rfl), e_flag_at (by
      rw [List.length_dropLast]
      omega)]
    rfl
theorem e_needed {F : Rg} (nd : NdF F) (hw : WdF F) (hl : F.length < 16777216) (hn : ∀ r ∈ F, r.1.length ≤ 1000000) : m_needed_flags (rgD F) = .ret (rgD (needF F)) := by
  unfold m_needed_flags
  simp only [M.ret_bind, rows_rg, tupM0]
  generalize hf : (fun ys (s : D) => _) = f
  have step : ∀ (r : Nme × Bool) (G : Rg), r ∈ F → lkF G r.1 = none → G.length < 16777216 → f (rwD r) (rgD G) = .ret (rgD (G ++ [r].filter fun r => r.2 != under F r.1)) := fun r G m e hG => by
    rw [← hf]
    simp only [rwD, D.un2, M.ret_bind, asI_int, sl_last]
    rw [under_ev (hw r m) (hn r m)]
    simp only [M.ret_bind, dne_bl, asB_bl]
    by_cases z : r.2 = under F r.1
    · rw [decide_eq_true z, Bool.not_true, if_neg Bool.false_ne_true]
      simp [z]
    · rw [decide_eq_false z, Bool.not_false, if_pos rfl, setA_rg e hG]
      simp [z]
  clear hf
  have go : ∀ (F1 G : Rg), (∀ r ∈ F1, r ∈ F) → NdF F1 → (∀ r ∈ F1, lkF G r.1 = none) → G.length + F1.length < 16777216 → M.fold f (F1.map rwD) (rgD G) = .ret (rgD (G ++ F1.filter fun r => r.2 != under F r.1)) := fun F1 => by
    induction F1 with
    | nil =>
      intro G _ _ _ _
      rw [List.filter_nil, List.append_nil]
      rfl
    | cons r F1 ih =>
      intro G hF n1 hG hs
      rw [List.length_cons] at hs
      obtain ⟨n2, n3⟩ := List.nodup_cons.mp n1
      rw [List.map_cons]
      unfold M.fold
      rw [step r G (hF r (List.mem_cons_self ..)) (hG r (List.mem_cons_self ..)) (by omega), M.ret_bind, ih _ (fun q m => hF q (List.mem_cons_of_mem _ m)) n3 ?h1 ?h2]
      · rw [List.append_assoc, ← List.filter_append]
        rfl
      · intro q m
        refine lkF_none.mpr fun b mb => ?_
        rcases List.mem_append.mp mb with mb | mb
        · exact lkF_none.mp (hG q (List.mem_cons_of_mem _ m)) b mb
        · have := List.mem_singleton.mp (List.mem_filter.mp mb).1
          exact n2 (by
            rw [← this]
            exact List.mem_map.mpr ⟨q, m, rfl⟩)
      · have := List.length_filter_le (fun r : Nme × Bool => r.2 != under F r.1) [r]
        rw [List.length_append]
        rw [List.length_singleton] at this
        omega
  have z := go F [] (fun _ m => m) nd (fun _ _ => rfl) (by rw [List.length_nil]; omega)
  rw [List.nil_append] at z
  rw [show D.dit [] [] = rgD [] from rfl, z]
  rfl
def regD (c : Cl) (F : Rg) : D := .ins c.Region ["kept_flags"] [rgD (needF F)]
theorem g_flags {c : Cl} {F : Rg} : D.getF c.Region "kept_flags" (regD c F) = .ret (rgD (needF F)) := by
  unfold regD
  rw [getF_ev]
  rfl
theorem e_rcontains {c : Cl} {F : Rg} {n : Nme} (nd : NdF F) (hl : n.length ≤ 1000000) : m_Region_contains c (regD c F) (nm n) = .ret (.bl (flagOf F n)) := by
  unfold m_Region_contains
  simp only [M.ret_bind, g_flags, e_flag_at hl, need_flag nd]
theorem cm_ret2 {γ : Type} {k : D → M (Option D)} {g : γ → D} {f : γ → Option D} : ∀ {xs : List γ}, (∀ x ∈ xs, k (g x) = .ret (f x)) → M.cm k (xs.map g) = .ret (xs.filterMap f)
  | [], _ => rfl
  | x :: xs, h => by
    have ih := cm_ret2 (k := k) (g := g) (f := f) (xs := xs) fun y m => h y (List.mem_cons_of_mem _ m)
    show (k (g x)).bind (fun o => (M.cm k (xs.map g)).bind fun es => .ret (match o with | some e => e :: es | none => es)) = _
    rw [h x (List.mem_cons_self ..), ih]
    rw [List.filterMap_cons]
    cases f x <;> rfl
end K17
namespace K17
open PySem PySem.Spec PyProof.Rows L2 VB
variable {P : Program} {w : World} {K : PySem.W.Frag} {mg : Str → Option Value} {base : Heap} {a : Ad}
theorem w_mixed {ds : List D} {b : Bool} {P : D → Prop} (hl : ds.length ≤ 1000) (hP : ∀ es, es.length = ds.length → (∀ e, e ∈ es ↔ e ∈ ds) → P (.lst es)) : wp (m_law_mixed (if b = true then .lst ds else .tup ds)) P := by
  unfold m_law_mixed
  rw [lstM_ev (by simp), show D.items (if b = true then .lst ds else .tup ds) = .ret ds from by cases b <;> rfl]
  simp only [M.ret_bind]
  refine wp_bind.mpr (wp_fold (I := fun i s => ∃ es, s = .lst es ∧ es.length = i ∧ ∀ e, e ∈ es ↔ e ∈ ds.take i) 0 ⟨[], rfl, rfl, fun _ => Iff.rfl⟩ (fun j d s hj ⟨es, hs, hn, hm⟩ => ?_) fun s ⟨es, hs, hn, hm⟩ => ?_)
  · subst hs
    have hj2 : j < ds.length := (List.getElem?_eq_some_iff.mp hj).1
    show wp (D.lsk (.lst es) _) _
    simp only [D.lsk]
    rw [if_pos (by omega)]
    simp only [M.one, dlen_lst, M.ret_bind, dadd_int]
    refine wp_take (by omega) (by omega) fun r r0 r1 => ?_
    show wp (if 0 ≤ r ∧ r < 9223372036854775808 then _ else _) _
    rw [if_pos ⟨r0, by omega⟩]
    refine ⟨_, rfl, ?_, fun e => ?_⟩
    · simp only [List.length_append, List.length_take, List.length_drop, List.length_cons, List.length_nil]
      omega
    · rw [show ds.take (0 + j + 1) = ds.take j ++ [d] from by
        rw [Nat.zero_add, List.take_add_one, hj]
        rfl]
      rw [Nat.zero_add] at hm
      rw [List.mem_append, List.mem_append, List.mem_append, List.mem_singleton, ← hm e]
      constructor
      · rintro ((m | m) | m)
        · exact .inl (List.mem_of_mem_take m)
        · exact .inr m
        · exact .inl (List.mem_of_mem_drop m)
      · rintro (m | m)
        · rw [← List.take_append_drop r.toNat es, List.mem_append] at m
          exact m.elim (fun z => .inl (.inl z)) .inr
        · exact .inl (.inr m)
  · subst hs
    rw [Nat.zero_add, List.take_length] at hm
    exact hP es (by omega) hm
theorem w_name {ws : List Str} {n : Int} {P : D → Prop} (h0 : 0 ≤ n) (h1 : n ≤ 1000) (hw : 1 ≤ ws.length) (hl : ws.length ≤ 1000) (hP : ∀ xs : List Str, (xs.length : Int) ≤ n → (∀ x ∈ xs, x ∈ ws) → P (nm xs)) : wp (m_law_name (.lst (ws.map D.str)) (.int n)) P := by
  unfold m_law_name
  simp only [M.ret_bind, M.one, dadd_int, M.assoc]
  refine wp_take (by omega) (by omega) fun r r0 r1 => ?_
  rw [rng1_ev r0 (by omega)]
  simp only [M.ret_bind, dlen_lst, List.length_map]
  refine wp_bind.mpr (wp_map_all (Q := fun e => ∃ z : Str, e = .str z ∧ z ∈ ws) (fun d m => ?_) fun es hl he => ?_)
  · refine wp_take (by omega) (by omega) fun k k0 k1 => ?_
    obtain ⟨x, mx, ex⟩ := atI_of (xs := ws) k0 k1
    rw [ix_lst (atI_map ex)]
    exact ⟨x, rfl, mx⟩
  · obtain ⟨xs, rfl, e2, hx⟩ := strs_allP he
    simp only [M.ret_bind, D.toTup]
    refine hP xs ?_ hx
    rw [e2, hl, ints_len]
    omega
abbrev PK1 : Str := "lists paper anchor notice trust arrive renew back all none any named open shut soft strict ok root"
abbrev PK2 : Str := " a b ab zz ask days"
theorem pk_add : D.add (.str PK1) (.str PK2) = .ret (.str (PK1 ++ PK2)) := addS_ev (by decide +kernel)
theorem pk_split : D.split (.str (PK1 ++ PK2)) (.str " ") = .ret (.lst ((Txt.split (PK1 ++ PK2) " ").map D.str)) := split_ev (by decide +kernel)
theorem let_ix {r : Int} (h0 : 0 ≤ r) (h1 : r < 26) : ∃ c, D.ix (.str LET) (.int r) = .ret (.str ⟨#[c]⟩) ∧ Lw ⟨#[c]⟩ := by
  obtain ⟨c, e, hc⟩ := let_at h0 h1
  exact ⟨c, ix_str (by decide +kernel) e, hc⟩
theorem w_labels {n : Int} {P : D → Prop} (n1 : 1 ≤ n) (n2 : n ≤ 24) (hP : ∀ ws : List Str, (ws.length : Int) = n → (∀ x ∈ ws, Wd x) → P (.lst (ws.map D.str))) : wp (m_law_labels (.int n)) P := by
  unfold m_law_labels
  simp only [M.ret_bind, pk_add, pk_split, M.assoc]
  have hW := words_ok
  rw [show ("lists paper anchor notice trust arrive renew back all none any named open shut soft strict ok root" ++ " a b ab zz ask days" : Str) = PK1 ++ PK2 from rfl] at hW
  generalize Txt.split (PK1 ++ PK2) " " = words at hW ⊢
  refine wp_take (by decide) (by decide) fun way w0 w1 => ?_
  refine wp_take (by decide) (by decide) fun turn t0 t1 => ?_
  rw [tupM2]
  simp only [M.ret_bind, D.un2, M.assoc]
  refine wp_take (by decide) (by decide) fun r7 q0 q1 => ?_
  simp only [dadd_int, M.ret_bind]
  rw [rng1_ev (by omega) (by omega)]
  try simp only [M.ret_bind]
  refine wp_bind.mpr (wp_map_all (Q := fun e => ∃ z : Str, e = .str z ∧ z.length = 1 ∧ Lw z) (fun d m => ?_) fun es hl he => ?_)
  · refine wp_take (by decide) (by decide) fun r26 p0 p1 => ?_
    obtain ⟨c, e, hc⟩ := let_ix p0 p1
    rw [e]
    exact ⟨_, rfl, rfl, hc⟩
  obtain ⟨ys, rfl, hy, hw⟩ := strs_allP he
  rw [ints_len] at hl
  have s1 := sum_ones ys fun x m => (hw x m).1
  have bl : (Txt.join "" ys).length = ys.length := by rw [join_len, s1]
  have bw : Lw (Txt.join "" ys) := join_lw ys fun x m => (hw x m).2
  try simp only [M.ret_bind]
  rw [join_ev (by rw [s1, show (("" : Str)).length = 0 from rfl]; omega)]
  generalize Txt.join "" ys = base at bl bw ⊢
  have b1 : 1 ≤ base.length := by omega
  have b7 : base.length ≤ 7 := by omega
  clear bl s1 hw hy hl he ys q0 q1 r7
  simp only [M.ret_bind, M.one]
  rw [dlen_str (by omega)]
  simp only [M.ret_bind, dadd_int]
  refine wp_take (by omega) (by omega) fun at_ a0 a1 => ?_
  rw [fdiv_ev (by decide)]
  try simp only [M.ret_bind]
  rw [tupM2]
  simp only [M.ret_bind, deq_int, asB_bl]
  by_cases ew : way = 0
  · rw [decide_eq_true ew, if_pos rfl]
    simp only [M.ret_bind, asI_int, D.sl]
    rw [addL_ev (by
      have h1 := cutG_len (words.map D.str) (some turn) none
      have h2 := cutG_len (words.map D.str) none (some turn)
      rw [List.length_map, hW.1] at h1 h2
      omega)]
    try simp only [M.ret_bind]
    rw [cutG_map, cutG_map, ← List.map_append, cutG_map]
    refine hP _ ?_ fun x m => hW.2 x (rot_mem m)
    have et : turn = ((turn.toNat : Nat) : Int) := by omega
    have en : n = ((n.toNat : Nat) : Int) := by omega
    rw [et, en, rot_len words turn.toNat n.toNat (by omega) (by omega)]
  rw [decide_eq_false ew, if_neg Bool.false_ne_true]
  have way1 : 1 ≤ way := by omega
  have f0 : 0 ≤ way / 3 := by omega
  have f1 : way / 3 ≤ 1 := by omega
  have f2 : way = 2 → way / 3 = 0 := by omega
  generalize way / 3 = far at f0 f1 f2 ⊢
  rw [rng1_ev (by omega) (by omega)]
  try simp only [M.ret_bind]
  refine wp_bind.mpr (wp_map_all (Q := fun e => ∃ z : Str, e = .str z ∧ Wd z ∧ (far = 0 → z.length = 1)) (fun d m => ?_) fun es hl he => ?_)
  · obtain ⟨i, rfl, hi⟩ := ints_mem m
    have hi : (i : Int) < 24 := by omega
    rw [mulI_ev (by
      have := log2_small (i := (i : Int)) (by
        have : (i : Int).natAbs < 24 := by omega
        exact Nat.lt_trans this (by decide))
      have : (3 : Int).natAbs.log2 = 1 := by decide
      omega), fdiv_ev (by decide)]
    try simp only [M.ret_bind]
    rw [lstM2]
    obtain ⟨q, em, m0, m1⟩ : ∃ q : Int, atI [D.int (3 * (i : Int)), D.int ((i : Int) / 8)] far = some (D.int q) ∧ 0 ≤ q ∧ q < 100 := by
      rcases (show far = 0 ∨ far = 1 by omega) with f | f
      · exact ⟨3 * i, by rw [f]; rfl, by omega, by omega⟩
      · exact ⟨(i : Int) / 8, by rw [f]; rfl, by omega, by omega⟩
    try simp only [M.ret_bind]
    rw [ix_lst em]
    simp only [M.ret_bind, dadd_int, D.toInt]
    rw [mod_ev (by decide)]
    obtain ⟨c, e, hc⟩ := let_ix (r := (turn + q) % 26) (Int.emod_nonneg _ (by decide)) (Int.emod_lt_of_pos _ (by decide))
    try simp only [M.ret_bind]
    rw [e, mod_ev (by decide)]
    try simp only [M.ret_bind]
    have k0 : 0 ≤ (i : Int) % 8 := Int.emod_nonneg _ (by decide)
    have k8 : (i : Int) % 8 < 8 := Int.emod_lt_of_pos _ (by decide)
    rw [mulI_ev (by
      have h1 := log2_small (i := (i : Int) % 8) (by
        have : ((i : Int) % 8).natAbs < 8 := by omega
        exact Nat.lt_trans this (by decide))
      have h2 := log2_small (i := far) (by
        have : far.natAbs < 8 := by omega
        exact Nat.lt_trans this (by decide))
      omega)]
    simp only [M.ret_bind, dadd_int]
    have kk : 1 ≤ 1 + (i : Int) % 8 * far ∧ 1 + (i : Int) % 8 * far ≤ 8 ∧ (far = 0 → 1 + (i : Int) % 8 * far = 1) := by
      rcases (show far = 0 ∨ far = 1 by omega) with f | f
      · rw [f]
        omega
      · rw [f]
        omega
    generalize 1 + (i : Int) % 8 * far = k at kk ⊢
    rw [mulS_ev ⟨by omega, by omega, by show 1 ≤ 1000; decide⟩]
    refine ⟨_, rfl, mul_one_lw hc kk.1 kk.2.1, fun f => ?_⟩
    rw [kk.2.2 f, mul_one']
    rfl
  obtain ⟨ys, rfl, hy, hw⟩ := strs_allP he
  rw [ints_len] at hl
  simp only [M.ret_bind, deq_int, D.toInt]
  rw [mulS_ev ⟨by split <;> decide, by split <;> decide, by omega⟩]
  have hb : Lw (Txt.mul base (if decide (way = 2) = true then 1 else 0)) ∧ ((Txt.mul base (if decide (way = 2) = true then 1 else 0)).length = 0 ∨ (far = 0 ∧ Txt.mul base (if decide (way = 2) = true then 1 else 0) = base)) := by
    refine ⟨bw.mul _, ?_⟩
    by_cases e2 : way = 2
    · rw [decide_eq_true e2, if_pos rfl, mul_one']
      exact Or.inr ⟨f2 e2, rfl⟩
    · rw [decide_eq_false e2, if_neg Bool.false_ne_true, mul_zero']
      exact Or.inl rfl
  generalize Txt.mul base (if decide (way = 2) = true then 1 else 0) = base2 at hb ⊢
  obtain ⟨bw2, hb⟩ := hb
  have b27 : base2.length ≤ 7 := by
    rcases hb with z | ⟨_, z⟩
    · omega
    · rw [z]
      exact b7
  try simp only [M.ret_bind]
  refine wp_bind.mpr (wp_map_all (Q := fun e => ∃ z : Str, e = .str z ∧ Wd z) (fun d m => ?_) fun es hl2 he2 => ?_)
  · obtain ⟨i, rfl, hi⟩ := ints_mem m
    have hi2 : i < ys.length := by omega
    simp only [asI_int, M.ret_bind]
    rw [slS_ev (by omega)]
    have em : atI (ys.map D.str) (i : Int) = some (.str ys[i]) := atI_nat (by rw [List.getElem?_map, List.getElem?_eq_getElem hi2]; rfl)
    rw [ix_lst em]
    have yw := hw _ (List.getElem_mem hi2)
    generalize ys[i] = y at yw ⊢
    have c1 := cutS_len base2 none (some at_)
    have c2 := cutS_len base2 (some at_) none
    obtain ⟨⟨y1, y8, yl⟩, yf⟩ := yw
    try simp only [M.ret_bind]
    rw [addS_ev (by omega), slS_ev (by omega)]
    try simp only [M.ret_bind]
    rw [addS_ev (by rw [Str.length_append]; omega)]
    refine ⟨_, rfl, ?_⟩
    have lw : Lw (cutS base2 none (some at_) ++ y ++ cutS base2 (some at_) none) := ((bw2.cut _ _).app yl).app (bw2.cut _ _)
    have ll : (cutS base2 none (some at_) ++ y ++ cutS base2 (some at_) none).length = (cutS base2 none (some at_)).length + y.length + (cutS base2 (some at_) none).length := by
      rw [Str.length_append, Str.length_append]
    refine ⟨by omega, ?_, lw⟩
    rcases hb with z | ⟨f, z⟩
    · omega
    · have y1' := yf f
      have ea : at_ = ((at_.toNat : Nat) : Int) := by omega
      rw [z] at ll ⊢
      rw [ea] at ll ⊢
      rw [cut_lo_len base at_.toNat (by omega), cut_hi_len base at_.toNat (by omega)] at ll
      omega
  obtain ⟨zs, rfl, hz, hzw⟩ := strs_allP he2
  rw [ints_len] at hl2
  exact hP zs (by omega) hzw
end K17
namespace K17
open PySem PySem.Spec PyProof.Rows L2 VB
variable {P : Program} {w : World} {K : PySem.W.Frag} {mg : Str → Option Value} {base : Heap} {a : Ad}
theorem sl_nm6 (n : Nme) : D.sl (nm n) none (some 6) = .ret (nm (n.take 6)) := sl_nm n 6
theorem addT_nm {m n : Nme} (h : m.length + n.length ≤ 16777216) : D.add (nm m) (nm n) = .ret (nm (m ++ n)) := by
  show D.add (.tup (m.map D.str)) (.tup (n.map D.str)) = _
  rw [addT_ev (by rw [List.length_map, List.length_map]; exact h), ← List.map_append]
theorem toLst_rg (F : Rg) : D.toLstA (rgD F) = .ret (.lst (F.map fun r => nm r.1)) := by
  show M.ret (D.lst ((F.map fun r => knm r.1).map tkD)) = _
  rw [List.map_map]
  congr 2
  refine List.map_congr_left fun r _ => ?_
  show D.tup ((knm r.1).map kDD) = nm r.1
  unfold knm
  rw [List.map_map]
  rfl
structure Drw (ws : List Str) (F : Rg) : Prop where
  nd : NdF F
  wd : ∀ r ∈ F, ∀ x ∈ r.1, x ∈ ws
  len : ∀ r ∈ F, r.1.length ≤ 6
theorem w_drawn {ws : List Str} {N : Nat} {P : D → Prop} (hN : N ≤ 24) (h1 : 1 ≤ ws.length) (h2 : ws.length ≤ 1000) (hP : ∀ F : Rg, Drw ws F → F.length ≤ N → P (rgD F)) : wp (m_law_drawn_flags (.lst (ws.map D.str)) (.int N)) P := by
  unfold m_law_drawn_flags
  simp only [M.ret_bind, M.one, dadd_int, M.assoc]
  refine wp_take (by omega) (by omega) fun r r0 r1 => ?_
  rw [rng1_ev r0 (by omega)]
  simp only [M.ret_bind]
  refine wp_bind.mpr (wp_fold (I := fun i s => ∃ F : Rg, s = rgD F ∧ Drw ws F ∧ F.length ≤ i) 0 ⟨[], rfl, ⟨List.nodup_nil, fun _ m => (nomatch m), fun _ m => (nomatch m)⟩, Nat.le_refl _⟩ (fun j d s hj ⟨F, hs, hF, hl⟩ => ?_) fun s ⟨F, hs, hF, hl⟩ => ?_)
  · subst hs
    have j24 : j < 24 := by
      have := (List.getElem?_eq_some_iff.mp hj).1
      rw [ints_len] at this
      omega
    rw [tupM0]
    simp only [M.ret_bind, lstM1, toLst_rg]
    rw [addL_ev (by
      rw [List.length_map]
      show 1 + F.length ≤ 16777216
      omega)]
    simp only [M.ret_bind]
    have el : ([D.tup []] ++ F.map fun r => nm r.1) = (([] : Nme) :: F.map Prod.fst).map nm := by
      rw [List.map_cons, List.map_map]
      rfl
    rw [el]
    have eln : D.lenA (.lst ((([] : Nme) :: F.map Prod.fst).map nm)) = .ret (.int ((F.length + 1 : Nat) : Int)) := by
      show M.ret (D.int (((([] : Nme) :: F.map Prod.fst).map nm).length : Nat)) = _
      rw [List.length_map, List.length_cons, List.length_map]
    simp only [eln, M.ret_bind, M.assoc]
    refine wp_take (by omega) (by omega) fun k k0 k1 => ?_
    obtain ⟨base, mb, eb⟩ := atI_of (xs := ([] : Nme) :: F.map Prod.fst) k0 (by
      rw [List.length_cons, List.length_map]
      exact k1)
    rw [show D.ixA (.lst ((([] : Nme) :: F.map Prod.fst).map nm)) (.int k) = D.ix (.lst ((([] : Nme) :: F.map Prod.fst).map nm)) (.int k) from rfl, ix_lst (atI_map eb)]
    simp only [M.ret_bind]
    have bw : (∀ x ∈ base, x ∈ ws) ∧ base.length ≤ 6 := by
      rcases List.mem_cons.mp mb with z | z
      · rw [z]
        exact ⟨fun x m => (nomatch m), Nat.zero_le _⟩
      · obtain ⟨q, mq, eq⟩ := List.mem_map.mp z
        rw [← eq]
        exact ⟨hF.wd q mq, hF.len q mq⟩
    refine wp_bind.mpr (w_name (by decide) (by decide) h1 h2 fun xs hx hm => ?_)
    rw [addT_nm (by omega)]
    simp only [M.ret_bind, asI_int, sl_nm6]
    refine wp_take (by decide) (by decide) fun t t0 t1 => ?_
    simp only [deq_int, M.ret_bind]
    rw [setA_rg2 (by omega)]
    refine ⟨_, rfl, ⟨setF1_nd hF.nd, fun q mq => ?_, fun q mq => ?_⟩, by have := setF1_len (F := F) (n := (base ++ xs).take 6) (b := decide (t = 0)); omega⟩
    · rcases setF1_mem mq with z | z
      · rw [z]
        intro x mx
        rcases List.mem_append.mp (List.mem_of_mem_take mx) with m | m
        · exact bw.1 x m
        · exact hm x m
      · exact hF.wd q z
    · rcases setF1_mem mq with z | z
      · rw [z]
        show ((base ++ xs).take 6).length ≤ 6
        rw [List.length_take]
        omega
      · exact hF.len q z
  · subst hs
    rw [ints_len] at hl
    exact hP F hF (by omega)
end K17
namespace K17
open PySem PySem.Spec PyProof.Rows L2 VB
variable {P : Program} {w : World} {K : PySem.W.Frag} {mg : Str → Option Value} {base : Heap} {a : Ad}
theorem rb17 {α β : Type} (a : α) (f : α → M β) : (M.ret a).bind f = f a := (M.ret_bind a f).trans (Eq.refl _)
def wordB : D → Bool
  | .str w => decide (1 ≤ w.length) && (decide (w.length ≤ 8) && lwB w)
  | _ => false
def nameB : D → Bool
  | .tup zs => zs.all wordB
  | _ => false
def blB : D → Bool
  | .bl _ => true
  | _ => false
def rowB : D → Bool
  | .tup [x, y] => nameB x && blB y
  | _ => false
structure okW (z : D) : Prop where
  t : z.tyn.isSome = true
  l : ∀ w, z = .str w → w.length ≤ 16777216
structure okN (x : D) : Prop where
  t : x.tyn.isSome = true
  e : x ≠ .etup
  z : ∀ zs, x = .tup zs → ∀ z ∈ zs, okW z
structure okR (d : D) : Prop where
  t : d.tyn.isSome = true
  e : d ≠ .etup
  n : ∀ x y, d = .tup [x, y] → okN x ∧ y.tyn.isSome = true
theorem wordB_wd {w : Str} : wordB (.str w) = true ↔ Wd w := by
  unfold wordB Wd
  rw [Bool.and_eq_true, Bool.and_eq_true, decide_eq_true_iff, decide_eq_true_iff, lwB_iff]
theorem isi_str_of {z : D} (h : z.tyn.isSome = true) (n : ∀ w, z ≠ .str w) : D.isi z (.ty "str") = .ret (.bl false) := by
  cases z with
  | str w => exact (n w rfl).elim
  | ty _ => cases h
  | raw _ => cases h
  | ins _ _ _ => cases h
  | dit _ _ => cases h
  | din _ _ _ _ => cases h
  | _ => rfl
theorem isi_tup_of {z : D} (h : z.tyn.isSome = true) (e : z ≠ .etup) (n : ∀ w, z ≠ .tup w) : D.isi z (.ty "tuple") = .ret (.bl false) := by
  cases z with
  | tup w => exact (n w rfl).elim
  | etup => exact (e rfl).elim
  | ty _ => cases h
  | raw _ => cases h
  | ins _ _ _ => cases h
  | dit _ _ => cases h
  | din _ _ _ _ => cases h
  | _ => rfl
theorem isi_bool_of {y : D} (h : y.tyn.isSome = true) : D.isi y (.ty "bool") = .ret (.bl (blB y)) := by
  cases y with
  | ty _ => cases h
  | raw _ => cases h
  | ins _ _ _ => cases h
  | dit _ _ => cases h
  | din _ _ _ _ => cases h
  | _ => rfl
theorem chain_le {n : Int} {l : Int} : M.chain D.le D.le (M.ret (D.int 1)) (M.ret (.int n)) (M.ret (D.int l)) = .ret (.bl (decide (1 ≤ n) && decide (n ≤ l))) := by
  unfold M.chain
  simp only [rb17, dle_int, asB_bl]
  cases decide (1 ≤ n) <;> rfl
theorem e_word_any {z : D} (h : okW z) : m_is_word z = .ret (.bl (wordB z)) := by
  by_cases s : ∃ w, z = .str w
  · obtain ⟨w, rfl⟩ := s
    have l := h.l w rfl
    unfold m_is_word
    simp only [rb17, M.two, M.one, isi_str_str, asB_bl, M.or2, M.not1, dlen_str l, chain_le, Bool.not_true, Bool.false_eq_true, if_false, items_str l]
    have e1 : decide ((1 : Int) ≤ (w.length : Nat)) = decide (1 ≤ w.length) := decide_eq_decide.mpr (by omega)
    have e2 : decide (((w.length : Nat) : Int) ≤ 8) = decide (w.length ≤ 8) := decide_eq_decide.mpr (by omega)
    have hm : M.map (fun d => D.inM d (D.str "abcdefghijklmnopqrstuvwxyz")) (D.signs w) = .ret (w.cps.toList.map fun c => D.bl (decide (c ∈ LET.cps.toList))) := map_ret2 fun c _ => rfl
    rw [e1, e2, hm]
    simp only [rb17, M.one, all_map]
    show _ = M.ret (D.bl (decide (1 ≤ w.length) && (decide (w.length ≤ 8) && lwB w)))
    cases decide (1 ≤ w.length) <;> cases decide (w.length ≤ 8) <;> rfl
  · have n : ∀ w, z ≠ .str w := fun w e => s ⟨w, e⟩
    have e : wordB z = false := by
      cases z with
      | str w => exact (n w rfl).elim
      | _ => rfl
    unfold m_is_word
    simp only [rb17, M.two, isi_str_of h.t n, asB_bl, M.or2, M.not1, Bool.not_false, if_true, e]
theorem e_lword_any {z : D} (h : okW z) : m_law_is_word z = .ret (.bl (wordB z)) := by
  by_cases s : ∃ w, z = .str w
  · obtain ⟨w, rfl⟩ := s
    have l := h.l w rfl
    have hm : M.cm (fun sign => ((D.ninM sign (D.str "abcdefghijklmnopqrstuvwxyz")).bind D.asB).bind fun k => if k = true then M.ret (some sign) else M.ret none) (D.signs w) = .ret (w.cps.toList.filterMap fun c => if decide (c ∈ LET.cps.toList) = true then none else some (D.str ⟨#[c]⟩)) := by
      show M.cm _ (w.cps.toList.map fun c => D.str ⟨#[c]⟩) = _
      refine cm_ret2 (g := fun c => D.str ⟨#[c]⟩) (f := fun c => if decide (c ∈ LET.cps.toList) = true then none else some (D.str ⟨#[c]⟩)) fun c _ => ?_
      have ni : D.ninM (.str ⟨#[c]⟩) (D.str "abcdefghijklmnopqrstuvwxyz") = .ret (.bl (!decide (c ∈ LET.cps.toList))) := rfl
      simp only [ni, rb17, asB_bl]
      cases decide (c ∈ LET.cps.toList) <;> rfl
    unfold m_law_is_word
    simp only [rb17, M.two, M.one, isi_str_str, asB_bl, M.or2, M.not1, dlen_str l, Bool.not_true, Bool.false_eq_true, if_false, items_str l, dlt_int, lstM0]
    have e1 : decide (((w.length : Nat) : Int) < 1) = !decide (1 ≤ w.length) := by
      rw [← decide_not]
      exact decide_eq_decide.mpr (by omega)
    have e2 : D.gt (.int (w.length : Nat)) (.int 8) = .ret (.bl (!decide (w.length ≤ 8))) := by
      show M.ret (D.bl (decide (((w.length : Nat) : Int) > 8))) = _
      congr 2
      rw [← decide_not]
      exact decide_eq_decide.mpr (by omega)
    rw [e1, e2, hm]
    have e3 : ∀ xs : List D, D.eq (.lst xs) (.lst []) = .ret (.bl xs.isEmpty) := fun _ => rfl
    have e4 : ((w.cps.toList.filterMap fun c => if decide (c ∈ LET.cps.toList) = true then none else some (D.str ⟨#[c]⟩)) : List D).isEmpty = lwB w := by
      unfold lwB
      induction w.cps.toList with
      | nil => rfl
      | cons c cs ih =>
        rw [List.all_cons]
        cases hc : decide (c ∈ LET.cps.toList) with
        | true => rw [List.filterMap_cons_none (by rw [hc]; rfl), ih, Bool.true_and]
        | false => rw [List.filterMap_cons_some (b := D.str ⟨#[c]⟩) (by rw [hc]; rfl)]; rfl
    simp only [rb17, e3, e4, asB_bl]
    show _ = M.ret (D.bl (decide (1 ≤ w.length) && (decide (w.length ≤ 8) && lwB w)))
    cases decide (1 ≤ w.length) <;> cases decide (w.length ≤ 8) <;> rfl
  · have n : ∀ w, z ≠ .str w := fun w e => s ⟨w, e⟩
    have e : wordB z = false := by
      cases z with
      | str w => exact (n w rfl).elim
      | _ => rfl
    unfold m_law_is_word
    simp only [rb17, M.two, isi_str_of h.t n, asB_bl, M.or2, M.not1, Bool.not_false, if_true, e]
theorem map_ok {k : D → M D} {f : D → Bool} : ∀ {zs : List D}, (∀ z ∈ zs, k z = .ret (.bl (f z))) → M.map k zs = .ret (zs.map fun z => .bl (f z)) := fun {zs} h => by
  have := map_ret2 (k := k) (g := fun z => z) (f := fun z => D.bl (f z)) (xs := zs) h
  rw [List.map_id'] at this
  exact this
/-- [z for z in zs if not f(z)] -/
theorem cm_bad {k : D → M (Option D)} {f : D → Bool} : ∀ {zs : List D}, (∀ z ∈ zs, k z = .ret (if f z = true then none else some z)) → M.cm k zs = .ret (zs.filter fun z => !f z) := fun {zs} h => by
  have := cm_ret2 (k := k) (g := fun z => z) (f := fun z => if f z = true then none else some z) (xs := zs) h
  rw [List.map_id'] at this
  rw [this]
  congr 1
  clear this h
  induction zs with
  | nil => rfl
  | cons z zs ih =>
    cases e : f z with
    | true => rw [List.filterMap_cons_none (by rw [e]; rfl), List.filter_cons_of_neg (by rw [e]; exact Bool.false_ne_true), ih]
    | false => rw [List.filterMap_cons_some (b := z) (by rw [e]; rfl), List.filter_cons_of_pos (by rw [e]; rfl), ih]
theorem bad_empty {f : D → Bool} (zs : List D) : (zs.filter fun z => !f z).isEmpty = zs.all f := by
  induction zs with
  | nil => rfl
  | cons z zs ih =>
    rw [List.all_cons]
    cases e : f z with
    | true => rw [List.filter_cons_of_neg (by rw [e]; exact Bool.false_ne_true), ih, Bool.true_and]
    | false => rw [List.filter_cons_of_pos (by rw [e]; rfl)]; rfl
theorem e_name_any {x : D} (h : okN x) : m_is_name x = .ret (.bl (nameB x)) := by
  by_cases s : ∃ zs, x = .tup zs
  · obtain ⟨zs, rfl⟩ := s
    have hm : M.map (fun d => m_is_word d) zs = .ret (zs.map fun z => .bl (wordB z)) := map_ok fun z m => e_word_any (h.z zs rfl z m)
    unfold m_is_name
    simp only [rb17, M.two, M.one, isi_tup_tup, M.andB, asB_bl, if_true, D.items, hm, all_map]
    rfl
  · have n : ∀ w, x ≠ .tup w := fun w e => s ⟨w, e⟩
    have e : nameB x = false := by
      cases x with
      | tup w => exact (n w rfl).elim
      | _ => rfl
    unfold m_is_name
    simp only [rb17, M.two, isi_tup_of h.t h.e n, M.andB, asB_bl, Bool.false_eq_true, if_false, e]
theorem rowB_no {d : D} (n : ∀ x y, d ≠ .tup [x, y]) : rowB d = false := by
  match d, n with
  | .tup [x, y], n => exact (n x y rfl).elim
  | .tup [], _ => rfl
  | .tup [_], _ => rfl
  | .tup (_ :: _ :: _ :: _), _ => rfl
  | .non, _ => rfl
  | .bl _, _ => rfl
  | .int _, _ => rfl
  | .str _, _ => rfl
  | .ty _, _ => rfl
  | .lst _, _ => rfl
  | .raw _, _ => rfl
  | .dic _ _, _ => rfl
  | .dit _ _, _ => rfl
  | .din _ _ _ _, _ => rfl
  | .ins _ _ _, _ => rfl
  | .etup, _ => rfl
theorem two_of {ds : List D} (h : ds.length = 2) : ∃ x y, ds = [x, y] := by
  match ds, h with
  | [x, y], _ => exact ⟨x, y, rfl⟩
theorem e_flag_any {d : D} (h : okR d) : m_is_flagged d = .ret (.bl (rowB d)) := by
  by_cases s : ∃ ds, d = .tup ds
  · obtain ⟨ds, rfl⟩ := s
    by_cases h2 : ds.length = 2
    · obtain ⟨x, y, rfl⟩ := two_of h2
      obtain ⟨hx, hy⟩ := h.n x y rfl
      have i0 : D.ixA (.tup [x, y]) (.int 0) = .ret x := rfl
      have i1 : D.ixA (.tup [x, y]) (.int 1) = .ret y := rfl
      have l2 : D.lenA (.tup [x, y]) = .ret (.int 2) := rfl
      have e22 : D.eq (.int 2) (.int 2) = .ret (.bl true) := rfl
      unfold m_is_flagged
      simp only [rb17, M.two, M.one, isi_tup_tup, M.andB, asB_bl, if_true, l2, e22, i0, i1, e_name_any hx, isi_bool_of hy]
      show _ = M.ret (D.bl (nameB x && blB y))
      cases nameB x <;> rfl
    · have e : rowB (.tup ds) = false := rowB_no fun x y z => by
        injection z with z
        rw [z] at h2
        exact h2 rfl
      have l2 : D.lenA (.tup ds) = .ret (.int ds.length) := rfl
      have ne : decide ((ds.length : Int) = 2) = false := decide_eq_false (by omega)
      unfold m_is_flagged
      simp only [rb17, M.two, M.one, isi_tup_tup, M.andB, asB_bl, if_true, l2, deq_int, ne, Bool.false_eq_true, if_false, e]
  · have n : ∀ w, d ≠ .tup w := fun w e => s ⟨w, e⟩
    unfold m_is_flagged
    simp only [rb17, M.two, isi_tup_of h.t h.e n, M.andB, asB_bl, Bool.false_eq_true, if_false, rowB_no fun x y => n [x, y]]
theorem e_lrow_any {d : D} (h : okR d) : m_law_is_row d = .ret (.bl (rowB d)) := by
  by_cases s : ∃ ds, d = .tup ds
  · obtain ⟨ds, rfl⟩ := s
    by_cases h2 : ds.length = 2
    · obtain ⟨x, y, rfl⟩ := two_of h2
      obtain ⟨hx, hy⟩ := h.n x y rfl
      have i0 : D.ixA (.tup [x, y]) (.int 0) = .ret x := rfl
      have i1 : D.ixA (.tup [x, y]) (.int 1) = .ret y := rfl
      have l2 : D.lenA (.tup [x, y]) = .ret (.int 2) := rfl
      have e22 : D.ne (.int 2) (.int 2) = .ret (.bl false) := rfl
      have en : ∀ xs : List D, D.eq (.lst xs) (.lst []) = .ret (.bl xs.isEmpty) := fun _ => rfl
      unfold m_law_is_row
      simp only [rb17, M.two, M.one, isi_tup_tup, M.or2, M.not1, asB_bl, Bool.not_true, Bool.false_eq_true, if_false, l2, e22, i0, i1]
      by_cases sx : ∃ zs, x = .tup zs
      · obtain ⟨zs, rfl⟩ := sx
        simp only [isi_tup_tup, rb17, asB_bl, Bool.not_true, Bool.false_eq_true, if_false, D.items, M.andB]
        rw [cm_bad (f := wordB) (zs := zs) ?hk]
        case hk =>
          intro z m
          simp only [e_lword_any (hx.z zs rfl z m), rb17, asB_bl]
          cases wordB z <;> rfl
        simp only [rb17, lstM0, en, bad_empty, asB_bl, isi_bool_of hy]
        show _ = M.ret (D.bl (zs.all wordB && blB y))
        cases zs.all wordB <;> rfl
      · have nx : ∀ w, x ≠ .tup w := fun w e => sx ⟨w, e⟩
        have e : nameB x = false := by
          cases x with
          | tup w => exact (nx w rfl).elim
          | _ => rfl
        simp only [isi_tup_of hx.t hx.e nx, rb17, asB_bl, Bool.not_false, if_true]
        show _ = M.ret (D.bl (nameB x && blB y))
        rw [e]
        rfl
    · have e : rowB (.tup ds) = false := rowB_no fun x y z => by
        injection z with z
        rw [z] at h2
        exact h2 rfl
      have l2 : D.lenA (.tup ds) = .ret (.int ds.length) := rfl
      have ne : decide ((ds.length : Int) = 2) = false := decide_eq_false (by omega)
      unfold m_law_is_row
      simp only [rb17, M.two, M.one, isi_tup_tup, M.or2, M.not1, asB_bl, Bool.not_true, Bool.false_eq_true, if_false, l2, dne_int, ne, Bool.not_false, if_true, e]
  · have n : ∀ w, d ≠ .tup w := fun w e => s ⟨w, e⟩
    unfold m_law_is_row
    simp only [rb17, M.two, isi_tup_of h.t h.e n, M.or2, M.not1, asB_bl, Bool.not_false, if_true, rowB_no fun x y => n [x, y]]
end K17
namespace K17
open PySem PySem.Spec PyProof.Rows L2 VB
variable {P : Program} {w : World} {K : PySem.W.Frag} {mg : Str → Option Value} {base : Heap} {a : Ad}
theorem ix_at {α : Type} {f : α → D} {xs : List α} {i : Nat} {x : α} (e : xs[i]? = some x) : D.ix (.lst (xs.map f)) (.int i) = .ret (f x) := ix_lst (atD_nat (by rw [List.getElem?_map, e]; rfl))
theorem sl_to {α : Type} {f : α → D} {xs : List α} {i : Nat} : D.sl (.lst (xs.map f)) none (some (i : Int)) = .ret (.lst ((xs.take i).map f)) := by
  show M.ret (D.lst (cutG (xs.map f) none (some (i : Int)))) = _
  rw [cutG_lo, List.map_take]
theorem wordB_str {z : D} (h : wordB z = true) : ∃ w, z = .str w ∧ Wd w := by
  cases z with
  | str w => exact ⟨w, rfl, wordB_wd.mp h⟩
  | _ => cases h
theorem nameB_nm {x : D} (h : nameB x = true) : ∃ n : Nme, x = nm n ∧ ∀ w ∈ n, Wd w := by
  cases x with
  | tup zs =>
    have h2 := List.all_eq_true.mp (show zs.all wordB = true from h)
    clear h
    obtain ⟨ws, e, hw⟩ : ∃ ws : List Str, zs = ws.map D.str ∧ ∀ w ∈ ws, Wd w := by
      induction zs with
      | nil => exact ⟨[], rfl, fun _ m => nomatch m⟩
      | cons z zs ih =>
        obtain ⟨w, rfl, hw⟩ := wordB_str (h2 z (List.mem_cons_self ..))
        obtain ⟨ws, rfl, hs⟩ := ih fun y m => h2 y (List.mem_cons_of_mem _ m)
        refine ⟨w :: ws, rfl, fun y m => ?_⟩
        rcases List.mem_cons.mp m with rfl | m
        · exact hw
        · exact hs y m
    subst e
    exact ⟨ws, rfl, hw⟩
  | _ => cases h
theorem rowB_rw {d : D} (h : rowB d = true) : ∃ r : Nme × Bool, d = rwD r ∧ ∀ w ∈ r.1, Wd w := by
  by_cases s : ∃ x y, d = .tup [x, y]
  · obtain ⟨x, y, rfl⟩ := s
    have h : (nameB x && blB y) = true := h
    obtain ⟨h1, h2⟩ := Bool.and_eq_true_iff.mp h
    obtain ⟨n, rfl, hn⟩ := nameB_nm h1
    cases y with
    | bl b => exact ⟨(n, b), rfl, hn⟩
    | _ => cases h2
  · rw [rowB_no fun x y e => s ⟨x, y, e⟩] at h
    cases h
theorem all_rw : ∀ {ds : List D}, ds.all rowB = true → ∃ G : Rg, ds = G.map rwD ∧ WdF G
  | [], _ => ⟨[], rfl, fun _ m => nomatch m⟩
  | d :: ds, h => by
    rw [List.all_cons, Bool.and_eq_true_iff] at h
    obtain ⟨r, rfl, hr⟩ := rowB_rw h.1
    obtain ⟨G, rfl, hG⟩ := all_rw h.2
    refine ⟨r :: G, rfl, fun q m => ?_⟩
    rcases List.mem_cons.mp m with rfl | m
    · exact hr
    · exact hG q m
theorem rw_good {r : Nme × Bool} (h : ∀ w ∈ r.1, Wd w) : rowB (rwD r) = true := by
  show (nameB (nm r.1) && true) = true
  rw [Bool.and_true]
  show (r.1.map D.str).all wordB = true
  rw [List.all_map, List.all_eq_true]
  exact fun w m => wordB_wd.mpr (h w m)
theorem rw_ok {r : Nme × Bool} (h : ∀ w ∈ r.1, Wd w) : okR (rwD r) := ⟨rfl, (fun z => nomatch z), fun x y e => by
  injection e with e
  injection e with e1 e2
  subst e1
  injection e2 with e2
  subst e2
  refine ⟨⟨rfl, (fun z => nomatch z), fun zs e z m => ?_⟩, rfl⟩
  injection e with e
  subst e
  obtain ⟨w, mw, rfl⟩ := List.mem_map.mp m
  refine ⟨rfl, fun v ev => ?_⟩
  injection ev with ev
  subst ev
  have := (h w mw).2.1
  omega⟩
theorem dedup_nodup {α : Type} [DecidableEq α] : ∀ {xs : List α}, (dedup xs).length = xs.length → xs.Nodup
  | [], _ => List.nodup_nil
  | x :: xs, h => by
    have le := dedup_len xs
    unfold dedup at h
    by_cases z : x ∈ dedup xs
    · rw [if_pos z, List.length_cons] at h
      omega
    · rw [if_neg z, List.length_cons, List.length_cons] at h
      exact List.nodup_cons.mpr ⟨fun m => z (mem_dedup.mpr m), dedup_nodup (by omega)⟩
theorem nodup_take {α : Type} {xs : List α} : xs.Nodup ↔ ∀ (k : Nat) (h : k < xs.length), xs[k] ∉ xs.take k := by
  unfold List.Nodup
  rw [List.pairwise_iff_getElem]
  constructor
  · intro h k hk m
    obtain ⟨i, hi, e⟩ := List.mem_iff_getElem.mp m
    rw [List.length_take] at hi
    rw [List.getElem_take] at e
    exact h i k (by omega) hk (by omega) e
  · intro h i j hi hj hij e
    refine h j hj (List.mem_iff_getElem.mpr ⟨i, by rw [List.length_take]; omega, ?_⟩)
    rw [List.getElem_take]
    exact e
theorem in_nms {n : Nme} {ns : List Nme} (hn : ∀ x ∈ n, Wd x) (hs : ∀ n ∈ ns, ∀ x ∈ n, Wd x) : D.inA (nm n) (.lst (ns.map nm)) = .ret (.bl (decide (n ∈ ns))) := by
  have z := nin_nms hn hs
  unfold D.ninM at z
  show D.inM (nm n) (.lst (ns.map nm)) = _
  unfold D.inM
  cases e : (nm n).inb (.lst (ns.map nm)) with
  | none =>
    rw [e] at z
    cases z
  | some b =>
    rw [e] at z
    injection z with z
    injection z with z
    show M.ret (D.bl b) = _
    congr 2
    cases b <;> cases hd : decide (n ∈ ns) <;> rw [hd] at z <;> first | rfl | cases z
theorem isiTE_seqA {al : List Addr} {b : Bool} {ds : List D} : D.isiTE al [.ty "list", .ty "tuple"] (seqA b ds) = .ret (.bl true) := by
  cases b <;> exact isiT_seqA (b := _)
/-- both looks at a list of rows -/
theorem e_are {c : Cl} {b : Bool} {ds : List D} (h : ∀ d ∈ ds, okR d) (hl : ds.all rowB = true → ds.length < 63) :
    ∃ v, m_are_flagged c (seqA b ds) = .ret (.bl v) ∧ m_law_is_good c (seqA b ds) = .ret (.bl v) ∧ (v = true ↔ ∃ G : Rg, ds = G.map rwD ∧ WdF G ∧ NdF G) := by
  have m1 : M.map (fun d => m_is_flagged d) ds = .ret (ds.map fun d => .bl (rowB d)) := map_ok fun d m => e_flag_any (h d m)
  have nn : ∀ xs : List D, D.ne (.lst xs) (.lst []) = .ret (.bl (!xs.isEmpty)) := fun xs => by
    cases xs <;> rfl
  by_cases a : ds.all rowB = true
  · obtain ⟨G, rfl, hG⟩ := all_rw a
    have l63 := hl a
    rw [List.length_map] at l63
    have m2 : M.map (fun y => D.un2 y fun name flag => M.ret name) (G.map rwD) = .ret (G.map fun r => nm r.1) := map_ret2 fun r m => rfl
    have el : D.lenSetT (.lst (G.map fun r => nm r.1)) = .ret (.int (dedup (G.map fun r => knm r.1)).length) := by
      show (match D.keyTs (G.map fun r : Nme × Bool => nm r.1) with | some ks => if (dedup ks).length < 63 then M.ret (D.int (dedup ks).length) else .fail | none => .fail) = _
      rw [keyTs_nm]
      exact if_pos (Nat.lt_of_le_of_lt (dedup_len _) (by rw [List.length_map]; exact l63))
    have le : D.lenA (seqA b (G.map rwD)) = .ret (.int G.length) := by
      cases b
      · show M.ret (D.int ((G.map rwD).length : Nat)) = _
        rw [List.length_map]
      · show M.ret (D.int ((G.map rwD).length : Nat)) = _
        rw [List.length_map]
    have ndk : NdF G ↔ (dedup (G.map fun r => knm r.1)).length = G.length := by
      constructor
      · intro nd
        rw [dedup_of (knm_nd nd), List.length_map]
      · intro e
        have z := dedup_nodup (xs := G.map fun r => knm r.1) (by rw [e, List.length_map])
        have e2 : (G.map fun r => knm r.1) = (G.map Prod.fst).map knm := by rw [List.map_map]; rfl
        rw [e2] at z
        exact List.Pairwise.imp (fun q e => q (congrArg knm e)) (List.pairwise_map.mp z)
    refine ⟨decide (((dedup (G.map fun r => knm r.1)).length : Int) = G.length), ?_, ?_, ?_⟩
    · unfold m_are_flagged
      simp only [rb17, isiTE_seqA, asB_bl, M.or2, M.not1, Bool.not_true, Bool.false_eq_true, if_false, items_seqA, m1, M.one, all_map, a, m2, el, le, deq_int]
    · have m3 : M.map (fun row => D.ixA row (.int 0)) (G.map rwD) = .ret (G.map fun r => nm r.1) := map_ret2 fun r m => rfl
      have ln : D.lenA (.lst (G.map fun r => nm r.1)) = .ret (.int G.length) := by
        show M.ret (D.int ((G.map fun r : Nme × Bool => nm r.1).length : Nat)) = _
        rw [List.length_map]
      unfold m_law_is_good
      simp only [rb17, isiTE_seqA, asB_bl, M.or2, M.not1, Bool.not_true, Bool.false_eq_true, if_false, items_seqA]
      rw [cm_bad (f := rowB) (zs := G.map rwD) ?hk]
      case hk =>
        intro d m
        simp only [e_lrow_any (h d m), rb17, asB_bl]
        cases rowB d <;> rfl
      simp only [rb17, lstM0, nn, bad_empty, a, Bool.not_true, asB_bl, Bool.false_eq_true, if_false, m3, M.one, ln]
      rw [rng1_ev (by omega) (by omega)]
      simp only [rb17]
      have nms : (G.map fun r => nm r.1) = (G.map Prod.fst).map nm := by rw [List.map_map]; rfl
      rw [show D.ints 0 ((G.length : Int)).toNat = (List.range G.length).map fun k : Nat => D.int k from by
        unfold D.ints
        rw [Int.toNat_natCast]
        exact List.map_congr_left fun k _ => by rw [Int.zero_add]]
      rw [cm_ret2 (g := fun k : Nat => D.int k) (f := fun k => if (G.map Prod.fst).getD k [] ∈ (G.map Prod.fst).take k then some (D.int k) else none) ?hc]
      case hc =>
        intro k mk
        have hk : k < G.length := List.mem_range.mp mk
        have i0 : D.ixA (.lst (G.map fun r => nm r.1)) (.int k) = .ret (nm ((G.map Prod.fst).getD k [])) := by
          rw [nms]
          refine (show D.ix _ _ = _ from ix_at (f := nm) ?_)
          rw [List.getD_eq_getElem?_getD, List.getElem?_eq_getElem (by rw [List.length_map]; exact hk)]
          rfl
        have wk : ∀ w ∈ (G.map Prod.fst).getD k [], Wd w := by
          rw [List.getD_eq_getElem?_getD, List.getElem?_eq_getElem (by rw [List.length_map]; exact hk)]
          obtain ⟨r, mr, er⟩ := List.mem_map.mp (List.getElem_mem (l := G.map Prod.fst) (n := k) (by rw [List.length_map]; exact hk))
          show ∀ w ∈ (G.map Prod.fst)[k]'(by rw [List.length_map]; exact hk), Wd w
          rw [← er]
          exact hG r mr
        have sl : D.sl (.lst (G.map fun r => nm r.1)) none (some (k : Int)) = .ret (.lst (((G.map Prod.fst).take k).map nm)) := by
          rw [nms, sl_to, List.map_take]
        have wt : ∀ n ∈ (G.map Prod.fst).take k, ∀ w ∈ n, Wd w := fun n m => by
          obtain ⟨r, mr, rfl⟩ := List.mem_map.mp (List.mem_of_mem_take m)
          exact hG r mr
        simp only [rb17, i0, asI_int, sl, in_nms wk wt, asB_bl]
        by_cases z : (G.map Prod.fst).getD k [] ∈ (G.map Prod.fst).take k
        · rw [decide_eq_true z, if_pos rfl, if_pos z]
        · rw [decide_eq_false z, if_neg Bool.false_ne_true, if_neg z]
      have lc : ∀ xs : List D, D.lenA (.lst xs) = .ret (.int xs.length) := fun _ => rfl
      simp only [rb17, lc, deq_int]
      congr 2
      refine decide_eq_decide.mpr ?_
      have e0 : (((List.range G.length).filterMap fun k => if (G.map Prod.fst).getD k [] ∈ (G.map Prod.fst).take k then some (D.int k) else none).length : Int) = 0 ↔ ∀ k < G.length, (G.map Prod.fst).getD k [] ∉ (G.map Prod.fst).take k := by
        constructor
        · intro e k hk m
          have e : ((List.range G.length).filterMap fun k => if (G.map Prod.fst).getD k [] ∈ (G.map Prod.fst).take k then some (D.int k) else none) = [] := List.length_eq_zero_iff.mp (by omega)
          have := List.filterMap_eq_nil_iff.mp e k (List.mem_range.mpr hk)
          rw [if_pos m] at this
          cases this
        · intro h
          rw [List.filterMap_eq_nil_iff.mpr fun k mk => if_neg (h k (List.mem_range.mp mk))]
          rfl
      rw [e0]
      have e1 : NdF G ↔ ∀ k < G.length, (G.map Prod.fst).getD k [] ∉ (G.map Prod.fst).take k := by
        unfold NdF
        rw [nodup_take]
        constructor
        · intro h k hk
          rw [List.getD_eq_getElem?_getD, List.getElem?_eq_getElem (by rw [List.length_map]; exact hk)]
          exact h k (by rw [List.length_map]; exact hk)
        · intro h k hk
          have := h k (by rw [List.length_map] at hk; exact hk)
          rw [List.getD_eq_getElem?_getD, List.getElem?_eq_getElem hk] at this
          exact this
      rw [← e1, ndk]
      omega
    · rw [decide_eq_true_iff]
      constructor
      · intro e
        exact ⟨G, rfl, hG, ndk.mpr (by omega)⟩
      · rintro ⟨G', e, hG', nd⟩
        have inj : ∀ {a b : Nme × Bool}, rwD a = rwD b → a = b := fun {a b} e => by
          injection e with e
          injection e with e1 e2
          injection e2 with e2
          injection e2 with e2
          injection e1 with e1
          have : ∀ {x y : List Str}, x.map D.str = y.map D.str → x = y := fun {x y} e => by
            induction x generalizing y with
            | nil => cases y with
              | nil => rfl
              | cons _ _ => cases e
            | cons a x ih => cases y with
              | nil => cases e
              | cons b y =>
                injection e with e1 e2
                injection e1 with e1
                rw [e1, ih e2]
          exact Prod.ext (this e1) e2
        have : G = G' := by
          clear ndk el le m2 l63 hl a m1 h hG hG' nd
          induction G generalizing G' with
          | nil => cases G' with
            | nil => rfl
            | cons _ _ => cases e
          | cons r G ih => cases G' with
            | nil => cases e
            | cons r' G' =>
              injection e with e1 e2
              rw [inj e1, ih G' e2]
        subst this
        have := ndk.mp nd
        omega
  · have a : ds.all rowB = false := by simpa using a
    refine ⟨false, ?_, ?_, ?_⟩
    · unfold m_are_flagged
      simp only [rb17, isiTE_seqA, asB_bl, M.or2, M.not1, Bool.not_true, Bool.false_eq_true, if_false, items_seqA, m1, M.one, all_map, a, Bool.not_false, if_true]
    · unfold m_law_is_good
      simp only [rb17, isiTE_seqA, asB_bl, M.or2, M.not1, Bool.not_true, Bool.false_eq_true, if_false, items_seqA]
      rw [cm_bad (f := rowB) (zs := ds) ?hk]
      case hk =>
        intro d m
        simp only [e_lrow_any (h d m), rb17, asB_bl]
        cases rowB d <;> rfl
      simp only [rb17, lstM0, nn, bad_empty, a, Bool.not_false, asB_bl, if_true]
    · constructor
      · intro z
        cases z
      · rintro ⟨G, rfl, hG, _⟩
        rw [List.all_map] at a
        have : (G.all (rowB ∘ rwD)) = true := List.all_eq_true.mpr fun r m => rw_good (hG r m)
        rw [this] at a
        cases a
end K17
namespace K17
open PySem PySem.Spec PyProof.Rows L2 VB
variable {P : Program} {w : World} {K : PySem.W.Frag} {mg : Str → Option Value} {base : Heap} {a : Ad}
theorem w_at {α : Type} {l : List D} {k : D → M α} {P : α → Prop} (h1 : 1 ≤ l.length) (h2 : l.length ≤ 1000) (h : ∀ d ∈ l, wp (k d) P) : wp ((D.takeM (.int (l.length : Nat))).bind fun b => (D.ixA (.lst l) b).bind k) P := by
  refine wp_take (by omega) (by omega) fun t t0 t1 => ?_
  obtain ⟨x, mx, ex⟩ := atI_of (xs := l) t0 t1
  rw [show D.ixA (.lst l) (.int t) = D.ix (.lst l) (.int t) from rfl, ix_lst ex]
  exact h x mx
/-- a row: a good one, or none, of bounded size -/
structure Rw17 (d : D) : Prop where
  ok : okR d
  ft : Fit 6000 3 d
  g : rowB d = true → ∃ r : Nme × Bool, d = rwD r ∧ (∀ w ∈ r.1, Wd w) ∧ r.1.length ≤ 6
theorem fit_nm {n : Nme} (hw : ∀ w ∈ n, Wd w) (hl : n.length ≤ 6) : Fit 906 1 (nm n) := (Fit.tup (w := 150) (k := 0) (l := 6) (fun e m => by
  obtain ⟨w, mw, rfl⟩ := List.mem_map.mp m
  exact Fit.wd (hw w mw)) (by rw [List.length_map]; exact hl) (by decide))
theorem fit_two {x y : D} (hx : Fit 2900 2 x) (hy : Fit 2900 2 y) : Fit 6000 3 (.tup [x, y]) := (Fit.tup (w := 2900) (k := 2) (l := 2) (fun e m => by
  rcases List.mem_cons.mp m with rfl | m
  · exact hx
  · rw [List.mem_singleton.mp m]
    exact hy) (show [x, y].length ≤ 2 from Nat.le_refl 2) (by decide)).mono (by decide) (by decide)
theorem rw17_good {r : Nme × Bool} (hw : ∀ w ∈ r.1, Wd w) (hl : r.1.length ≤ 6) : Rw17 (rwD r) := ⟨rw_ok hw, fit_two ((fit_nm hw hl).mono (by decide) (by decide)) (Fit.bl.mono (by decide) (by decide)), fun _ => ⟨r, rfl, hw, hl⟩⟩
theorem rw17_bad {d : D} (ok : okR d) (ft : Fit 6000 3 d) (h : rowB d = false) : Rw17 d := ⟨ok, ft, fun z => by rw [h] at z; cases z⟩
/-- a row that is no tuple of two -/
theorem okR_no {d : D} (t : d.tyn.isSome = true) (e : d ≠ .etup) (n : ∀ x y, d ≠ .tup [x, y]) : okR d := ⟨t, e, fun x y z => (n x y z).elim⟩
theorem okR_two {x y : D} (hx : okN x) (hy : y.tyn.isSome = true) : okR (.tup [x, y]) := ⟨rfl, (fun z => nomatch z), fun a b e => by
  injection e with e
  injection e with e1 e2
  injection e2 with e2
  subst e1 e2
  exact ⟨hx, hy⟩⟩
theorem okW_wd {w : Str} (h : Wd w) : okW (.str w) := ⟨rfl, fun v e => by
  injection e with e
  subst e
  have := h.2.1
  omega⟩
theorem okN_nm {n : Nme} (hw : ∀ w ∈ n, Wd w) : okN (nm n) := ⟨rfl, (fun z => nomatch z), fun zs e z m => by
  injection e with e
  subst e
  obtain ⟨w, mw, rfl⟩ := List.mem_map.mp m
  exact okW_wd (hw w mw)⟩
/-- a part that is no word -/
structure Odd17 (z : D) : Prop where
  ok : okW z
  no : wordB z = false
  ft : Fit 200 1 z
theorem odds : ∀ z ∈ [D.str "", D.str "A", D.str "a1", D.str "abcdefghi", D.non, D.int 5, D.tup [D.str "a"], D.str "a b", D.bl true, D.str "a.b"], Odd17 z := by
  have st : ∀ w : Str, smB w = true → wordB (.str w) = false → w.length ≤ 100 → Odd17 (.str w) := fun w h n l => ⟨⟨rfl, fun v e => by injection e with e; subst e; omega⟩, n, (Fit.str (n := 100) l (by decide) (smB_iff.mp h).2).mono (by decide) (by decide)⟩
  intro z m
  simp only [List.mem_cons, List.not_mem_nil, or_false] at m
  rcases m with rfl | rfl | rfl | rfl | rfl | rfl | rfl | rfl | rfl | rfl
  · exact st _ (by decide) (by decide) (by decide)
  · exact st _ (by decide) (by decide) (by decide)
  · exact st _ (by decide) (by decide) (by decide)
  · exact st _ (by decide) (by decide) (by decide)
  · exact ⟨⟨rfl, fun v e => nomatch e⟩, rfl, Fit.non.mono (by decide) (by decide)⟩
  · exact ⟨⟨rfl, fun v e => nomatch e⟩, rfl, (Fit.int (i := 5) (by decide)).mono (by decide) (by decide)⟩
  · refine ⟨⟨rfl, fun v e => nomatch e⟩, rfl, (Fit.tup (w := 150) (k := 0) (l := 1) (fun e m => ?_) (by decide) (by decide)).mono (by decide) (by decide)⟩
    rw [List.mem_singleton.mp m]
    exact (Fit.str (n := 100) (z := "a") (by decide) (by decide) (smB_iff.mp (by decide)).2).mono (by decide) (by decide)
  · exact st _ (by decide) (by decide) (by decide)
  · exact ⟨⟨rfl, fun v e => nomatch e⟩, rfl, Fit.bl.mono (by decide) (by decide)⟩
  · exact st _ (by decide) (by decide) (by decide)
/-- a name with a part that is no word -/
theorem rw17_name {a b : Nme} {z : D} {f : Bool} (ha : ∀ w ∈ a, Wd w) (hb : ∀ w ∈ b, Wd w) (la : a.length ≤ 6) (lb : b.length ≤ 6) (hz : Odd17 z) : Rw17 (.tup [.tup (a.map D.str ++ [z] ++ b.map D.str), .bl f]) := by
  have each : ∀ e ∈ a.map D.str ++ [z] ++ b.map D.str, okW e ∧ Fit 200 1 e := fun e m => by
    rcases List.mem_append.mp m with m | m
    · rcases List.mem_append.mp m with m | m
      · obtain ⟨w, mw, rfl⟩ := List.mem_map.mp m
        exact ⟨okW_wd (ha w mw), (Fit.wd (ha w mw)).mono (by decide) (by decide)⟩
      · rw [List.mem_singleton.mp m]
        exact ⟨hz.ok, hz.ft⟩
    · obtain ⟨w, mw, rfl⟩ := List.mem_map.mp m
      exact ⟨okW_wd (hb w mw), (Fit.wd (hb w mw)).mono (by decide) (by decide)⟩
  have len : (a.map D.str ++ [z] ++ b.map D.str).length ≤ 13 := by
    rw [List.length_append, List.length_append, List.length_map, List.length_map, List.length_singleton]
    omega
  refine rw17_bad (okR_two ⟨rfl, (fun z => nomatch z), fun zs e x m => ?_⟩ rfl) ?_ ?_
  · injection e with e
    subst e
    exact (each x m).1
  · exact fit_two ((Fit.tup (w := 200) (k := 1) (l := 13) (fun e m => (each e m).2) len (by decide)).mono (by decide) (by decide)) (Fit.bl.mono (by decide) (by decide))
  · show (List.all _ wordB && true) = false
    rw [Bool.and_true]
    refine Bool.eq_false_iff.mpr fun h => ?_
    have := List.all_eq_true.mp h z (List.mem_append_left _ (List.mem_append_right _ (List.mem_singleton_self z)))
    rw [hz.no] at this
    cases this
end K17
namespace K17
open PySem PySem.Spec PyProof.Rows L2 VB
variable {P : Program} {w : World} {K : PySem.W.Frag} {mg : Str → Option Value} {base : Heap} {a : Ad}
theorem strB_ev {f : Bool} : D.strB (.bl f) = .ret (.str (if f = true then "True" else "False")) := rfl
theorem join_nm {n : Nme} (hw : ∀ w ∈ n, Wd w) (hl : n.length ≤ 6) : ∃ z, D.joinA (.str ".") (nm n) = .ret (.str z) ∧ Fit 200 0 (.str z) := by
  have one : ("." : Str).length = 1 := by decide
  have both : ∀ l : Nme, (∀ w ∈ l, Wd w) → (l.map (·.length)).sum ≤ l.length * 8 ∧ (Str.join "." l).length ≤ l.length * 9 ∧ Sm (Str.join "." l) := fun l => by
    induction l with
    | nil => exact fun _ => ⟨Nat.le_refl _, Nat.zero_le _, fun c m => nomatch m⟩
    | cons w l ih =>
      intro h
      have hw := h w (List.mem_cons_self ..)
      have h1 := hw.2.1
      obtain ⟨i1, i2, i3⟩ := ih fun v m => h v (List.mem_cons_of_mem _ m)
      refine ⟨by rw [List.map_cons, List.sum_cons, List.length_cons]; omega, ?_⟩
      cases l with
      | nil =>
        refine ⟨?_, hw.2.2.sm⟩
        show w.length ≤ (0 + 1) * 9
        omega
      | cons v l =>
        have e : Str.join "." (w :: v :: l) = w ++ "." ++ Str.join "." (v :: l) := rfl
        rw [e]
        refine ⟨?_, (hw.2.2.sm.app (smB_iff.mp (by decide)).2).app i3⟩
        rw [Str.length_append, Str.length_append, one, List.length_cons]
        omega
  obtain ⟨b1, b2, b3⟩ := both n hw
  refine ⟨Txt.join "." n, ?_, ?_⟩
  · show D.join (.str ".") (.lst (n.map D.str)) = _
    exact join_ev (by rw [one]; omega)
  · have e : Txt.join "." n = Str.join "." n := by
      show Builtin.Str.glued "." n = _
      rw [StrLaws.glued_eq_join]
    rw [e]
    exact (Fit.str (n := 54) (by omega) (by decide) b3).mono (by decide) (by decide)
theorem w_at2 {α : Type} {l : List D} {n : Int} {k : D → M α} {P : α → Prop} (hn : n = (l.length : Nat)) (h1 : 1 ≤ l.length) (h2 : l.length ≤ 1000) (h : ∀ d ∈ l, wp (k d) P) : wp ((D.takeM (.int n)).bind fun b => (D.ixA (.lst l) b).bind k) P := by
  subst hn
  exact w_at h1 h2 h
theorem w_at3 {l : List D} {n : Int} {P : D → Prop} (hn : n = (l.length : Nat)) (h1 : 1 ≤ l.length) (h2 : l.length ≤ 1000) (h : ∀ d ∈ l, P d) : wp ((D.takeM (.int n)).bind fun b => D.ixA (.lst l) b) P := by
  subst hn
  refine wp_take (by omega) (by omega) fun t t0 t1 => ?_
  obtain ⟨x, mx, ex⟩ := atI_of (xs := l) t0 t1
  rw [show D.ixA (.lst l) (.int t) = D.ix (.lst l) (.int t) from rfl, ix_lst ex]
  exact h x mx
section
variable {a b c d e f g h i j k l m : D}
theorem lst6 : D.lstM [a, b, c, d, e, f] = .ret (.lst [a, b, c, d, e, f]) := if_pos (by show 6 ≤ 16777216; decide)
theorem lst7 : D.lstM [a, b, c, d, e, f, g] = .ret (.lst [a, b, c, d, e, f, g]) := if_pos (by show 7 ≤ 16777216; decide)
theorem lst10 : D.lstM [a, b, c, d, e, f, g, h, i, j] = .ret (.lst [a, b, c, d, e, f, g, h, i, j]) := if_pos (by show 10 ≤ 16777216; decide)
theorem lst13 : D.lstM [a, b, c, d, e, f, g, h, i, j, k, l, m] = .ret (.lst [a, b, c, d, e, f, g, h, i, j, k, l, m]) := if_pos (by show 13 ≤ 16777216; decide)
end
theorem slN_lo {n : Nme} {k : Nat} : D.sl (nm n) none (some (k : Int)) = .ret (nm (n.take k)) := by
  show M.ret (D.tup (cutG (n.map D.str) none (some (k : Int)))) = _
  rw [cutG_lo, ← List.map_take]
theorem slN_hi {n : Nme} {k : Nat} : D.sl (nm n) (some (k : Int)) none = .ret (nm (n.drop k)) := by
  show M.ret (D.tup (cutG (n.map D.str) (some (k : Int)) none)) = _
  rw [cutG_hi, ← List.map_drop]
theorem slN_hi1 {n : Nme} {k : Nat} : D.sl (nm n) (some ((k : Int) + 1)) none = .ret (nm (n.drop (k + 1))) := slN_hi (k := k + 1)
theorem fitT {ds : List D} (h : ∀ d ∈ ds, Fit 1000 2 d) (hl : ds.length ≤ 3) : Fit 6000 3 (.tup ds) := (Fit.tup h hl (by decide)).mono (by decide) (by decide)
theorem fitL {ds : List D} (h : ∀ d ∈ ds, Fit 1000 2 d) (hl : ds.length ≤ 3) : Fit 6000 3 (.lst ds) := (Fit.lst h hl).mono (by decide) (by decide)
theorem fit_ddic : Fit 1 1 (.dic [] []) := ⟨rfl, Nat.zero_le _, by decide⟩
theorem okN_of {x : D} (t : x.tyn.isSome = true) (e : x ≠ .etup) (n : ∀ zs, x ≠ .tup zs) : okN x := ⟨t, e, fun zs z => (n zs z).elim⟩
theorem okR_nm {n : Nme} : okR (nm n) := ⟨rfl, (fun z => nomatch z), fun x y e => by
  injection e with e
  match n, e with
  | [a, b], e =>
    injection e with e1 e
    injection e with e2 _
    subst e1 e2
    exact ⟨okN_of rfl (fun z => nomatch z) (fun _ z => nomatch z), rfl⟩⟩
theorem rowB_nm {n : Nme} : rowB (nm n) = false := by
  match n with
  | [] => rfl
  | [_] => rfl
  | [_, _] => rfl
  | _ :: _ :: _ :: _ => rfl
theorem w_odd_row {r : Nme × Bool} {P : D → Prop} (hw : ∀ w ∈ r.1, Wd w) (hl : r.1.length ≤ 6) (h : ∀ d, Rw17 d → P d) : wp (m_law_odd_row (rwD r)) P := by
  obtain ⟨n, f⟩ := r
  have hw : ∀ w ∈ n, Wd w := hw
  have hl : n.length ≤ 6 := hl
  obtain ⟨jz, ej, fj⟩ := join_nm hw hl
  have lenA : D.lenA (nm n) = .ret (.int n.length) := by
    show M.ret (D.int ((n.map D.str).length : Nat)) = _
    rw [List.length_map]
  have un : ∀ k : D → D → M D, D.un2 (rwD (n, f)) k = k (nm n) (.bl f) := fun _ => rfl
  have tl : D.toLstA (rwD (n, f)) = .ret (.lst [nm n, .bl f]) := rfl
  have tn : D.toLstA (nm n) = .ret (.lst (n.map D.str)) := rfl
  have ti : D.toInt (.bl f) = .ret (.int (if f = true then 1 else 0)) := rfl
  have tr : (D.bl f).truth = .ret f := rfl
  have fn := (fit_nm hw hl).mono (w' := 1000) (k' := 2) (by decide) (by decide)
  have fb : ∀ {b : Bool}, Fit 1000 2 (.bl b) := Fit.bl.mono (by decide) (by decide)
  have fo : Fit 1000 2 .non := Fit.non.mono (by decide) (by decide)
  unfold m_law_odd_row
  simp only [rb17, un, M.one, lenA, dadd_int]
  refine wp_take (by omega) (by omega) fun t t0 t1 => ?_
  obtain ⟨k, rfl⟩ := Int.eq_ofNat_of_zero_le t0
  simp only [rb17, tupM1, lst10, M.assoc]
  refine w_at2 rfl (by decide) (by decide) fun z mz => ?_
  have oz := odds z mz
  have a1 : D.add (nm (n.take k)) (.tup [z]) = .ret (.tup ((n.take k).map D.str ++ [z])) := addT_ev (by
    rw [List.length_map, List.length_take, List.length_singleton]
    omega)
  have a2 : ∀ m, m ≤ k + 1 → D.add (.tup ((n.take k).map D.str ++ [z])) (nm (n.drop m)) = .ret (.tup ((n.take k).map D.str ++ [z] ++ (n.drop m).map D.str)) := fun m _ => addT_ev (by
    rw [List.length_append, List.length_map, List.length_map, List.length_take, List.length_drop, List.length_singleton]
    omega)
  have l1 : ∀ {a b c d e f g x y z : D}, D.add (.lst [a, b, c, d, e, f, g]) (.lst [x, y, z]) = .ret (.lst [a, b, c, d, e, f, g, x, y, z]) := fun {a b c d e f g x y z} => addL_ev (by show 7 + 3 ≤ 16777216; decide)
  have l2 : ∀ {a b c d e f g x y z h i j k l m : D}, D.add (.lst [a, b, c, d, e, f, g, x, y, z]) (.lst [h, i, j, k, l, m]) = .ret (.lst [a, b, c, d, e, f, g, x, y, z, h, i, j, k, l, m]) := fun {a b c d e f g x y z h i j k l m} => addL_ev (by show 10 + 6 ≤ 16777216; decide)
  simp only [rb17, tl, tn, ti, tr, strB_ev, ej, tupM1, tupM2, tupM3, lst7, lstM3, lst6, asI_int, dadd_int, slN_lo, slN_hi, slN_hi1, a1, a2 k (Nat.le_succ k), a2 (k + 1) (Nat.le_refl _), l1, l2]
  refine w_at3 rfl (by show 1 ≤ 16; decide) (by show 16 ≤ 1000; decide) fun d md => h d ?_
  have wt : ∀ w ∈ n.take k, Wd w := fun w m => hw w (List.mem_of_mem_take m)
  have wd : ∀ j, ∀ w ∈ n.drop j, Wd w := fun j w m => hw w (List.mem_of_mem_drop m)
  have two : ∀ {x y : D}, Fit 1000 2 x → Fit 1000 2 y → ∀ d ∈ [x, y], Fit 1000 2 d := fun {x y} hx hy d m => by
    rcases List.mem_cons.mp m with rfl | m
    · exact hx
    · rw [List.mem_singleton.mp m]
      exact hy
  simp only [List.mem_cons, List.not_mem_nil, or_false] at md
  rcases md with rfl | rfl | rfl | rfl | rfl | rfl | rfl | rfl | rfl | rfl | rfl | rfl | rfl | rfl | rfl | rfl
  · exact rw17_bad (okR_no rfl (fun z => nomatch z) fun _ _ z => nomatch z) (fitL (two fn fb) (by show 2 ≤ 3; decide)) rfl
  · refine rw17_bad (okR_no rfl (fun z => nomatch z) fun _ _ z => nomatch z) (fitT (fun e m => ?_) (by show 1 ≤ 3; decide)) rfl
    rw [List.mem_singleton.mp m]
    exact fn
  · refine rw17_bad (okR_no rfl (fun z => nomatch z) fun _ _ z => nomatch z) (fitT (fun e m => ?_) (by show 3 ≤ 3; decide)) rfl
    rcases List.mem_cons.mp m with rfl | m
    · exact fn
    · exact two fb fb e m
  · exact rw17_bad (okR_two (okN_of rfl (fun z => nomatch z) fun _ z => nomatch z) rfl) (fitT (two fb fn) (by show 2 ≤ 3; decide)) rfl
  · exact rw17_bad (okR_two (okN_nm hw) rfl) (fitT (two fn ((Fit.int (by cases f <;> decide)).mono (by decide) (by decide))) (by show 2 ≤ 3; decide)) (Bool.and_false _)
  · exact rw17_bad (okR_two (okN_nm hw) rfl) (fitT (two fn fo) (by show 2 ≤ 3; decide)) (Bool.and_false _)
  · exact rw17_bad (okR_two (okN_nm hw) rfl) (fitT (two fn ((Fit.str (n := 5) (by cases f <;> decide) (by decide) (by cases f <;> exact (smB_iff.mp (by decide)).2)).mono (by decide) (by decide))) (by show 2 ≤ 3; decide)) (Bool.and_false _)
  · refine rw17_bad (okR_two (okN_of rfl (fun z => nomatch z) fun _ z => nomatch z) rfl) (fitT (two ((Fit.lst (w := 150) (k := 0) (l := 6) (fun e m => ?_) (by rw [List.length_map]; exact hl)).mono (by decide) (by decide)) fb) (by show 2 ≤ 3; decide)) rfl
    obtain ⟨w, mw, rfl⟩ := List.mem_map.mp m
    exact Fit.wd (hw w mw)
  · exact rw17_bad (okR_two (okN_of rfl (fun z => nomatch z) fun _ z => nomatch z) rfl) (fitT (two (fj.mono (by decide) (by decide)) fb) (by show 2 ≤ 3; decide)) rfl
  · exact rw17_name wt (wd k) (by rw [List.length_take]; omega) (by rw [List.length_drop]; omega) oz
  · exact rw17_name wt (wd (k + 1)) (by rw [List.length_take]; omega) (by rw [List.length_drop]; omega) oz
  · exact rw17_bad (okR_no rfl (fun z => nomatch z) fun _ _ z => nomatch z) (Fit.non.mono (by decide) (by decide)) rfl
  · exact rw17_bad (okR_no rfl (fun z => nomatch z) fun _ _ z => nomatch z) (fit_ddic.mono (by decide) (by decide)) rfl
  · exact rw17_bad okR_nm ((fit_nm hw hl).mono (by decide) (by decide)) rowB_nm
  · exact rw17_good (r := (n, !f)) hw hl
  · exact rw17_bad (okR_two (okN_of rfl (fun z => nomatch z) fun _ z => nomatch z) rfl) (fitT (two fo fb) (by show 2 ≤ 3; decide)) rfl
end K17
namespace K17
open PySem PySem.Spec PyProof.Rows L2 VB
variable {P : Program} {w : World} {K : PySem.W.Frag} {mg : Str → Option Value} {base : Heap} {a : Ad}
theorem rp60 {d : D} (h : Fit 200000 60 d) : D.reprM d = .ret (.str d.py.shown) := by
  obtain ⟨_, b, c, e⟩ := D.ft_ok h.ft
  have := PyData.shown_le 60 (by decide) _ e
  have := h.wt
  unfold D.reprM
  rw [if_pos]
  rw [b, c, decide_eq_true h.dp, decide_eq_true (show d.py.shown.length ≤ 16777216 by omega)]
  rfl
structure Fin17 (c : Cl) (s : D) : Prop where
  rp : ∃ z, D.reprE s = .ret (.str z)
  lk : ∃ v, m_are_flagged c s = .ret (.bl v) ∧ m_law_is_good c s = .ret (.bl v) ∧ (v = true → ∃ b, ∃ G : Rg, s = seqA b (G.map rwD) ∧ WdF G ∧ NdF G ∧ G.length < 63 ∧ ∀ r ∈ G, r.1.length ≤ 1000000)
theorem ftA_mem : ∀ {ds : List D} {d : D}, D.ftA ds = true → d ∈ ds → d.ft = true
  | e :: ds, d, h, m => by
    obtain ⟨h1, h2⟩ := Bool.and_eq_true_iff.mp (show (D.ft e && D.ftA ds) = true from h)
    rcases List.mem_cons.mp m with rfl | m
    · exact h1
    · exact ftA_mem h2 m
theorem row_len {r : Nme × Bool} (h : (rwD r).ft = true) : r.1.length ≤ 1000000 := by
  obtain ⟨_, h1⟩ := Bool.and_eq_true_iff.mp (show (decide ([nm r.1, D.bl r.2].length ≤ 100000) && D.ftA [nm r.1, D.bl r.2]) = true from h)
  have h2 := ftA_mem h1 (List.mem_cons_self ..)
  obtain ⟨h3, _⟩ := Bool.and_eq_true_iff.mp (show (decide ((r.1.map D.str).length ≤ 100000) && D.ftA (r.1.map D.str)) = true from h2)
  have h4 := of_decide_eq_true h3
  rw [List.length_map] at h4
  omega
theorem fin_seq {c : Cl} {b : Bool} {ds : List D} (h : ∀ d ∈ ds, okR d) (hl : ds.all rowB = true → ds.length < 63) (ft : Fit 200000 60 (seqA b ds)) : Fin17 c (seqA b ds) := by
  refine ⟨by cases b <;> exact ⟨_, rp60 ft⟩, ?_⟩
  obtain ⟨v, h1, h2, h3⟩ := e_are (c := c) (b := b) h hl
  refine ⟨v, h1, h2, fun e => ?_⟩
  obtain ⟨G, e1, e2, e3⟩ := h3.mp e
  have fa : D.ftA ds = true := by
    have := ft.ft
    cases b with
    | true => exact this
    | false => exact (Bool.and_eq_true_iff.mp (show (decide (ds.length ≤ 100000) && D.ftA ds) = true from this)).2
  refine ⟨b, G, by rw [e1], e2, e3, ?_, fun r m => row_len (ftA_mem fa (by rw [e1]; exact List.mem_map_of_mem m))⟩
  have z := hl (by
    rw [e1, List.all_map, List.all_eq_true]
    exact fun r m => rw_good (e2 r m))
  rw [e1, List.length_map] at z
  exact z
theorem fin_lst {c : Cl} {ds : List D} (h : ∀ d ∈ ds, okR d) (hl : ds.all rowB = true → ds.length < 63) (ft : Fit 200000 60 (.lst ds)) : Fin17 c (.lst ds) := fin_seq (b := true) h hl ft
theorem fin_tup {c : Cl} {ds : List D} (h : ∀ d ∈ ds, okR d) (hl : ds.all rowB = true → ds.length < 63) (ft : Fit 200000 60 (.tup ds)) : Fin17 c (.tup ds) := fin_seq (b := false) h hl ft
theorem fin_other {c : Cl} {s : D} (rp : ∃ z, D.reprE s = .ret (.str z)) (h : D.isiTE c.all [.ty "list", .ty "tuple"] s = .ret (.bl false)) : Fin17 c s := by
  refine ⟨rp, false, ?_, ?_, fun z => nomatch z⟩
  · unfold m_are_flagged
    simp only [rb17, h, asB_bl, M.or2, M.not1, Bool.not_false, if_true]
  · unfold m_law_is_good
    simp only [rb17, h, asB_bl, M.or2, M.not1, Bool.not_false, if_true]
/-- a thing that is not spoilt again -/
structure Dn (c : Cl) (s : D) : Prop where
  fin : Fin17 c s
  isl : ∃ l, D.isiE s (.ty "list") = .ret (.bl l) ∧ (l = true → ∃ ds, s = .lst ds ∧ ds.all rowB = false ∧ (∀ d ∈ ds, okR d) ∧ Fin17 c (.tup ds))
theorem dn_lst {c : Cl} {ds : List D} (h : ∀ d ∈ ds, okR d) (ha : ds.all rowB = false) (f1 : Fit 200000 60 (.lst ds)) (f2 : Fit 200000 60 (.tup ds)) : Dn c (.lst ds) := by
  have hl : ds.all rowB = true → ds.length < 63 := fun z => by
    rw [ha] at z
    cases z
  exact ⟨fin_lst h hl f1, true, rfl, fun _ => ⟨ds, rfl, ha, h, fin_tup h hl f2⟩⟩
theorem dn_tup {c : Cl} {ds : List D} (h : ∀ d ∈ ds, okR d) (hl : ds.all rowB = true → ds.length < 63) (ft : Fit 200000 60 (.tup ds)) : Dn c (.tup ds) := ⟨fin_tup h hl ft, false, rfl, fun z => nomatch z⟩
theorem dn_other {c : Cl} {s : D} (rp : ∃ z, D.reprE s = .ret (.str z)) (h : D.isiTE c.all [.ty "list", .ty "tuple"] s = .ret (.bl false)) (hl : D.isiE s (.ty "list") = .ret (.bl false)) : Dn c s := ⟨fin_other rp h, false, hl, fun z => nomatch z⟩
theorem kv_fit {w k : Nat} : ∀ {kvs : List (PyData × PyData)}, (∀ p ∈ kvs, ∃ x y : D, p = (x.py, y.py) ∧ Fit w k x ∧ Fit w k y) → PyData.showableKv kvs = true ∧ PyData.leavesShortKv 60 kvs = true ∧ PyData.weightKv kvs ≤ kvs.length * (2 * w + 2) ∧ PyData.depthKv kvs ≤ k
  | [], _ => ⟨rfl, rfl, Nat.zero_le _, Nat.zero_le _⟩
  | p :: kvs, h => by
    obtain ⟨x, y, rfl, fx, fy⟩ := h p (List.mem_cons_self ..)
    obtain ⟨i1, i2, i3, i4⟩ := kv_fit (kvs := kvs) fun q m => h q (List.mem_cons_of_mem _ m)
    obtain ⟨_, _, x3, x4⟩ := D.ft_ok fx.ft
    obtain ⟨_, _, y3, y4⟩ := D.ft_ok fy.ft
    refine ⟨?_, ?_, ?_, ?_⟩
    · show (PyData.showable x.py && PyData.showable y.py && PyData.showableKv kvs) = true
      rw [x3, y3, i1]
      rfl
    · show (PyData.leavesShort 60 x.py && PyData.leavesShort 60 y.py && PyData.leavesShortKv 60 kvs) = true
      rw [x4, y4, i2]
      rfl
    · show PyData.weight x.py + PyData.weight y.py + 2 + PyData.weightKv kvs ≤ (kvs.length + 1) * (2 * w + 2)
      have := fx.wt
      have := fy.wt
      rw [Nat.succ_mul]
      omega
    · show max (max (PyData.depth x.py) (PyData.depth y.py)) (PyData.depthKv kvs) ≤ k
      have := fx.dp
      have := fy.dp
      omega
theorem pyA_mem : ∀ {ds : List D} {e : PyData}, e ∈ D.pyA ds → ∃ d ∈ ds, e = d.py
  | d :: ds, e, m => by
    rcases List.mem_cons.mp (show e ∈ D.py d :: D.pyA ds from m) with rfl | m
    · exact ⟨d, List.mem_cons_self .., rfl⟩
    · obtain ⟨x, mx, ex⟩ := pyA_mem m
      exact ⟨x, List.mem_cons_of_mem _ mx, ex⟩
theorem knm_py (n : Nme) : PyData.tuple ((knm n).map kD) = (nm n).py := by
  show PyData.tuple _ = PyData.tuple (D.pyA (n.map D.str))
  congr 1
  induction n with
  | nil => rfl
  | cons w n ih => exact congrArg (PyData.str w :: ·) ih
theorem plA_bl : ∀ {ds : List D}, (∀ d ∈ ds, ∃ b, d = .bl b) → D.plA ds = true
  | [], _ => rfl
  | d :: ds, h => by
    obtain ⟨b, rfl⟩ := h d (List.mem_cons_self ..)
    exact plA_bl (ds := ds) fun x m => h x (List.mem_cons_of_mem _ m)
theorem putDs_mem {ks : List (List Key)} {k : List Key} {x : D} {d : D} : ∀ {ds : List D}, d ∈ putDs ks ds k x → d ∈ ds ∨ d = x := fun {ds} m => by
  unfold putDs at m
  split at m
  · rename_i hh
    clear hh
    induction ks generalizing ds with
    | nil => exact (nomatch m)
    | cons j ks ih =>
      cases ds with
      | nil => exact (nomatch m)
      | cons y ds =>
        rw [List.zipWith_cons_cons] at m
        rcases List.mem_cons.mp m with rfl | m
        · split
          · exact .inr rfl
          · exact .inl (List.mem_cons_self ..)
        · rcases ih m with z | z
          · exact .inl (List.mem_cons_of_mem _ z)
          · exact .inr z
  · rcases List.mem_append.mp m with m | m
    · exact .inl m
    · exact .inr (List.mem_singleton.mp m)
theorem merge_any : ∀ {rs : Rg} {ks : List (List Key)} {ds : List D}, (∀ d ∈ ds, ∃ b, d = .bl b) → ∃ ks' ds', mergeD ks ds (rs.map fun r => (knm r.1, D.bl r.2)) = .dit ks' ds' ∧ (∀ k ∈ ks', k ∈ ks ∨ ∃ r ∈ rs, k = knm r.1) ∧ (∀ d ∈ ds', ∃ b, d = .bl b) ∧ ks'.length ≤ ks.length + rs.length
  | [], ks, ds, h => ⟨ks, ds, rfl, fun _ m => .inl m, h, Nat.le_refl _⟩
  | r :: rs, ks, ds, h => by
    obtain ⟨ks', ds', e, h1, h2, h3⟩ := merge_any (rs := rs) (ks := putKs ks (knm r.1)) (ds := putDs ks ds (knm r.1) (.bl r.2)) fun d m => by
      rcases putDs_mem m with m | rfl
      · exact h d m
      · exact ⟨_, rfl⟩
    refine ⟨ks', ds', e, fun k m => ?_, h2, ?_⟩
    · rcases h1 k m with m | ⟨q, mq, e⟩
      · unfold putKs at m
        split at m
        · exact .inl m
        · rcases List.mem_append.mp m with m | m
          · exact .inl m
          · exact .inr ⟨r, List.mem_cons_self .., List.mem_singleton.mp m⟩
      · exact .inr ⟨q, List.mem_cons_of_mem _ mq, e⟩
    · have : (putKs ks (knm r.1)).length ≤ ks.length + 1 := by
        unfold putKs
        split
        · omega
        · rw [List.length_append, List.length_singleton]
          omega
      rw [List.length_cons]
      omega
theorem rowsT_any : ∀ G : Rg, rowsT (G.map rwD) = some (G.map fun r => (knm r.1, D.bl r.2))
  | [] => rfl
  | r :: G => by
    have e : (nm r.1).keyT = some (knm r.1) := by
      show keysK (r.1.map D.str) = some (r.1.map Sum.inr)
      induction r.1 with
      | nil => rfl
      | cons w n ih =>
        show (match some (Sum.inr w : Key), keysK (n.map D.str) with | some k, some ks => some (k :: ks) | _, _ => none) = _
        rw [ih]
        rfl
    show (match (nm r.1).keyT, rowsT (G.map rwD) with | some k, some rs => some ((k, D.bl r.2) :: rs) | _, _ => none) = _
    rw [e, rowsT_any G]
    rfl
theorem dict_dn {c : Cl} {G : Rg} (hw : WdF G) (hn : ∀ r ∈ G, r.1.length ≤ 6) (hl : G.length ≤ 60) : ∃ d, D.dictPT (.lst (G.map rwD)) = .ret d ∧ Dn c d := by
  obtain ⟨ks, ds, e, h1, h2, h3⟩ := merge_any (rs := G) (ks := []) (ds := []) fun _ m => nomatch m
  refine ⟨.dit ks ds, ?_, dn_other ⟨(pyT ks (D.pyA ds)).shown, ?_⟩ rfl rfl⟩
  · show (match rowsT (G.map rwD) with | some rs => M.ret (mergeD [] [] rs) | none => .fail) = _
    rw [rowsT_any]
    exact congrArg M.ret e
  · obtain ⟨g1, g2, g3, g4⟩ := kv_fit (w := 906) (k := 1) (kvs := (ks.map fun k => PyData.tuple (k.map kD)).zip (D.pyA ds)) fun p m => by
      obtain ⟨m1, m2⟩ := List.of_mem_zip (show (p.1, p.2) ∈ _ from m)
      obtain ⟨k, mk, ek⟩ := List.mem_map.mp m1
      obtain ⟨d, md, ed⟩ := pyA_mem m2
      obtain ⟨b, rfl⟩ := h2 d md
      rcases h1 k mk with z | ⟨r, mr, rfl⟩
      · exact (nomatch z)
      · refine ⟨nm r.1, .bl b, ?_, fit_nm (hw r mr) (hn r mr), Fit.bl.mono (by decide) (by decide)⟩
        rw [← knm_py, ← ed]
        exact Prod.ext ek.symm rfl
    have len : ((ks.map fun k => PyData.tuple (k.map kD)).zip (D.pyA ds)).length ≤ 60 := by
      rw [List.length_zip, List.length_map]
      rw [List.length_nil] at h3
      omega
    have wt : (pyT ks (D.pyA ds)).weight ≤ 60 * (2 * 906 + 2) := Nat.le_trans g3 (Nat.mul_le_mul_right _ len)
    have sh := PyData.shown_le 60 (by decide) (pyT ks (D.pyA ds)) g2
    have dp : (pyT ks (D.pyA ds)).depth ≤ 60 := Nat.le_trans (Nat.succ_le_succ g4) (by decide)
    have s1 : (pyT ks (D.pyA ds)).showable = true := g1
    show (if (D.plA ds && (pyT ks (D.pyA ds)).showable && (decide ((pyT ks (D.pyA ds)).depth ≤ 60) && decide ((pyT ks (D.pyA ds)).shown.length ≤ 16777216))) = true then M.ret (D.str (pyT ks (D.pyA ds)).shown) else .fail) = _
    rw [if_pos]
    rw [plA_bl h2, s1, decide_eq_true dp, decide_eq_true (show (pyT ks (D.pyA ds)).shown.length ≤ 16777216 by omega)]
    rfl
end K17
namespace K17
open PySem PySem.Spec PyProof.Rows L2 VB
variable {P : Program} {w : World} {K : PySem.W.Frag} {mg : Str → Option Value} {base : Heap} {a : Ad}
def St17 (c : Cl) (i : Nat) (s : D) : Prop := (∃ ds, s = .lst ds ∧ (∀ d ∈ ds, Rw17 d) ∧ ds.length ≤ 6 + i) ∨ Dn c s
def nest : Nat → D
  | 0 => .lst [.non]
  | n + 1 => .lst [nest n]
theorem nest_fit : ∀ n, Fit (2 * n + 2) (n + 1) (nest n)
  | 0 => (Fit.lst (w := 1) (k := 0) (l := 1) (ds := [.non]) (fun d m => by
      rw [List.mem_singleton.mp m]
      exact Fit.non) (by decide)).mono (by decide) (by decide)
  | n + 1 => (Fit.lst (w := 2 * n + 2) (k := n + 1) (l := 1) (ds := [nest n]) (fun d m => by
      rw [List.mem_singleton.mp m]
      exact nest_fit n) (Nat.le_refl 1)).mono (by omega) (Nat.le_refl _)
theorem nest_fold : ∀ {ds : List D} {n : Nat}, M.fold (fun ys s => (D.lstM [s]).bind fun deep => M.ret deep) ds (nest n) = .ret (nest (n + ds.length))
  | [], n => rfl
  | d :: ds, n => by
    unfold M.fold
    rw [lstM1]
    simp only [rb17]
    have z := nest_fold (ds := ds) (n := n + 1)
    rw [show D.lst [nest n] = nest (n + 1) from rfl]
    refine z.trans ?_
    rw [List.length_cons, show n + 1 + ds.length = n + (ds.length + 1) by omega]
theorem nest_lst (n : Nat) : ∃ x, nest n = .lst [x] ∧ x.tyn.isSome = true ∧ x ≠ .etup ∧ (∀ a b, x ≠ .tup [a, b]) ∧ rowB x = false := by
  cases n with
  | zero => exact ⟨.non, rfl, rfl, (fun z => nomatch z), (fun _ _ z => nomatch z), rfl⟩
  | succ n =>
    have e : ∃ ys, nest n = .lst ys := by cases n <;> exact ⟨_, rfl⟩
    obtain ⟨ys, e⟩ := e
    refine ⟨nest n, rfl, ?_⟩
    rw [e]
    exact ⟨rfl, (fun z => nomatch z), (fun _ _ z => nomatch z), rfl⟩
theorem dn_one {c : Cl} {x : D} (h : okR x) (ha : rowB x = false) (ft : Fit 1000 40 x) : Dn c (.lst [x]) := by
  have each : ∀ d ∈ [x], Fit 1000 40 d := fun d m => by
    rw [List.mem_singleton.mp m]
    exact ft
  refine dn_lst (fun d m => ?_) ?_ ((Fit.lst each (Nat.le_refl 1)).mono (by decide) (by decide)) ((Fit.tup each (Nat.le_refl 1) (by decide)).mono (by decide) (by decide))
  · rw [List.mem_singleton.mp m]
    exact h
  · show (rowB x && true) = false
    rw [ha]
    rfl
theorem fit_et : Fit 0 1 (.tup []) := ⟨rfl, Nat.le_refl _, by decide⟩
theorem fit_el : Fit 0 1 (.lst []) := ⟨rfl, Nat.le_refl _, by decide⟩
theorem dn_many {c : Cl} {n : Nat} (h1 : 1 ≤ n) (h2 : n ≤ 20000) : Dn c (.lst (List.replicate n .non)) := by
  have each : ∀ d ∈ List.replicate n D.non, Fit 1 0 d := fun d m => by
    rw [(List.mem_replicate.mp m).2]
    exact Fit.non
  have hl : (List.replicate n D.non).length ≤ 20000 := by rw [List.length_replicate]; exact h2
  refine dn_lst (fun d m => ?_) ?_ ((Fit.lst each hl).mono (by decide) (by decide)) ((Fit.tup each hl (by decide)).mono (by decide) (by decide))
  · rw [(List.mem_replicate.mp m).2]
    exact okR_no rfl (fun z => nomatch z) fun _ _ z => nomatch z
  · obtain ⟨k, rfl⟩ : ∃ k, n = k + 1 := ⟨n - 1, by omega⟩
    rfl
theorem row0 : Rw17 (rwD ([], true)) := rw17_good (r := ([], true)) (fun _ m => nomatch m) (by show 0 ≤ 6; decide)
theorem mulN {n : Int} (h0 : 0 ≤ n) (h1 : n ≤ 100000) : D.mul (.lst [.non]) (.int n) = .ret (.lst (List.replicate n.toNat .non)) := by
  show (if 0 ≤ n ∧ n ≤ 100000 ∧ [D.non].length ≤ 100 then M.ret (D.lst (List.replicate n.toNat [D.non]).flatten) else .fail) = _
  rw [if_pos ⟨h0, h1, by show 1 ≤ 100; decide⟩]
  congr 2
  induction n.toNat with
  | zero => rfl
  | succ k ih =>
    rw [List.replicate_succ, List.replicate_succ, List.flatten_cons, ih]
    rfl
/-- the thirteen that are no such lists, and the rest -/
theorem thirteen {c : Cl} {G : Rg} {n : Int} {dd : D} (hd : Dn c dd) (h0 : 1 ≤ n) (h1 : n ≤ 20000) :
    ∀ s ∈ [D.non, .int 5, .str "", .str "rows", .dic [] [], .bl true, dd, .lst [.lst []], .lst [.tup []], .tup [.tup [.tup [], .bl true]], .tup [.tup [], .bl true], nest 29, .lst (List.replicate n.toNat .non)], Dn c s := by
  intro s m
  simp only [List.mem_cons, List.not_mem_nil, or_false] at m
  have rp : ∀ {d : D}, D.reprE d = D.reprM d → Fit 200000 60 d → ∃ z, D.reprE d = .ret (.str z) := fun {d} e f => ⟨_, e.trans (rp60 f)⟩
  rcases m with rfl | rfl | rfl | rfl | rfl | rfl | rfl | rfl | rfl | rfl | rfl | rfl | rfl
  · exact dn_other (rp rfl (Fit.non.mono (by decide) (by decide))) rfl rfl
  · exact dn_other (rp rfl ((Fit.int (i := 5) (by decide)).mono (by decide) (by decide))) rfl rfl
  · exact dn_other (rp rfl ((Fit.str (z := "") (n := 0) (by decide) (by decide) (smB_iff.mp (by decide)).2).mono (by decide) (by decide))) rfl rfl
  · exact dn_other (rp rfl ((Fit.str (z := "rows") (n := 4) (by decide) (by decide) (smB_iff.mp (by decide)).2).mono (by decide) (by decide))) rfl rfl
  · exact dn_other (rp rfl (fit_ddic.mono (by decide) (by decide))) rfl rfl
  · exact dn_other (rp rfl (Fit.bl.mono (by decide) (by decide))) rfl rfl
  · exact hd
  · exact dn_one (okR_no rfl (fun z => nomatch z) fun _ _ z => nomatch z) rfl (fit_el.mono (by decide) (by decide))
  · exact dn_one (okR_no rfl (fun z => nomatch z) fun _ _ z => nomatch z) rfl (fit_et.mono (by decide) (by decide))
  · refine dn_tup (fun d m => ?_) (fun _ => by show 1 < 63; decide) ((Fit.tup (w := 6000) (k := 3) (l := 1) (ds := [D.tup [D.tup [], D.bl true]]) (fun d m => ?_) (Nat.le_refl 1) (by decide)).mono (by decide) (by decide))
    · rw [List.mem_singleton.mp m]
      exact row0.ok
    · rw [List.mem_singleton.mp m]
      exact row0.ft
  · refine dn_tup (fun d m => ?_) (fun _ => by show 2 < 63; decide) (row0.ft.mono (by decide) (by decide))
    rcases List.mem_cons.mp m with rfl | m
    · exact okR_no rfl (fun z => nomatch z) fun _ _ z => nomatch z
    · rw [List.mem_singleton.mp m]
      exact okR_no rfl (fun z => nomatch z) fun _ _ z => nomatch z
  · obtain ⟨x, e, t1, t2, t3, t4⟩ := nest_lst 29
    have f := nest_fit 29
    have fx : Fit 1000 40 x := by
      have h : nest 29 = .lst [nest 28] := rfl
      rw [h] at e
      injection e with e
      injection e with e
      rw [← e]
      exact (nest_fit 28).mono (by decide) (by decide)
    rw [e]
    exact dn_one (okR_no t1 t2 t3) t4 fx
  · exact dn_many (by omega) (by omega)
theorem w_spoilt {c : Cl} {G : Rg} {n : Int} {i : Nat} (hw : WdF G) (hn : ∀ r ∈ G, r.1.length ≤ 6) (hl : G.length ≤ 6 + i) (hi : i ≤ 3) (h0 : 1 ≤ n) (h1 : n ≤ 20000) : wp (m_law_spoilt (.lst (G.map rwD)) (.int n)) (St17 c (i + 1)) := by
  have lenA : D.lenA (.lst (G.map rwD)) = .ret (.int G.length) := by
    show M.ret (D.int ((G.map rwD).length : Nat)) = _
    rw [List.length_map]
  have rws : ∀ d ∈ G.map rwD, Rw17 d := fun d m => by
    obtain ⟨r, mr, rfl⟩ := List.mem_map.mp m
    exact rw17_good (hw r mr) (hn r mr)
  have len : (G.map rwD).length ≤ 6 + i := by rw [List.length_map]; exact hl
  obtain ⟨dd, edd, hdd⟩ := dict_dn (c := c) hw hn (by omega)
  unfold m_law_spoilt
  simp only [rb17, M.one, lenA, dadd_int]
  refine wp_take (by decide) (by decide) fun way w0 w1 => ?_
  refine wp_take (by omega) (by omega) fun t t0 t1 => ?_
  obtain ⟨k, rfl⟩ := Int.eq_ofNat_of_zero_le t0
  have cut : ∀ lo hi, D.sl (.lst (G.map rwD)) lo hi = .ret (.lst (cutG (G.map rwD) lo hi)) := fun _ _ => rfl
  have aft : ∀ {xs : List D}, xs.length ≤ 6 + i → D.add (.lst xs) (.lst [.tup [.tup [D.str "a"], .bl true]]) = .ret (.lst (xs ++ [rwD (["a"], true)])) := fun {xs} h => addL_ev (by
    show xs.length + 1 ≤ 16777216
    omega)
  have cl : ∀ {lo hi}, (cutG (G.map rwD) lo hi).length ≤ 6 + i := fun {lo hi} => Nat.le_trans (cutG_len _ _ _) len
  obtain ⟨r, er, rW, rL⟩ : ∃ r : Nme × Bool, D.ixA (.lst (cutG (G.map rwD) (some (k : Int)) (some ((k : Int) + 1)) ++ [rwD (["a"], true)])) (.int 0) = .ret (rwD r) ∧ (∀ w ∈ r.1, Wd w) ∧ r.1.length ≤ 6 := by
    cases e : cutG (G.map rwD) (some (k : Int)) (some ((k : Int) + 1)) with
    | nil =>
      refine ⟨(["a"], true), rfl, fun w m => ?_, by show 1 ≤ 6; decide⟩
      rw [List.mem_singleton.mp m]
      exact wordB_wd.mp (by decide)
    | cons y ys =>
      have my : y ∈ G.map rwD := cutG_mem (lo := some (k : Int)) (hi := some ((k : Int) + 1)) (by rw [e]; exact List.mem_cons_self ..)
      obtain ⟨r, mr, rfl⟩ := List.mem_map.mp my
      exact ⟨r, ix_lst (show L2.atI (rwD r :: (ys ++ [rwD (["a"], true)])) ((0 : Nat) : Int) = some (rwD r) from atI_nat rfl), hw r mr, hn r mr⟩
  have seq : ∀ {d : D} {m : Nat}, k ≤ m → Rw17 d → St17 c (i + 1) (.lst ((G.map rwD).take k ++ [d] ++ (G.map rwD).drop m)) := fun {d m} hm hd => by
    refine .inl ⟨_, rfl, fun x mx => ?_, ?_⟩
    · rcases List.mem_append.mp mx with mx | mx
      · rcases List.mem_append.mp mx with mx | mx
        · exact rws x (List.mem_of_mem_take mx)
        · rw [List.mem_singleton.mp mx]
          exact hd
      · exact rws x (List.mem_of_mem_drop mx)
    · rw [List.length_append, List.length_append, List.length_take, List.length_drop, List.length_singleton]
      omega
  have ad1 : ∀ {d : D}, D.add (.lst ((G.map rwD).take k)) (.lst [d]) = .ret (.lst ((G.map rwD).take k ++ [d])) := fun {d} => addL_ev (by
    rw [List.length_take, List.length_singleton]
    omega)
  have ad2 : ∀ {d : D} {m : Nat}, D.add (.lst ((G.map rwD).take k ++ [d])) (.lst ((G.map rwD).drop m)) = .ret (.lst ((G.map rwD).take k ++ [d] ++ (G.map rwD).drop m)) := fun {d m} => addL_ev (by
    rw [List.length_append, List.length_take, List.length_drop, List.length_singleton]
    omega)
  have i0 : D.ixA (rwD r) (.int 0) = .ret (nm r.1) := rfl
  have i1 : D.ixA (rwD r) (.int 1) = .ret (.bl r.2) := rfl
  have tr : (D.bl r.2).truth = .ret r.2 := rfl
  simp only [rb17, asI_int, dadd_int, cut, tupM1, tupM2, lstM1, aft cl, er, deq_int, asB_bl]
  by_cases z0 : way = 0
  · rw [decide_eq_true z0, if_pos rfl]
    rw [rng1_ev (by decide) (by decide)]
    simp only [rb17]
    have nf := nest_fold (ds := D.ints 0 (29 : Int).toNat) (n := 0)
    rw [ints_len] at nf
    simp only [lstM1, rb17] at nf
    rw [show D.lst [D.non] = nest 0 from rfl, nf]
    simp only [rb17, edd, lstM0, lstM1, tupM0, tupM1, tupM2, (show D.mul (nest 0) (.int n) = _ from mulN (show 0 ≤ n by omega) (show n ≤ 100000 by omega)), lst13]
    exact w_at3 rfl (by show 1 ≤ 13; decide) (by show 13 ≤ 1000; decide) fun s ms => .inr (thirteen (G := G) hdd h0 h1 s ms)
  rw [decide_eq_false z0, if_neg Bool.false_ne_true]
  have k1 : cutG (G.map rwD) none (some (k : Int)) = (G.map rwD).take k := cutG_lo _ _
  have k2 : cutG (G.map rwD) (some (k : Int)) none = (G.map rwD).drop k := cutG_hi _ _
  have k3 : cutG (G.map rwD) (some ((k : Int) + 1)) none = (G.map rwD).drop (k + 1) := cutG_hi _ (k + 1)
  simp only [k1, k2, k3, ad1, ad2, rb17, i0, i1, tr, tupM2, lstM1, M.assoc]
  by_cases z1 : way = 1
  · rw [decide_eq_true z1, if_pos rfl]
    exact seq (Nat.le_refl _) (rw17_good rW rL)
  rw [decide_eq_false z1, if_neg Bool.false_ne_true]
  by_cases z2 : way = 2
  · rw [decide_eq_true z2, if_pos rfl]
    exact seq (Nat.le_refl _) (rw17_good (r := (r.1, !r.2)) rW rL)
  rw [decide_eq_false z2, if_neg Bool.false_ne_true]
  by_cases z3 : way = 3
  · rw [decide_eq_true z3, if_pos rfl]
    refine wp_bind.mpr (w_odd_row rW rL fun d hd => ?_)
    exact seq (Nat.le_refl _) hd
  · rw [decide_eq_false z3, if_neg Bool.false_ne_true]
    refine wp_bind.mpr (w_odd_row rW rL fun d hd => ?_)
    exact seq (Nat.le_succ _) hd
theorem inO_ins {C : Addr} {l : List D → M D} {v : D} {ks : List Str} {ds : List D} : D.inO C l v (.ins C ks ds) = (l [.ins C ks ds, v]).bind fun z => z.asB.bind fun b => .ret (.bl b) := if_pos rfl
theorem perm_of_sub {α : Type} [DecidableEq α] : ∀ {F G : List α}, F.Nodup → (∀ x ∈ F, x ∈ G) → G.length = F.length → F.Perm G
  | [], G, _, _, hl => by
    rw [List.eq_nil_of_length_eq_zero hl]
  | x :: F, G, nd, h, hl => by
    obtain ⟨n1, n2⟩ := List.nodup_cons.mp nd
    have mx := h x (List.mem_cons_self ..)
    refine ((perm_of_sub (F := F) (G := G.erase x) n2 (fun y my => (List.mem_erase_of_ne fun e => n1 (by rw [← e]; exact my)).mpr (h y (List.mem_cons_of_mem _ my))) ?_).cons x).trans (List.perm_cons_erase mx).symm
    rw [List.length_erase_of_mem mx, hl]
    rfl
theorem rows_of {F : Rg} : ∀ {es : List D}, (∀ e ∈ es, e ∈ F.map rwD) → ∃ G : Rg, es = G.map rwD
  | [], _ => ⟨[], rfl⟩
  | e :: es, h => by
    obtain ⟨r, _, er⟩ := List.mem_map.mp (h e (List.mem_cons_self ..))
    obtain ⟨G, eG⟩ := rows_of (es := es) fun x m => h x (List.mem_cons_of_mem _ m)
    exact ⟨r :: G, by rw [← er, eG]; rfl⟩
theorem str_inj {x y : Str} (h : D.str x = .str y) : x = y := by
  injection h
theorem rwD_inj {r q : Nme × Bool} (h : rwD r = rwD q) : r = q := by
  unfold rwD at h
  injection h with h
  injection h with h1 h2
  injection h2 with h2 _
  injection h2 with h2
  injection h1 with h1
  exact Prod.ext ((List.map_inj_right fun x y e => str_inj e).mp h1) h2
theorem loop_unit {X : Type} {f : D → Unit → M (Fl Unit Unit)} : ∀ {ds : List D}, (∀ d ∈ ds, f d () = .ret (.nx ())) → M.loop (X := X) f ds () = .ret (.nx ())
  | [], _ => rfl
  | d :: ds, h => by
    unfold M.loop
    rw [h d (List.mem_cons_self ..)]
    exact loop_unit fun x m => h x (List.mem_cons_of_mem _ m)
end K17
namespace K17
open PySem PySem.Spec PyProof.Rows L2 VB
variable {P : Program} {w : World} {K : PySem.W.Frag} {mg : Str → Option Value} {base : Heap} {a : Ad}
noncomputable def v4 (c : Cl) (good1064 : D) : M (Fl Unit Unit) := ((((((((((M.ret good1064)).bind D.items)).bind fun ds1168 => (M.cm (fun y1160 => D.un2 y1160 fun name_here1158 flag1159 => ((((((((M.ret name_here1158)).bind fun a1162 => ((((M.ret good1064)).bind fun a1161 => m_Region_init c a1161)).bind fun b1163 => D.inO c.Region (l_Region_contains c) a1162 b1163)).bind fun a1164 => ((M.ret flag1159)).bind fun b1165 => D.ne a1164 b1165)).bind D.asB)).bind fun k1166 => if k1166 = true then ((M.ret name_here1158)).bind fun y1167 => .ret (some y1167) else .ret none) ds1168).bind fun es1169 => .ret (.lst es1169))).bind fun a1170 => ((D.lstM [])).bind fun b1171 => D.ne a1170 b1171)).bind D.asB)).bind fun k1172 => if k1172 = true then ((M.ret (D.bl false))).bind fun r1173 => M.ret (Fl.rt r1173) else (M.ret (Fl.nx ()))
noncomputable def v3 (c : Cl) (found1116 : D) (name_here1146 : D) (flag1147 : D) : M (Fl Unit Unit) := ((((((((M.ret name_here1146)).bind fun a1151 => ((M.ret found1116)).bind fun b1152 => D.inO c.Region (l_Region_contains c) a1151 b1152)).bind fun a1153 => ((M.ret flag1147)).bind fun b1154 => D.ne a1153 b1154)).bind D.asB)).bind fun k1155 => if k1155 = true then ((M.ret (D.bl false))).bind fun r1156 => M.ret (Fl.rt r1156) else (M.ret (Fl.nx ()))
noncomputable def v2 (c : Cl) (good1064 : D) (s1103 : D) (shown1112 : D) (word1115 : D) (found1116 : D) : M (Fl Unit Unit) := ((M.or2 (((((((M.ret s1103)).bind fun a1118 => (M.one D.reprE) [a1118])).bind fun a1119 => ((M.ret shown1112)).bind fun b1120 => D.ne a1119 b1120)).bind D.asB) (((((((M.ret word1115)).bind fun a1121 => ((M.ret (D.str "made"))).bind fun b1122 => D.eq a1121 b1122)).bind fun a1124 => ((((M.ret s1103)).bind fun a1123 => m_law_is_good c a1123)).bind fun b1125 => D.ne a1124 b1125)).bind D.asB))).bind fun k1126 => if k1126 = true then ((M.ret (D.bl false))).bind fun r1127 => M.ret (Fl.rt r1127) else ((M.and2 (((((M.ret word1115)).bind fun a1128 => ((M.ret (D.str "refused"))).bind fun b1129 => D.eq a1128 b1129)).bind D.asB) (((((((M.ret found1116)).bind fun a1130 => (M.one D.reprM) [a1130])).bind fun a1131 => ((M.ret (D.str "0"))).bind fun b1132 => D.ne a1131 b1132)).bind D.asB))).bind fun k1133 => if k1133 = true then ((M.ret (D.bl false))).bind fun r1134 => M.ret (Fl.rt r1134) else (((((((M.ret word1115)).bind fun a1140 => ((M.ret (D.str "made"))).bind fun b1141 => D.eq a1140 b1141)).bind D.asB)).bind fun k1142 => if k1142 = true then ((((M.ret s1103)).bind D.items)).bind fun ds1149 => (M.loop (X := Unit) (fun ys1144 (s1144 : Unit) => (fun y1148 => D.un2 y1148 fun name_here1146 flag1147 => (v3 c found1116 name_here1146 flag1147)) ys1144) ds1149 ()).bind (Fl.toS fun s1150 => (M.ret (Fl.nx ()))) else (M.ret (Fl.nx ()))).bind (Fl.toS fun s1138 => (v4 c good1064))
noncomputable def v1 (c : Cl) (good1064 : D) (s1103 : D) : M (Fl Unit Unit) := ((((M.ret s1103)).bind fun a1113 => (M.one D.reprE) [a1113])).bind fun shown1112 => ((((M.ret s1103)).bind fun a1114 => m_law_tried c a1114)).bind (fun y1117 => D.un2 y1117 fun word1115 found1116 => (v2 c good1064 s1103 shown1112 word1115 found1116))
noncomputable def vs (c : Cl) (k1061 : D) (s1071 : D) : M (D) := ((M.and2 (((((M.ret s1071)).bind fun a1076 => ((M.ret (D.ty "list"))).bind fun a1077 => (M.two D.isiE) [a1076, a1077])).bind D.asB) (((((((((M.ret s1071)).bind D.items)).bind fun ds1083 => (M.cm (fun row1079 => ((M.not1 (((((M.ret row1079)).bind fun a1080 => m_law_is_row a1080)).bind D.asB))).bind fun k1081 => if k1081 = true then ((M.ret row1079)).bind fun y1082 => .ret (some y1082) else .ret none) ds1083).bind fun es1084 => .ret (.lst es1084))).bind fun a1085 => ((D.lstM [])).bind fun b1086 => D.eq a1085 b1086)).bind D.asB))).bind fun k1087 => if k1087 = true then ((((M.ret s1071)).bind fun a1096 => ((((((M.ret (D.int 900))).bind fun a1089 => ((M.ret (D.int 19990))).bind fun a1090 => D.lstM [a1089, a1090])).bind fun a1094 => ((((((M.ret k1061)).bind fun a1091 => ((M.ret (D.int 0))).bind fun b1092 => D.eq a1091 b1092)).bind fun a1093 => (M.one D.toInt) [a1093])).bind fun b1095 => D.ixA a1094 b1095)).bind fun a1097 => m_law_spoilt a1096 a1097)).bind fun thing1088 => (M.ret thing1088) else (M.ret s1071)
noncomputable def v0 (c : Cl) (labels_here1054 : D) (k1061 : D) : M (Fl Unit Unit) := ((((((((M.ret labels_here1054)).bind fun a1065 => ((M.ret (D.int 6))).bind fun a1066 => m_law_drawn_flags a1065 a1066)).bind D.listItems)).bind fun a1067 => m_law_mixed a1067)).bind fun good1064 => ((((M.ret good1064)).bind fun a1069 => (M.one D.toLstA) [a1069])).bind fun thing1068 => ((((((M.ret (D.int 3))).bind D.takeM)).bind fun a1070 => D.rng1 [a1070])).bind fun ds1074 => (M.fold (fun ys1071 (s1071 : D) => (fun time1073 => (vs c k1061 s1071)) ys1071) ds1074 thing1068).bind fun s1075 => (((M.and2 (((((M.ret s1075)).bind fun a1105 => ((M.ret (D.ty "list"))).bind fun a1106 => (M.two D.isiE) [a1105, a1106])).bind D.asB) (((((((M.ret (D.int 4))).bind D.takeM)).bind fun a1107 => ((M.ret (D.int 0))).bind fun b1108 => D.eq a1107 b1108)).bind D.asB))).bind fun k1109 => if k1109 = true then ((((M.ret s1075)).bind fun a1111 => (M.one D.toTup) [a1111])).bind fun thing1110 => (M.ret thing1110) else (M.ret s1075) : M (D)).bind fun s1103 => (v1 c good1064 s1103)
theorem law_eq (c : Cl) : m_law c = (((((((M.ret (D.int 2))).bind fun a1055 => ((((M.ret (D.int 2))).bind D.takeM)).bind fun b1056 => D.add a1055 b1056)).bind fun a1057 => m_law_labels a1057)).bind fun labels_here1054 => ((((M.ret (D.int 16))).bind fun a1058 => D.rng1 [a1058])).bind fun ds1062 => (M.loop (X := Empty) (fun ys1059 (s1059 : Unit) => (fun k1061 => (v0 c labels_here1054 k1061)) ys1059) ds1062 ()).bind (Fl.toF fun s1063 => (M.ret (D.bl true)))) := rfl
theorem e_init {c : Cl} {b : Bool} {G : Rg} (h : m_are_flagged c (seqA b (G.map rwD)) = .ret (.bl true)) (nd : NdF G) (hw : WdF G) (hl : G.length < 63) (hn : ∀ r ∈ G, r.1.length ≤ 1000000) : m_Region_init c (seqA b (G.map rwD)) = .ret (regD c G) := by
  unfold m_Region_init
  simp only [M.ret_bind, h, M.not1, asB_bl, Bool.not_true, Bool.false_eq_true, if_false, items_seqA]
  have z := e_rdict nd (Nat.lt_trans hl (by decide))
  simp only [M.ret_bind] at z
  rw [z]
  simp only [M.ret_bind, e_needed nd hw (Nat.lt_trans hl (by decide)) hn]
  exact setF_ev ⟨fun m => (nomatch m), by show 0 < 1000; decide⟩
theorem e_initx {c : Cl} {b : Bool} {G : Rg} (h : m_are_flagged c (seqA b (G.map rwD)) = .ret (.bl true)) (nd : NdF G) (hw : WdF G) (hl : G.length < 63) (hn : ∀ r ∈ G, r.1.length ≤ 1000000) : mx_Region_init c (seqA b (G.map rwD)) = .ret (.ok (regD c G)) := by
  unfold mx_Region_init
  simp only [M.ret_bind, h, M.not1, asB_bl, Bool.not_true, Bool.false_eq_true, if_false, items_seqA]
  have z := e_rdict nd (Nat.lt_trans hl (by decide))
  simp only [M.ret_bind] at z
  rw [z]
  simp only [M.ret_bind, e_needed nd hw (Nat.lt_trans hl (by decide)) hn]
  unfold M.ok
  have sf : ∀ k : D → M D, D.setF c.Region "kept_flags" (D.ins c.Region [] []) (rgD (needF G)) k = k (regD c G) := fun k => setF_ev ⟨fun m => (nomatch m), by show 0 < 1000; decide⟩
  rw [sf, M.ret_bind]
theorem e_refused {c : Cl} {s : D} (h : m_are_flagged c s = .ret (.bl false)) : mx_Region_init c s = .ret (.ex c.Wrong "place" (.int 0)) := by
  unfold mx_Region_init
  simp only [M.ret_bind, h, M.not1, asB_bl, Bool.not_false, if_true]
theorem tried_ok {c : Cl} {s d : D} (h : mx_Region_init c s = .ret (.ok d)) : m_law_tried c s = .ret (.tup [.str "made", d]) := by
  unfold m_law_tried M.tryAs
  simp only [M.ret_bind, h, Xr.next, Xr.then]
theorem tried_no {c : Cl} {s : D} (h : mx_Region_init c s = .ret (.ex c.Wrong "place" (.int 0))) : m_law_tried c s = .ret (.tup [.str "refused", .int 0]) := by
  unfold m_law_tried M.tryAs
  simp only [M.ret_bind, h, Xr.next, Xr.then]
  rw [if_pos (by simp), tupM2]
theorem flag_own {F : Rg} {r : Nme × Bool} (nd : NdF F) (m : r ∈ F) : flagOf F r.1 = r.2 := by
  rw [flagOf_under, lkF_of nd (show (r.1, r.2) ∈ F from m)]
theorem in_own {c : Cl} {F : Rg} {r : Nme × Bool} (nd : NdF F) (hl : r.1.length ≤ 1000000) (m : r ∈ F) : D.inO c.Region (l_Region_contains c) (nm r.1) (regD c F) = .ret (.bl r.2) := by
  have e : l_Region_contains c [regD c F, nm r.1] = .ret (.bl r.2) := (e_rcontains nd hl).trans (by rw [flag_own nd m])
  have z := inO_ins (C := c.Region) (l := l_Region_contains c) (v := nm r.1) (ks := ["kept_flags"]) (ds := [rgD (needF F)])
  refine Eq.trans z ?_
  rw [show (D.ins c.Region ["kept_flags"] [rgD (needF F)]) = regD c F from rfl, e]
  rfl
/-- good rows, as a list -/
structure Gd (c : Cl) (b : Bool) (G : Rg) : Prop where
  are : m_are_flagged c (seqA b (G.map rwD)) = .ret (.bl true)
  good : m_law_is_good c (seqA b (G.map rwD)) = .ret (.bl true)
theorem gd_of {c : Cl} {b : Bool} {G : Rg} (nd : NdF G) (hw : WdF G) (hl : G.length < 63) : Gd c b G := by
  obtain ⟨v, h1, h2, h3⟩ := e_are (c := c) (b := b) (ds := G.map rwD) (fun d m => by
    obtain ⟨r, mr, rfl⟩ := List.mem_map.mp m
    exact rw_ok (hw r mr)) (fun _ => by rw [List.length_map]; exact hl)
  have hv := h3.mpr ⟨G, rfl, hw, nd⟩
  subst hv
  exact ⟨h1, h2⟩
theorem v4_ev {c : Cl} {G : Rg} (nd : NdF G) (hw : WdF G) (hl : G.length < 63) (hn : ∀ r ∈ G, r.1.length ≤ 1000000) : v4 c (.lst (G.map rwD)) = .ret (.nx ()) := by
  have gd := gd_of (c := c) (b := true) nd hw hl
  have ei : m_Region_init c (.lst (G.map rwD)) = .ret (regD c G) := e_init gd.are nd hw hl hn
  unfold v4
  simp only [M.ret_bind, D.items]
  rw [cm_ret2 (g := rwD) (f := fun _ => none) ?hk]
  case hk =>
    intro r m
    simp only [show ∀ k : D → D → M (Option D), D.un2 (rwD r) k = k (nm r.1) (.bl r.2) from fun _ => rfl, M.ret_bind, ei, in_own nd (hn r m) m, dne_bl, decide_true, Bool.not_true, asB_bl, Bool.false_eq_true, if_false]
  have e0 : ∀ xs : Rg, xs.filterMap (fun _ => (none : Option D)) = [] := fun xs => by
    induction xs with
    | nil => rfl
    | cons x xs ih => rw [List.filterMap_cons_none rfl, ih]
  have nn : D.ne (.lst []) (.lst []) = .ret (.bl false) := rfl
  rw [e0]
  simp only [M.ret_bind, lstM0, nn, asB_bl, Bool.false_eq_true, if_false]
theorem v1_ev {c : Cl} {good s : D} (h : Fin17 c s) (h4 : v4 c good = .ret (.nx ())) : v1 c good s = .ret (.nx ()) := by
  obtain ⟨z, ez⟩ := h.rp
  obtain ⟨v, a1, a2, a3⟩ := h.lk
  have un : ∀ (x y : D) (k : D → D → M (Fl Unit Unit)), D.un2 (.tup [x, y]) k = k x y := fun _ _ _ => rfl
  have nz : D.ne (.str z) (.str z) = .ret (.bl false) := by rw [dne_str, decide_eq_true rfl]; rfl
  cases v with
  | false =>
    have e1 : D.eq (.str "refused") (.str "made") = .ret (.bl false) := by rw [deq_str, decide_eq_false (by decide)]
    have e2 : D.eq (.str "refused") (.str "refused") = .ret (.bl true) := by rw [deq_str, decide_eq_true rfl]
    have e3 : D.ne (.bl false) (.bl false) = .ret (.bl false) := rfl
    have e4 : D.reprM (.int 0) = .ret (.str "0") := by
      rw [rp60 ((Fit.int (i := 0) (by decide)).mono (by decide) (by decide))]
      congr 1
    have e5 : D.ne (.str "0") (.str "0") = .ret (.bl false) := by rw [dne_str, decide_eq_true rfl]; rfl
    unfold v1
    simp only [M.ret_bind, M.one, ez, tried_no (e_refused a1), un]
    unfold v2
    simp only [M.ret_bind, M.one, ez, nz, asB_bl, M.or2, M.and2, e1, a2, e3, e2, e4, e5, Bool.false_eq_true, if_false, if_true, Fl.toS]
    exact h4
  | true =>
    obtain ⟨b, G, rfl, hw, nd, hl, hn⟩ := a3 rfl
    have e1 : D.eq (.str "made") (.str "made") = .ret (.bl true) := by rw [deq_str, decide_eq_true rfl]
    have e2 : D.eq (.str "made") (.str "refused") = .ret (.bl false) := by rw [deq_str, decide_eq_false (by decide)]
    have e3 : D.ne (.bl true) (.bl true) = .ret (.bl false) := rfl
    have lp : ∀ f : D → Unit → M (Fl Unit Unit), (∀ r ∈ G, f (rwD r) () = .ret (.nx ())) → M.loop (X := Unit) f (G.map rwD) () = .ret (.nx ()) := fun f hf => loop_unit fun d m => by
      obtain ⟨r, mr, rfl⟩ := List.mem_map.mp m
      exact hf r mr
    unfold v1
    simp only [M.ret_bind, M.one, ez, tried_ok (e_initx a1 nd hw hl hn), un]
    unfold v2
    simp only [M.ret_bind, M.one, ez, nz, asB_bl, M.or2, M.and2, e1, a2, e3, e2, Bool.false_eq_true, if_false, if_true, items_seqA]
    rw [lp _ fun r m => ?hv]
    case hv =>
      show v3 c (regD c G) (nm r.1) (.bl r.2) = _
      unfold v3
      simp only [M.ret_bind, in_own nd (hn r m) m, dne_bl, decide_true, Bool.not_true, asB_bl, Bool.false_eq_true, if_false]
    simp only [M.ret_bind, Fl.toS]
    exact h4
/-- one turn of the fold -/
theorem w_vs {c : Cl} {s : D} {i : Nat} {k : Int} (hi : i ≤ 3) (h : St17 c i s) : wp (vs c (.int k) s) (St17 c (i + 1)) := by
  have en : ∀ xs : List D, D.eq (.lst xs) (.lst []) = .ret (.bl xs.isEmpty) := fun _ => rfl
  have up : ∀ {ds : List D}, (∀ d ∈ ds, Rw17 d) → ds.length ≤ 6 + i → St17 c (i + 1) (.lst ds) := fun {ds} h1 h2 => .inl ⟨ds, rfl, h1, by omega⟩
  have look : ∀ ds : List D, (∀ d ∈ ds, okR d) → M.cm (fun row => (M.not1 ((m_law_is_row row).bind D.asB)).bind fun k => if k = true then M.ret (some row) else M.ret none) ds = .ret (ds.filter fun z => !rowB z) := fun ds h => cm_bad fun d m => by
    simp only [e_lrow_any (h d m), rb17, asB_bl, M.not1]
    cases rowB d <;> rfl
  rcases h with ⟨ds, rfl, h1, h2⟩ | h
  · have il : D.isiE (.lst ds) (.ty "list") = .ret (.bl true) := rfl
    unfold vs
    simp only [rb17, M.two, il, asB_bl, M.and2, if_true, D.items]
    rw [look ds fun d m => (h1 d m).ok]
    simp only [rb17, lstM0, en, bad_empty, asB_bl]
    by_cases a : ds.all rowB = true
    · rw [if_pos a]
      obtain ⟨G, rfl, hG⟩ := all_rw a
      have hn : ∀ r ∈ G, r.1.length ≤ 6 := fun r m => by
        obtain ⟨q, e, _, q2⟩ := (h1 _ (List.mem_map_of_mem m)).g (rw_good (hG r m))
        rw [rwD_inj e]
        exact q2
      rw [List.length_map] at h2
      simp only [lstM2, rb17, deq_int, M.one]
      have ti : ∀ b : Bool, D.toInt (.bl b) = .ret (.int (if b = true then 1 else 0)) := fun _ => rfl
      rw [ti]
      simp only [rb17]
      by_cases z : k = 0
      · rw [decide_eq_true z, if_pos rfl]
        rw [show D.ixA (.lst [.int 900, .int 19990]) (.int 1) = .ret (.int 19990) from rfl]
        simp only [rb17]
        refine wp_bind.mpr (wp_mono (w_spoilt hG hn h2 hi (by decide) (by decide)) fun d hd => hd)
      · rw [decide_eq_false z, if_neg Bool.false_ne_true]
        rw [show D.ixA (.lst [.int 900, .int 19990]) (.int 0) = .ret (.int 900) from rfl]
        simp only [rb17]
        refine wp_bind.mpr (wp_mono (w_spoilt hG hn h2 hi (by decide) (by decide)) fun d hd => hd)
    · rw [if_neg a]
      exact up h1 h2
  · obtain ⟨l, e, hl⟩ := h.isl
    cases l with
    | false =>
      unfold vs
      simp only [rb17, M.two, e, asB_bl, M.and2, Bool.false_eq_true, if_false]
      exact .inr h
    | true =>
      obtain ⟨ds, rfl, ha, ho, _⟩ := hl rfl
      unfold vs
      simp only [rb17, M.two, e, asB_bl, M.and2, if_true, D.items]
      rw [look ds ho]
      simp only [rb17, lstM0, en, bad_empty, asB_bl, ha, Bool.false_eq_true, if_false]
      exact .inr h
theorem fin_of {c : Cl} {i : Nat} {s : D} (hi : i ≤ 3) (h : St17 c i s) : Fin17 c s := by
  rcases h with ⟨ds, rfl, h1, h2⟩ | h
  · exact fin_lst (fun d m => (h1 d m).ok) (fun _ => by omega) ((Fit.lst (l := 9) (fun d m => (h1 d m).ft) (by omega)).mono (by decide) (by decide))
  · exact h.fin
theorem isl_of {c : Cl} {i : Nat} {s : D} (hi : i ≤ 3) (h : St17 c i s) : ∃ l, D.isiE s (.ty "list") = .ret (.bl l) ∧ (l = true → ∃ ds, s = .lst ds ∧ Fin17 c (.tup ds)) := by
  rcases h with ⟨ds, rfl, h1, h2⟩ | h
  · exact ⟨true, rfl, fun _ => ⟨ds, rfl, fin_tup (fun d m => (h1 d m).ok) (fun _ => by omega) ((Fit.tup (l := 9) (fun d m => (h1 d m).ft) (by omega) (by decide)).mono (by decide) (by decide))⟩⟩
  · obtain ⟨l, e, hl⟩ := h.isl
    refine ⟨l, e, fun z => ?_⟩
    obtain ⟨ds, e1, _, _, f⟩ := hl z
    exact ⟨ds, e1, f⟩
theorem main (c : Cl) (_ : c.Region ∈ c.all) : wp (m_law c) fun d => d = .bl true := by
  rw [law_eq]
  simp only [M.ret_bind, M.assoc]
  refine wp_take (by decide) (by decide) fun r r0 r1 => ?_
  simp only [dadd_int, M.ret_bind]
  refine wp_bind.mpr (w_labels (by omega) (by omega) fun ws hl hw => ?_)
  rw [rng1_ev (by decide) (by decide)]
  simp only [M.ret_bind]
  refine wp_bind.mpr (wp_loop (I := fun _ => True) trivial (fun d md s _ => ?_) fun s _ => rfl)
  obtain ⟨k, rfl⟩ : ∃ k : Int, d = .int k := by
    unfold D.ints at md
    obtain ⟨j, _, rfl⟩ := List.mem_map.mp md
    exact ⟨_, rfl⟩
  show wp (v0 c (.lst (ws.map D.str)) (.int k)) _
  unfold v0
  simp only [M.ret_bind, M.assoc]
  refine wp_bind.mpr (w_drawn (N := 6) (by decide) (by omega) (by omega) fun F dF lF => ?_)
  rw [listItems_rg, M.ret_bind]
  refine wp_bind.mpr (w_mixed (b := true) (by rw [List.length_map]; omega) fun es hle hme => ?_)
  obtain ⟨G, rfl⟩ := rows_of fun e m => (hme e).mp m
  rw [List.length_map, List.length_map] at hle
  have mem : ∀ r, r ∈ G ↔ r ∈ F := fun r => by
    have := hme (rwD r)
    constructor
    · intro m
      obtain ⟨q, mq, e⟩ := List.mem_map.mp (this.mp (List.mem_map_of_mem m))
      rw [← rwD_inj e]
      exact mq
    · intro m
      obtain ⟨q, mq, e⟩ := List.mem_map.mp (this.mpr (List.mem_map_of_mem m))
      rw [← rwD_inj e]
      exact mq
  have nF : F.Nodup := List.Pairwise.of_map Prod.fst (fun _ _ h e => h (by rw [e])) dF.nd
  have pm : F.Perm G := perm_of_sub nF (fun x m => (mem x).mpr m) hle
  have nG : NdF G := (pm.map Prod.fst).nodup_iff.mp dF.nd
  have wG : WdF G := fun r m x mx => hw x (dF.wd r ((mem r).mp m) x mx)
  have lG : ∀ r ∈ G, r.1.length ≤ 6 := fun r m => dF.len r ((mem r).mp m)
  have h4 : v4 c (.lst (G.map rwD)) = .ret (.nx ()) := v4_ev nG wG (by omega) fun r m => by
    have := lG r m
    omega
  have tl : D.toLstA (.lst (G.map rwD)) = .ret (.lst (G.map rwD)) := rfl
  simp only [M.one, tl, M.ret_bind]
  refine wp_take (by decide) (by decide) fun t t0 t1 => ?_
  rw [rng1_ev t0 (by omega), M.ret_bind]
  refine wp_bind.mpr (wp_fold (I := fun i s => St17 c i s) 0 (.inl ⟨_, rfl, fun d m => ?_, by rw [List.length_map]; omega⟩) (fun j d s hj hs => ?_) fun s hs => ?_)
  · obtain ⟨r, mr, rfl⟩ := List.mem_map.mp m
    exact rw17_good (wG r mr) (lG r mr)
  · have hj2 := (List.getElem?_eq_some_iff.mp hj).1
    rw [ints_len] at hj2
    exact w_vs (by omega) hs
  · rw [ints_len] at hs
    have fin := fin_of (show 0 + t.toNat ≤ 3 by omega) hs
    have last : ∀ s', Fin17 c s' → wp (v1 c (.lst (G.map rwD)) s') fun o => ∃ s'', (o = .nx s'' ∨ o = .ct s'') ∧ True := fun s' f => by
      refine wp_mono ?_ fun o (ho : o = .nx ()) => ⟨(), .inl ho, trivial⟩
      rw [v1_ev f h4]
      exact rfl
    obtain ⟨l, e, hl⟩ := isl_of (show 0 + t.toNat ≤ 3 by omega) hs
    simp only [M.two, e, M.ret_bind, asB_bl, M.and2]
    cases l with
    | false =>
      simp only [Bool.false_eq_true, if_false, M.ret_bind]
      exact last s fin
    | true =>
      obtain ⟨ds, rfl, ft⟩ := hl rfl
      simp only [if_true, M.assoc]
      refine wp_take (by decide) (by decide) fun q q0 q1 => ?_
      simp only [deq_int, M.ret_bind, asB_bl]
      by_cases z : q = 0
      · rw [decide_eq_true z, if_pos rfl]
        exact last _ ft
      · rw [decide_eq_false z, if_neg Bool.false_ne_true]
        exact last _ fin
end K17
namespace K17
open PySem PySem.Spec PyProof.Rows L2 VB
variable {P : Program} {w : World} {K : PySem.W.Frag} {mg : Str → Option Value} {base : Heap} {a : Ad}
theorem facts {P : Program} {w : World} {K : PySem.W.Frag} {h : Heap} {mg : Str → Option Value} {f : Addr} (X : K.In h) (G : h.Ns mainGlobals mg) (hfa : mg ("law" : Str) = some (.ref f)) (c : SaysQ ex fa fn K) :
    ∃ fd : FuncData, (∀ (s : Shared) (v : Value), BindsTo s fd ⟨[v], []⟩ [("_law_script", v)]) ∧ ∀ base : Heap, K.In base → base.Ns mainGlobals mg → FnG P w K mg base CX0 8 f fd ["_law_script"] (spLaw K) := by
  obtain ⟨d0, F0⟩ := c.def_ 0 (d := dq_Wrong_init) rfl
  obtain ⟨d1, F1⟩ := c.def_ 1 (d := dq_is_word) rfl
  obtain ⟨d2, F2⟩ := c.def_ 2 (d := dq_is_name) rfl
  obtain ⟨d3, F3⟩ := c.def_ 3 (d := dq_is_flagged) rfl
  obtain ⟨d4, F4⟩ := c.def_ 4 (d := dq_are_flagged) rfl
  obtain ⟨d5, F5⟩ := c.def_ 5 (d := dq_flag_at) rfl
  obtain ⟨d6, F6⟩ := c.def_ 6 (d := dq_needed_flags) rfl
  obtain ⟨d7, F7⟩ := c.def_ 7 (d := dq_Region_init) rfl
  obtain ⟨d8, F8⟩ := c.def_ 8 (d := dq_Region_contains) rfl
  obtain ⟨d9, F9⟩ := c.def_ 9 (d := dq_law_bag) rfl
  obtain ⟨d10, F10⟩ := c.def_ 10 (d := dq_law_take) rfl
  obtain ⟨d11, F11⟩ := c.def_ 11 (d := dq_law_mixed) rfl
  obtain ⟨d12, F12⟩ := c.def_ 12 (d := dq_law_labels) rfl
  obtain ⟨d13, F13⟩ := c.def_ 13 (d := dq_law_name) rfl
  obtain ⟨d14, F14⟩ := c.def_ 14 (d := dq_law_drawn_flags) rfl
  obtain ⟨d15, F15⟩ := c.def_ 15 (d := dq_law_is_word) rfl
  obtain ⟨d16, F16⟩ := c.def_ 16 (d := dq_law_is_row) rfl
  obtain ⟨d17, F17⟩ := c.def_ 17 (d := dq_law_is_good) rfl
  obtain ⟨d18, F18⟩ := c.def_ 18 (d := dq_law_odd_row) rfl
  obtain ⟨d19, F19⟩ := c.def_ 19 (d := dq_law_spoilt) rfl
  obtain ⟨d20, F20⟩ := c.def_ 20 (d := dq_law_tried) rfl
  obtain ⟨d21, F21⟩ := c.def_ 21 (d := dq_law) rfl
  obtain ⟨t0, g0⟩ := He.str_ok X G (c.fact 24 (f := .str "LETTERS" "abcdefghijklmnopqrstuvwxyz") rfl)
  obtain ⟨t1, g1⟩ := He.int_ok X G (c.fact 25 (f := .int "MOST_LETTERS" 8) rfl)
  obtain ⟨ds7, vd7, bd7⟩ := F7.binds1 (ps := ["self", "rows"]) 2 1 (List.cons_ne_nil _ _) rfl fun _ _ _ _ _ _ _ us its hl hi => match us, its, hl, hi with | [_, _], [_], _, _ => ⟨_, rfl, rfl⟩
  have ed7 : ds7 = [] := by
    cases vd7
    rfl
  subst ed7
  have ef := hfa.symm.trans (He.glo_ok X G (c.fact 18 (f := .glo "law") rfl))
  cases ef
  let a : Ad := ⟨{ all := [He.ga K "Region"], Bag := 0, Store := 0, Question := 0, Book := 0, Carry := 0, Days := 0, Desk := 0, VouchError := He.ga K "VouchError", Wrong := He.ga K "Wrong", TooMany := He.ga K "TooMany", Unfit := He.ga K "Unfit", NoDeed := 0, Unknown := 0, Taken := 0, Nothing := 0, Broken := 0, NoText := 0, NoCommand := 0, Archive := 0, Limits := 0, Paper := 0, Anchor := 0, Notice := 0, Piece := 0, Setting := 0, Pledge := 0, Region := He.ga K "Region", State := 0, w := w }, atM "Wrong" "__init__" K, d0, atG "is_word" K, d1, atG "is_name" K, d2, atG "is_flagged" K, d3, atG "are_flagged" K, d4, atG "flag_at" K, d5, atG "needed_flags" K, d6, atM "Region" "__init__" K, d7, atM "Region" "__contains__" K, d8, atG "_law_bag" K, d9, atG "_law_take" K, d10, atG "_law_mixed" K, d11, atG "_law_labels" K, d12, atG "_law_name" K, d13, atG "_law_drawn_flags" K, d14, atG "_law_is_word" K, d15, atG "_law_is_row" K, d16, atG "_law_is_good" K, d17, atG "_law_odd_row" K, d18, atG "_law_spoilt" K, d19, atG "_law_tried" K, d20, atG "law" K, d21, He.dflAt ("Region", some "__init__") 0 K, t0, t1⟩
  have kc0 : VB.KC K a.c.all := clB_ok (c.ext 0 (f := clB ["Region"]) rfl)
  have T0 : Tx0 w K mg a := ⟨F0,
    F0.bindsN fun _ _ _ _ _ _ us hl => match us, hl with | [_, _], _ => rfl,
    F1,
    He.glo_ok X G (c.fact 0 (f := .glo "is_word") rfl),
    F1.kp,
    F1.bindsN fun _ _ _ _ _ _ us hl => match us, hl with | [_], _ => rfl,
    F2,
    He.glo_ok X G (c.fact 1 (f := .glo "is_name") rfl),
    F2.kp,
    F2.bindsN fun _ _ _ _ _ _ us hl => match us, hl with | [_], _ => rfl,
    F3,
    He.glo_ok X G (c.fact 2 (f := .glo "is_flagged") rfl),
    F3.kp,
    F3.bindsN fun _ _ _ _ _ _ us hl => match us, hl with | [_], _ => rfl,
    F4,
    He.glo_ok X G (c.fact 3 (f := .glo "are_flagged") rfl),
    F4.kp,
    F4.bindsN fun _ _ _ _ _ _ us hl => match us, hl with | [_], _ => rfl,
    F5,
    He.glo_ok X G (c.fact 4 (f := .glo "flag_at") rfl),
    F5.kp,
    F5.bindsN fun _ _ _ _ _ _ us hl => match us, hl with | [_, _], _ => rfl,
    F6,
    He.glo_ok X G (c.fact 5 (f := .glo "needed_flags") rfl),
    F6.kp,
    F6.bindsN fun _ _ _ _ _ _ us hl => match us, hl with | [_], _ => rfl,
    F7,
    bd7,
    F8,
    F8.bindsN fun _ _ _ _ _ _ us hl => match us, hl with | [_, _], _ => rfl,
    F9,
    He.glo_ok X G (c.fact 6 (f := .glo "_law_bag") rfl),
    F9.kp,
    F9.bindsN fun _ _ _ _ _ _ us hl => match us, hl with | [_], _ => rfl,
    F10,
    He.glo_ok X G (c.fact 7 (f := .glo "_law_take") rfl),
    F10.kp,
    F10.bindsN fun _ _ _ _ _ _ us hl => match us, hl with | [_, _], _ => rfl,
    F11,
    He.glo_ok X G (c.fact 8 (f := .glo "_law_mixed") rfl),
    F11.kp,
    F11.bindsN fun _ _ _ _ _ _ us hl => match us, hl with | [_, _], _ => rfl,
    F12,
    He.glo_ok X G (c.fact 9 (f := .glo "_law_labels") rfl),
    F12.kp,
    F12.bindsN fun _ _ _ _ _ _ us hl => match us, hl with | [_, _], _ => rfl,
    F13,
    He.glo_ok X G (c.fact 10 (f := .glo "_law_name") rfl),
    F13.kp,
    F13.bindsN fun _ _ _ _ _ _ us hl => match us, hl with | [_, _, _], _ => rfl⟩
  have T1 : Tx1 w K mg a := ⟨F14,
    He.glo_ok X G (c.fact 11 (f := .glo "_law_drawn_flags") rfl),
    F14.kp,
    F14.bindsN fun _ _ _ _ _ _ us hl => match us, hl with | [_, _, _], _ => rfl,
    F15,
    He.glo_ok X G (c.fact 12 (f := .glo "_law_is_word") rfl),
    F15.kp,
    F15.bindsN fun _ _ _ _ _ _ us hl => match us, hl with | [_], _ => rfl,
    F16,
    He.glo_ok X G (c.fact 13 (f := .glo "_law_is_row") rfl),
    F16.kp,
    F16.bindsN fun _ _ _ _ _ _ us hl => match us, hl with | [_], _ => rfl,
    F17,
    He.glo_ok X G (c.fact 14 (f := .glo "_law_is_good") rfl),
    F17.kp,
    F17.bindsN fun _ _ _ _ _ _ us hl => match us, hl with | [_], _ => rfl,
    F18,
    He.glo_ok X G (c.fact 15 (f := .glo "_law_odd_row") rfl),
    F18.kp,
    F18.bindsN fun _ _ _ _ _ _ us hl => match us, hl with | [_, _], _ => rfl,
    F19,
    He.glo_ok X G (c.fact 16 (f := .glo "_law_spoilt") rfl),
    F19.kp,
    F19.bindsN fun _ _ _ _ _ _ us hl => match us, hl with | [_, _, _], _ => rfl,
    F20,
    He.glo_ok X G (c.fact 17 (f := .glo "_law_tried") rfl),
    F20.kp,
    F20.bindsN fun _ _ _ _ _ _ us hl => match us, hl with | [_], _ => rfl,
    F21,
    He.glo_ok X G (c.fact 18 (f := .glo "law") rfl),
    F21.kp,
    F21.bindsN fun _ _ _ _ _ _ us hl => match us, hl with | [_], _ => rfl,
    etB_ok (c.ext 1 (f := etB ("Region", some "__init__") 0) rfl),
    kc0,
    rfl,
    .head _,
    kc0.cls _ (.head _),
    He.glo_ok X G (c.fact 19 (f := .glo "Region") rfl),
    He.glo_ok X G (c.fact 20 (f := .glo "TooMany") rfl),
    He.glo_ok X G (c.fact 21 (f := .glo "Unfit") rfl),
    He.glo_ok X G (c.fact 22 (f := .glo "VouchError") rfl),
    He.glo_ok X G (c.fact 23 (f := .glo "Wrong") rfl),
    He.noat_ok (c.fact 39 (f := .noat "Region" "kept_flags") rfl),
    He.meth_ok (c.fact 40 (f := .meth "Region" "__contains__") rfl),
    He.mkr_ok (c.fact 41 (f := .mkr "Region") rfl),
    g0,
    g1,
    He.free_ok X G (c.fact 26 (f := .free "abs") rfl),
    He.free_ok X G (c.fact 27 (f := .free "all") rfl),
    He.free_ok X G (c.fact 28 (f := .free "bool") rfl)⟩
  have T2 : Tx2 w K mg a := ⟨He.free_ok X G (c.fact 29 (f := .free "dict") rfl),
    He.free_ok X G (c.fact 30 (f := .free "int") rfl),
    He.free_ok X G (c.fact 31 (f := .free "isinstance") rfl),
    He.free_ok X G (c.fact 32 (f := .free "len") rfl),
    He.free_ok X G (c.fact 33 (f := .free "list") rfl),
    He.free_ok X G (c.fact 34 (f := .free "range") rfl),
    He.free_ok X G (c.fact 35 (f := .free "repr") rfl),
    He.free_ok X G (c.fact 36 (f := .free "set") rfl),
    He.free_ok X G (c.fact 37 (f := .free "str") rfl),
    He.free_ok X G (c.fact 38 (f := .free "tuple") rfl),
    c.all.1,
    erB_ok (c.ext 2 (f := erB "Wrong" "place") rfl),
    veB_ok (c.ext 3 (f := veB "VouchError") rfl),
    kiB_ok (c.ext 4 (f := kiB "Wrong" "VouchError" true) rfl),
    kaB_ok (c.ext 5 (f := kaB "Wrong" ["TooMany", "Unfit"] false) rfl)⟩
  have T : Tx w K mg a := ⟨T0, T1, T2⟩
  have bl := FunD.bindsA (ps := ["_law_script"]) F21 fun _ _ _ _ _ _ us hl => match us, hl with | [_], _ => rfl
  exact ⟨d21, fun s v => bl s [v] rfl, fun _ _ _ => ok_law T (main a.c (T.i_Region))⟩
end K17
open PySem PySem.W PySem.Calls PyProof.Rows
set_option maxRecDepth 100000 in
set_option maxHeartbeats 0 in
theorem PySem.Challenge.cw_vouchchains_k17_refused_holds : PySem.Challenge.rw_vouchchains_k17_refused.Holds := by
  refine K17.law0 fun said => ?_
  refine HandSHeadRun.head_any (r := OpenLaw.row PySem.Challenge.rw_vouchchains_k17_refused) (q := view (OpenLaw.row PySem.Challenge.rw_vouchchains_k17_refused).prog [34]) (H := K17.hk) (ob := K17.ob) (M := 20000) (loose := ["_wall", "VouchError", "Wrong", "TooMany", "Unfit", "LETTERS", "MOST_LETTERS", "is_word", "is_name", "begins", "is_flagged", "are_flagged", "flag_at", "needed_flags", "is_under", "Region", "cells", "_law_bag", "_law_take", "_law_mixed", "_law_labels", "_law_name", "_law_in", "_law_drawn_flags", "_law_is_word", "_law_is_row", "_law_is_good", "_law_odd_row", "_law_spoilt", "_law_tried"]) (d := HandSHeadRun.topDef (OpenLaw.row PySem.Challenge.rw_vouchchains_k17_refused).prog 34) (kwd := []) K17.ob_eq
    (by kernel_rfl) (fun s => by kernel_rfl) K17.run (by kernel_rfl) (by kernel_rfl) (by kernel_rfl) (by rfl) (by first | assumption | decide +kernel) (by decide +kernel) ⟨rfl, rfl, rfl, rfl, rfl, by decide +kernel⟩ ?hw ?hc
  case hw => w_witness2
  case hc =>
    refine VB.walk_G (l := PySem.Challenge.rw_vouchchains_k17_refused) (n := 63) (k := 8) (x := "_law_script") (CX := L2.CX0) rfl (by decide) (by kernel_rfl) ⟨rfl, by decide, by decide⟩ ?F (fun _ _ _ _ z => z)
    intro w mg fa h Y G hmg0
    obtain ⟨K, KX, c⟩ := Y
    have hmg : mg ("law" : PySem.Str) = some (.ref fa) := by
      have e : (HandSHeadRun.topDef (OpenLaw.row PySem.Challenge.rw_vouchchains_k17_refused).prog 34).name = ("law" : PySem.Str) := by kernel_rfl
      rw [← e]
      exact hmg0
    obtain ⟨fd, hb, hF⟩ := K17.facts (P := (PySem.Challenge.rw_vouchchains_k17_refused).prog) (w := w) KX G hmg c
    exact ⟨K, fd, VB.spLaw K, KX, hb, fun H a ns hl hO hS => VB.law_start hl hO hS, hF⟩
