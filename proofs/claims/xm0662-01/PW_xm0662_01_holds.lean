import PyProof.Rows.All
import Wide.All
import OpenK.AllK
import Wide.FinOn
import PySem.Challenge.RW_xm0662_01
open PySem PySem.W PyProof.Rows
set_option Elab.async false
set_option maxRecDepth 100000
set_option maxHeartbeats 8000000
set_option linter.unusedVariables false
set_option genInjectivity false
set_option genSizeOfSpec false
set_option compiler.extract_closed false
namespace Mine
structure Ph (n : Nat) : Prop
/-! the ledger: its lemmas -/
abbrev Led := List (Addr × Obj)
noncomputable def ND (l : Led) : Prop := (l.map (·.1)).Nodup
noncomputable def setL (d : Addr) (o : Obj) (l : Led) : Led := l.map fun p => if p.1 = d then (d, o) else p
theorem setL_keys (d : Addr) (o : Obj) (l : Led) : (setL d o l).map (·.1) = l.map (·.1) := by
  unfold setL
  rw [List.map_map]
  refine List.map_congr_left fun p _ => ?_
  show (if p.1 = d then (d, o) else p).1 = p.1
  split
  · rename_i h; exact h.symm
  · rfl
theorem setL_self {d : Addr} {o o' : Obj} {l : Led} (h : (d, o) ∈ l) : (d, o') ∈ setL d o' l :=
  List.mem_map.mpr ⟨(d, o), h, by simp⟩
theorem setL_ne {d : Addr} {o' : Obj} {l : Led} {e : Addr × Obj} (h : e ∈ l) (hn : e.1 ≠ d) : e ∈ setL d o' l :=
  List.mem_map.mpr ⟨e, h, by simp [hn]⟩
theorem setL_off {d : Addr} {o' : Obj} {l : Led} (h : ∀ p ∈ l, p.1 ≠ d) : setL d o' l = l := by
  unfold setL
  conv => rhs; rw [← List.map_id l]
  exact List.map_congr_left fun p hp => by simp [h p hp]
theorem ND.set {d : Addr} {o : Obj} {l : Led} (h : ND l) : ND (setL d o l) := by
  unfold ND at *; rw [setL_keys]; exact h
theorem ND.cons {d : Addr} {o : Obj} {l : Led} (h : ND l) (hl : ∀ p ∈ l, p.1 < d) : ND ((d, o) :: l) := by
  unfold ND at *
  rw [List.map_cons, List.nodup_cons]
  refine ⟨fun hm => ?_, h⟩
  obtain ⟨p, hp, e⟩ := List.mem_map.mp hm
  exact absurd (hl p hp) (by rw [e]; exact Nat.lt_irrefl _)
theorem ND.eq {a : Addr} {o o' : Obj} : ∀ {l : Led}, ND l → (a, o) ∈ l → (a, o') ∈ l → o = o'
  | [], _, h, _ => nomatch h
  | p :: r, n, h, h' => by
    unfold ND at n
    rw [List.map_cons, List.nodup_cons] at n
    rcases List.mem_cons.mp h with e | h
    · rcases List.mem_cons.mp h' with e' | h'
      · exact (Prod.mk.inj (e.trans e'.symm)).2
      · exact absurd (List.mem_map.mpr ⟨_, h', rfl⟩) (by subst e; exact n.1)
    · rcases List.mem_cons.mp h' with e' | h'
      · exact absurd (List.mem_map.mpr ⟨_, h, rfl⟩) (by subst e'; exact n.1)
      · exact ND.eq n.2 h h'
theorem upd_set {d : Addr} {o o' : Obj} : ∀ {l : Led}, ND l → (d, o) ∈ l → Upd d o o' l (setL d o' l)
  | [], _, h => nomatch h
  | p :: r, n, h => by
    unfold ND at n
    rw [List.map_cons, List.nodup_cons] at n
    rcases List.mem_cons.mp h with e | h
    · subst e
      have hr : ∀ q ∈ r, q.1 ≠ d := fun q hq e => n.1 (List.mem_map.mpr ⟨q, hq, e⟩)
      have e2 : setL d o' ((d, o) :: r) = (d, o') :: r := by
        show (if (d, o).1 = d then (d, o') else (d, o)) :: setL d o' r = _
        rw [setL_off hr, if_pos rfl]
      rw [e2]
      exact Upd.head hr
    · have hp : p.1 ≠ d := fun e => n.1 (List.mem_map.mpr ⟨_, h, e.symm⟩)
      have e2 : setL d o' (p :: r) = p :: setL d o' r := by
        show (if p.1 = d then (d, o') else p) :: setL d o' r = _
        rw [if_neg hp]
      rw [e2]
      exact Upd.tail hp (upd_set n.2 h)
theorem lt_set {d x : Addr} {o : Obj} {l : Led} (h : ∀ p ∈ l, p.1 < x) : ∀ p ∈ setL d o l, p.1 < x := by
  intro p hp
  have : p.1 ∈ (setL d o l).map (·.1) := List.mem_map.mpr ⟨p, hp, rfl⟩
  rw [setL_keys] at this
  obtain ⟨q, hq, e⟩ := List.mem_map.mp this
  rw [← e]; exact h q hq
theorem ne_up {x d : Addr} {o : Obj} {l : Led} (h : ∀ p ∈ l, p.1 < x) (hm : (d, o) ∈ l) : x ≠ d := fun e => absurd (h _ hm) (by rw [e]; exact Nat.lt_irrefl _)
theorem ne_dn {x d : Addr} {o : Obj} {l : Led} (h : ∀ p ∈ l, p.1 < x) (hm : (d, o) ∈ l) : d ≠ x := (ne_up h hm).symm
theorem lt_mem {x d : Addr} {o : Obj} {l : Led} (h : ∀ p ∈ l, p.1 < x) (hm : (d, o) ∈ l) : d < x := h _ hm
theorem ne_all {x : Addr} {l r : Led} (h : ∀ p ∈ l, p.1 < x) (hs : ∀ p ∈ r, p ∈ l) : ∀ p ∈ r, p.1 ≠ x := fun p hp => Nat.ne_of_lt (h p (hs p hp))
theorem lt_sub {x : Addr} {l r : Led} (h : ∀ p ∈ l, p.1 < x) (hs : ∀ p ∈ r, p ∈ l) : ∀ p ∈ r, p.1 < x := fun p hp => h p (hs p hp)
theorem use_sub {l l' : Led} {x : Addr × Obj} (h : ∀ e ∈ l, e ∈ l') (hm : x ∈ l) : x ∈ l' := h _ hm
theorem sub_cons {l l' : Led} {p : Addr × Obj} (h : ∀ e ∈ l, e ∈ l') : ∀ e ∈ l, e ∈ p :: l' := fun e he => .tail _ (h e he)
theorem sub_set {l l' : Led} {d : Addr} {o : Obj} (h : ∀ e ∈ l, e ∈ l') (hl : ∀ p ∈ l, p.1 < d) : ∀ e ∈ l, e ∈ setL d o l' := fun e he => setL_ne (h e he) (Nat.ne_of_lt (hl e he))
theorem sub_setn {l l' : Led} {d : Addr} {o : Obj} (h : ∀ e ∈ l, e ∈ l') (hl : ∀ p ∈ l, p.1 ≠ d) : ∀ e ∈ l, e ∈ setL d o l' := fun e he => setL_ne (h e he) (hl e he)
theorem sub_app {l l' blk : Led} (h : ∀ e ∈ l, e ∈ l') : ∀ e ∈ l, e ∈ blk ++ l' := fun e he => List.mem_append_right _ (h e he)
theorem upd_app {d : Addr} {o o' : Obj} {l l' : Led} (U : Upd d o o' l l') : ∀ {blk : Led}, (∀ p ∈ blk, p.1 ≠ d) → Upd d o o' (blk ++ l) (blk ++ l')
  | [], _ => U
  | p :: r, h => Upd.tail (h p (.head _)) (upd_app U fun q hq => h q (.tail _ hq))
theorem ne_obj {a b : Addr} {o o' : Obj} {l : Led} (nd : ND l) (h : (a, o) ∈ l) (h' : (b, o') ∈ l) (ho : o.cls ≠ o'.cls) : a ≠ b := by
  intro e
  subst e
  exact ho (congrArg Obj.cls (ND.eq nd h h'))
theorem ne_il {a b C d : Addr} {x : Array Value} {n : Nat} {l : Led} (nd : ND l) (h : (a, instObj C d) ∈ l) (h' : (b, listOf x n) ∈ l) : a ≠ b := ne_obj nd h h' (by intro h; cases h)
theorem ne_dl {a b : Addr} {es : List DictEntry} {k : Nat} {x : Array Value} {n : Nat} {l : Led} (nd : ND l) (h : (a, dictOf es k) ∈ l) (h' : (b, listOf x n) ∈ l) : a ≠ b := ne_obj nd h h' (by intro h; injection h with h; exact absurd h (by decide))
theorem ne_id {a b C d : Addr} {es : List DictEntry} {k : Nat} {l : Led} (nd : ND l) (h : (a, instObj C d) ∈ l) (h' : (b, dictOf es k) ∈ l) : a ≠ b := ne_obj nd h h' (by intro h; cases h)
/-- what stands apart from some places -/
noncomputable def Keep (l l' : Led) (ms : List Addr) : Prop := ∀ e ∈ l, e.1 ∉ ms → e ∈ l'
theorem Keep.refl {l : Led} {ms : List Addr} : Keep l l ms := fun _ h _ => h
theorem Keep.of_sub {l l' : Led} {ms : List Addr} (h : ∀ e ∈ l, e ∈ l') : Keep l l' ms := fun e he _ => h e he
theorem Keep.nil {l l' : Led} (h : Keep l l' []) : ∀ e ∈ l, e ∈ l' := fun e he => h e he (by simp)
theorem Keep.trans {l l' l'' : Led} {ms : List Addr} (h : Keep l l' ms) (k : Keep l' l'' ms) : Keep l l'' ms := fun e he hn => k e (h e he hn) hn
theorem Keep.mono {l l' : Led} {ms ms' : List Addr} (h : Keep l l' ms) (hs : ∀ a ∈ ms, a ∈ ms') : Keep l l' ms' := fun e he hn => h e he fun q => hn (hs _ q)
theorem Keep.set {d : Addr} {o : Obj} {l l' : Led} {ms : List Addr} (h : Keep l l' ms) (hd : d ∈ ms) : Keep l (setL d o l') ms := fun e he hn => setL_ne (h e he hn) fun q => hn (q ▸ hd)
theorem Keep.cons {p : Addr × Obj} {l l' : Led} {ms : List Addr} (h : Keep l l' ms) : Keep l (p :: l') ms := fun e he hn => .tail _ (h e he hn)

/-! nodes, the tree -/
structure TN where
  inst : Addr
  dict : Addr
  ch : Addr
  at_ : Addr
  ns : Addr
  dn : Nat
  h0 : Int
  h1 : Int
  h2 : Int
  h3 : Int
  h4 : Int
  h5 : Int
  h6 : Int
  h7 : Int
  h8 : Int
  t0 : Tok
  t1 : Tok
  t2 : Tok
  t3 : Tok
  t4 : Tok
  t5 : Tok
  t6 : Tok
  t7 : Tok
  t8 : Tok
  kind : Str
  name : Str
  uri : Str
  loc : Str
  val : Str
  k0 : Tok
  k1 : Tok
  k2 : Tok
  k3 : Tok
  k4 : Tok
  par : Value
  chV : List Value
  atV : List Value
  nsV : List Value
  chN : Nat
  atN : Nat
  nsN : Nat
  chI : List Int
  atI : List Int
  nsI : List Int
noncomputable def TN.ents (d : TN) : List DictEntry := [⟨d.h0, .str (Str.ofString "kind") d.t0, .str d.kind d.k0⟩, ⟨d.h1, .str (Str.ofString "name") d.t1, .str d.name d.k1⟩, ⟨d.h2, .str (Str.ofString "uri") d.t2, .str d.uri d.k2⟩,
  ⟨d.h3, .str (Str.ofString "local") d.t3, .str d.loc d.k3⟩, ⟨d.h4, .str (Str.ofString "value") d.t4, .str d.val d.k4⟩, ⟨d.h5, .str (Str.ofString "parent") d.t5, d.par⟩,
  ⟨d.h6, .str (Str.ofString "children") d.t6, .ref d.ch⟩, ⟨d.h7, .str (Str.ofString "attributes") d.t7, .ref d.at_⟩, ⟨d.h8, .str (Str.ofString "namespaces") d.t8, .ref d.ns⟩]
structure NodeL (news : Led) (d : TN) : Prop where
  inst : (d.inst, instObj 85 d.dict) ∈ news
  dict : (d.dict, dictOf d.ents d.dn) ∈ news
  ch : (d.ch, listOf d.chV.toArray d.chN) ∈ news
  at_ : (d.at_, listOf d.atV.toArray d.atN) ∈ news
  ns : (d.ns, listOf d.nsV.toArray d.nsN) ∈ news
  chI : IntsAre d.chV d.chI
  atI : IntsAre d.atV d.atI
  nsI : IntsAre d.nsV d.nsI
  chZ : d.chV.length < 1000
  atZ : d.atV.length < 1000
  nsZ : d.nsV.length < 1000
theorem NodeL.mono {news news' : Led} {d : TN} (h : NodeL news d) (k : ∀ e ∈ news, e ∈ news') : NodeL news' d :=
  ⟨k _ h.inst, k _ h.dict, k _ h.ch, k _ h.at_, k _ h.ns, h.chI, h.atI, h.nsI, h.chZ, h.atZ, h.nsZ⟩
structure TS where
  t : Addr
  dt : Addr
  R : Addr
  hr : Int
  tr : Tok
  n1 : Nat
  nR : Nat
  ns : List TN
structure TreeL (news : Led) (T : TS) : Prop where
  t : (T.t, instObj 274 T.dt) ∈ news
  dt : (T.dt, dictOf [⟨T.hr, .str (Str.ofString "rows") T.tr, .ref T.R⟩] T.n1) ∈ news
  R : (T.R, listOf (T.ns.map fun d => Value.ref d.inst).toArray T.nR) ∈ news
  z : T.ns.length < 1000
  ns : ∀ d ∈ T.ns, NodeL news d
theorem TreeL.mono {news news' : Led} {T : TS} (h : TreeL news T) (k : ∀ e ∈ news, e ∈ news') : TreeL news' T :=
  ⟨k _ h.t, k _ h.dt, k _ h.R, h.z, fun d hd => (h.ns d hd).mono k⟩
theorem TreeL.row {news : Led} {T : TS} {i : Int} {d : TN} (_h : TreeL news T) (hi : T.ns[i.toNat]? = some d) : (T.ns.map fun d => Value.ref d.inst)[i.toNat]? = some (.ref d.inst) := by
  rw [List.getElem?_map, hi]; rfl
theorem lt_of_row {T : TS} {i : Int} {d : TN} (h0 : 0 ≤ i) (hi : T.ns[i.toNat]? = some d) : i < (T.ns.length : Int) := by
  have := (List.getElem?_eq_some_iff.mp hi).1
  omega

/-! lists: the rules, said of lists of values -/
structure Hid (p : Prop) : Prop where
  out : p
noncomputable def Halt (p : Prop) : Prop := p
theorem Halt.mk {p : Prop} (h : Halt p) : p := h
theorem toL (vs : List Value) : vs.toArray.toList = vs := by simp
section
variable {prog : Program} {w : World} {A : Around} {E : Value → Shared → Prop} {s : Shared} {h₀ : Heap} {L D b : Addr} {m : Str → Option Value} {news news' : Led} {xs ys vs : List Value} {n k : Nat}
theorem W_list {Q : Value → Shared → Prop} (F : Fr h₀ L s.heap m) (N : News h₀ L s.heap news) (hb : (b, listOf vs.toArray k) ∈ news) (hz : vs.length < 100000)
    (h : ∀ D c h', Fr h₀ L h' m → News h₀ L h' ((D, listOf vs.toArray c) :: news) → (∀ p ∈ news, p.1 < D) → Q (.ref D) { s with heap := h' }) : wpAny (model prog w) A (call (.type "list") [.ref b]) Q E s :=
  kup_listOf F N hb (toL vs) (fun D c h' F' N' l => h D c h' F' N' l) (by rw [sizeLine_eq, toL]; omega)
theorem W_append {x : Value} {Q : Value → Shared → Prop} (F : Fr h₀ L s.heap m) (N : News h₀ L s.heap news) (U : Upd D (listOf vs.toArray n) (listOf (vs ++ [x]).toArray (n + 1)) news news') (hz : vs.length < 100000)
    (h : ∀ h', Fr h₀ L h' m → News h₀ L h' news' → Q .none { s with heap := h' }) : wpAny (model prog w) A (call (.builtin "list.append") [.ref D, x]) Q E s := by
  have e : vs.toArray.push x = (vs ++ [x]).toArray := by simp
  rw [← e] at U
  exact append_K F N U h (by rw [sizeLine_eq, List.size_toArray]; omega)
theorem W_extend {f : Nat → Led} {Q : Value → Shared → Prop} (F : Fr h₀ L s.heap m) (N : News h₀ L s.heap news) (hb : (b, listOf ys.toArray k) ∈ news) (U : ∀ c, Upd D (listOf xs.toArray n) (listOf (xs ++ ys).toArray c) news (f c)) (hz : xs.length + ys.length < 100000)
    (h : ∀ h' c, Fr h₀ L h' m → News h₀ L h' (f c) → Q .none { s with heap := h' }) : wpAny (model prog w) A (call (.builtin "list.extend") [.ref D, .ref b]) Q E s := by
  have hl : ¬(!xs.toArray.isEmpty && Builtin.List.listTooLong (xs.toArray.size + ys.toArray.size)) = true := by
    have : Builtin.List.listTooLong (xs.toArray.size + ys.toArray.size) = false := by
      unfold Builtin.List.listTooLong
      rw [List.size_toArray, List.size_toArray]
      simp only [decide_eq_false_iff_not, sizeLine_eq]
      omega
    rw [this]; simp
  by_cases hy : ys = []
  · subst hy
    have U0 := U n
    rw [List.append_nil] at U0
    exact kxn_extend F N hb rfl U0 hl (by rw [toL, sizeLine_eq]; omega) (by rw [List.size_toArray, List.size_toArray, sizeLine_eq]; omega) fun h' F' N' => h h' n F' N'
  · exact kl_extend F N hb (by rw [toL, toL]) (by rw [toL]; intro q; exact hy (List.length_eq_zero_iff.mp q)) (U (n + 1)) hl (by rw [toL, sizeLine_eq]; omega) (by rw [List.size_toArray, List.size_toArray, sizeLine_eq]; omega) fun h' F' N' => h h' (n + 1) F' N'
theorem W_add {Q : Value → Shared → Prop} (F : Fr h₀ L s.heap m) (N : News h₀ L s.heap news) (ha : (D, listOf xs.toArray n) ∈ news) (hb : (b, listOf ys.toArray k) ∈ news) (hz : xs.length + ys.length < 100000)
    (h : ∀ D h', Fr h₀ L h' m → News h₀ L h' ((D, listOf (xs ++ ys).toArray 0) :: news) → (∀ p ∈ news, p.1 < D) → Q (.ref D) { s with heap := h' }) : wpAny (model prog w) A (binaryOp .Add (.ref D) (.ref b)) Q E s :=
  kmk_add_lit F N (News.isList N ha) (News.isList N hb) (by rw [toL, toL]) h (by rw [toL, toL, sizeLine_eq]; omega)
theorem W_rev {value slice : PySem.Expr} {vk : Value} {ops : List Value} {Q : Value → Shared → Prop} (F : Fr h₀ L s.heap m) (N : News h₀ L s.heap news) (hb : (b, listOf vs.toArray k) ∈ news) (pk : IsPart vk (some (-1))) (hz : vs.length < 100000)
    (hs : subscripted slice false (.ref b) (.ref s.heap.objs.size) = operate ops (getItem (.ref b) (.ref s.heap.objs.size))) (ht : ∀ r, letTemporaryGo value (.ref b) r = pure ())
    (h : ∀ D h', Fr h₀ L h' m → News h₀ L h' ((D, listOf vs.reverse.toArray 0) :: news) → (∀ p ∈ news, p.1 < D) → Q (.ref D) { s with heap := h' }) :
    wpAny (model prog w) A (subscriptTail value slice (.ref b) (.ref s.heap.objs.size)) Q E { s with heap := s.heap.push { cls := .type "slice", data := .fields #[.none, .none, vk] } } :=
  krv_lit F N (News.isList N hb) pk (by rw [toL]) h hs ht (by rw [List.size_toArray, sizeLine_eq]; omega)
theorem W_neT {a : Addr} {us : List Value} {l : List Int} {z : Int} {Q : Value → Shared → Prop} (N : News h₀ L s.heap news) (ha : (a, listOf us.toArray n) ∈ news) (hb : (b, listOf ([] : List Value).toArray k) ∈ news) (hi : IntsAre us (l ++ [z])) (hu : A.units + 64 < cLine)
    (h : Q (.bool true) s) : wpAny (model prog w) A (compareOp .NotEq (.ref a) (.ref b)) Q E s := by
  refine ne_intsK (us := []) (News.isList N ha) hi (News.isList N hb) .nil hu ?_
  have e : decide (l ++ [z] = ([] : List Int)) = false := by simp
  rw [e]; exact h
theorem W_neF {a : Addr} {us : List Value} {Q : Value → Shared → Prop} (N : News h₀ L s.heap news) (ha : (a, listOf us.toArray n) ∈ news) (hb : (b, listOf ([] : List Value).toArray k) ∈ news) (hi : IntsAre us []) (hu : A.units + 64 < cLine)
    (h : Q (.bool false) s) : wpAny (model prog w) A (compareOp .NotEq (.ref a) (.ref b)) Q E s :=
  ne_intsK (us := []) (News.isList N ha) hi (News.isList N hb) .nil hu h
theorem ki_setL_eq : ∀ (l : List Value) (i : Nat) (v : Value), i < l.length → ki_setL l i v = some (l.set i v)
  | [], _, _, h => absurd h (Nat.not_lt_zero _)
  | _ :: _, 0, _, _ => rfl
  | x :: r, i + 1, v, h => by
    have ih := ki_setL_eq r i v (Nat.lt_of_succ_lt_succ h)
    unfold ki_setL
    rw [ih]; rfl
theorem W_set {i : Int} {t : Tok} {v : Value} {Q : Unit → Shared → Prop} (F : Fr h₀ L s.heap m) (N : News h₀ L s.heap news) (U : Upd D (listOf vs.toArray n) (listOf (vs.set i.toNat v).toArray n) news news') (h0 : 0 ≤ i) (hi : i < (vs.length : Int)) (hz : vs.length < 100000)
    (h : ∀ h', Fr h₀ L h' m → News h₀ L h' news' → Q () { s with heap := h' }) : wpAny (model prog w) A (setItem (.ref D) (.int i t) v) Q E s :=
  ki_set F N h0 (by omega) (by rw [toL]; exact ki_setL_eq _ _ _ (by omega)) U h
theorem W_pop {us : List Value} {l : List Int} {z : Int} {Q : Value → Shared → Prop} (F : Fr h₀ L s.heap m) (N : News h₀ L s.heap news) (U : Upd D (listOf us.toArray n) (listOf us.dropLast.toArray (n + 1)) news news') (hi : IntsAre us (l ++ [z])) (hz : us.length < 100000)
    (h : ∀ h' t, Fr h₀ L h' m → News h₀ L h' news' → IntsAre us.dropLast l → Q (.int z t) { s with heap := h' }) : wpAny (model prog w) A (call (.builtin "list.pop") [.ref D]) Q E s := by
  have hl := IntsAre.length hi
  rw [List.length_append, List.length_singleton] at hl
  refine kpa_pop F N U hi (by omega) (by rw [sizeLine_eq]; omega) fun h' t F' N' hI => ?_
  rw [List.dropLast_concat] at hI
  have e : (l ++ [z]).getLastD 0 = z := by simp [List.getLastD_eq_getLast?]
  rw [e]
  exact h h' t F' N' hI
end
theorem fr_put {h₀ h : Heap} {L : Addr} {m : Str → Option Value} {x : Str} {v : Value} (F : Fr h₀ L h m) (e : m x = some v) : Fr h₀ L h (fun y => if y = x then some v else m y) := by
  have : (fun y => if y = x then some v else m y) = m := by
    funext y
    by_cases h : y = x
    · rw [if_pos h, h, e]
    · rw [if_neg h]
  rw [this]; exact F
theorem put_get {m : Str → Option Value} {x y : Str} {v u : Value} (e : m x = some v) (e' : m y = some u) : (fun z => if z = x then some v else m z) y = some u := by
  show (if y = x then some v else m y) = some u
  split
  · rename_i h; rw [← e, ← e', h]
  · exact e'
theorem fr_put2 {h₀ h : Heap} {L : Addr} {m : Str → Option Value} {x y : Str} {v u : Value} (F : Fr h₀ L h m) (e : m x = some v) (e' : m y = some u) : Fr h₀ L h (fun z => if z = y then some u else if z = x then some v else m z) := fr_put (fr_put F e) (put_get e e')
theorem fr_put3 {h₀ h : Heap} {L : Addr} {m : Str → Option Value} {x y z : Str} {v u t : Value} (F : Fr h₀ L h m) (e : m x = some v) (e' : m y = some u) (e2 : m z = some t) : Fr h₀ L h (fun b => if b = z then some t else if b = y then some u else if b = x then some v else m b) :=
  fr_put2 (fr_put F e) (put_get e e') (put_get e e2)
theorem fr_put4 {h₀ h : Heap} {L : Addr} {m : Str → Option Value} {x y z x4 : Str} {v u t v4 : Value} (F : Fr h₀ L h m) (e : m x = some v) (e' : m y = some u) (e2 : m z = some t) (e4 : m x4 = some v4) : Fr h₀ L h (fun b => if b = x4 then some v4 else if b = z then some t else if b = y then some u else if b = x then some v else m b) :=
  fr_put3 (fr_put F e) (put_get e e') (put_get e e2) (put_get e e4)
theorem wp_never {α : Type} {M : Model} {A : Around} {t : Sem α} {Q : α → Shared → Prop} {E : Value → Shared → Prop} {s : Shared} (h : wpAny M A t Q (fun _ _ => False) s) : wpAny M A t Q E s := wpAny_mono h (fun _ _ x => x) fun _ _ x => x.elim
/-- a ledger without doubles -/
theorem norm_led {h₀ h : Heap} {L : Addr} : ∀ {l : Led}, News h₀ L h l → ∃ l' : Led, ND l' ∧ News h₀ L h l' ∧ (∀ e ∈ l, e ∈ l') ∧ ∀ e ∈ l', e ∈ l
  | [], N => ⟨[], List.nodup_nil, N, fun _ h => h, fun _ h => h⟩
  | p :: r, N => by
    obtain ⟨l', nd, N', s1, s2⟩ := norm_led (l := r) fun q hq => N q (.tail _ hq)
    by_cases hp : p.1 ∈ l'.map (·.1)
    · refine ⟨l', nd, N', fun e he => ?_, fun e he => .tail _ (s2 e he)⟩
      rcases List.mem_cons.mp he with rfl | he
      · obtain ⟨q, hq, e'⟩ := List.mem_map.mp hp
        have h1 := (N' q hq).1
        have h2 := (N e (.head _)).1
        rw [e', h2] at h1
        have : e = q := Prod.ext e'.symm (Option.some.inj h1)
        rw [this]; exact hq
      · exact s1 e he
    · refine ⟨p :: l', ?_, fun q hq => ?_, fun e he => ?_, fun e he => ?_⟩
      · unfold ND; rw [List.map_cons, List.nodup_cons]; exact ⟨hp, nd⟩
      · rcases List.mem_cons.mp hq with rfl | hq
        · exact N _ (.head _)
        · exact N' q hq
      · rcases List.mem_cons.mp he with rfl | he
        · exact .head _
        · exact .tail _ (s1 e he)
      · rcases List.mem_cons.mp he with rfl | he
        · exact .head _
        · exact .tail _ (s2 e he)
/-! local lines of the walk -/
local macro_rules | `(tactic| k_lt $h:ident) => `(tactic| skip)
local macro_rules | `(tactic| k_sweep) => `(tactic| skip)
local macro_rules | `(tactic| k_mem) => `(tactic| first
  | (with_reducible assumption)
  | (with_reducible exact List.mem_cons_self)
  | ((with_reducible refine List.mem_cons_of_mem _ ?_); k_mem)
  | ((with_reducible refine List.mem_append_right _ ?_); k_mem)
  | ((with_reducible refine' setL_self ?h); (case h => k_mem))
  | ((with_reducible refine' setL_ne ?a ?b); (case a => k_mem); (case b => k_ne))
  | (refine' use_sub ?s ?h; (case s => assumption); (case h => k_mem))
  | exact NodeL.inst (by assumption) | exact NodeL.dict (by assumption) | exact NodeL.ch (by assumption) | exact NodeL.at_ (by assumption) | exact NodeL.ns (by assumption) | exact TreeL.t (by assumption) | exact TreeL.dt (by assumption) | exact TreeL.R (by assumption))
local macro_rules | `(tactic| kwd_less) => `(tactic| first | assumption | (refine ND.set ?_; kwd_less))
local macro_rules | `(tactic| k_upd) => `(tactic| exact upd_set (by kwd_less) (by k_mem))
local macro_rules | `(tactic| k_ne) => `(tactic| ((try dsimp only); first | assumption | exact Ne.symm (by assumption) | exact ne_up (by assumption) (by k_mem) | exact ne_dn (by assumption) (by k_mem) | exact ne_il (by assumption) (by k_mem) (by k_mem) | exact ne_dl (by assumption) (by k_mem) (by k_mem) | exact (ne_il (by assumption) (by k_mem) (by k_mem)).symm | exact (ne_dl (by assumption) (by k_mem) (by k_mem)).symm))
local macro_rules | `(tactic| k_all) => `(tactic| first | exact ne_all (by assumption) (fun _ h => h) | exact ne_all (by assumption) (fun _ h => .tail _ h) | exact ne_all (by assumption) (fun _ h => .tail _ (.tail _ h)))
local macro_rules | `(tactic| kd_subs) => `(tactic| first | assumption | exact fun _ h => h | (refine sub_cons ?_; kd_subs) | (refine sub_app ?_; kd_subs) | (refine sub_set ?_ (by assumption); kd_subs) | (refine sub_setn ?_ (by assumption); kd_subs))
local macro_rules | `(tactic| kwd_rel) => `(tactic| first | assumption | exact TreeL.mono (by assumption) (by kd_subs))
local macro_rules | `(tactic| walk_at "call builtin:len") => `(tactic| (k_here; (with_reducible show wpAny _ _ (call (Value.builtin "len") [Value.ref _]) _ _ _); k_dflt (refine' kst_len ?k1 ?k2 ?k3 ?k4 ?_; (case k1 => k_asm); (case k2 => k_mem); (case k3 => exact rfl); (case k4 => ((try simp only [List.length_map, List.length_append, List.length_cons, List.length_nil]); omega)); k_whole); (try simp only [List.length_map])))
local macro_rules | `(tactic| walk_at "subscriptTail") => `(tactic| (k_here; (with_reducible show wpAny _ _ (subscriptTail _ _ (Value.ref _) (Value.int _ _)) _ _ _); k_dflt (refine' item_litK (v := _) ?k1 ?k2 ?k3 ?k4 ?_ ?k6; (case k1 => exact News.isList (by k_asm) (by k_mem)); (case k2 => omega); (case k4 => assumption); (case k3 => omega); (case k6 => with_unfolding_all rfl); k_whole)))
local macro_rules | `(tactic| walk_at "call type:list") => `(tactic| (k_here; (with_reducible show wpAny _ _ (call (Value.type _) [Value.ref _]) _ _ _); k_dflt (refine' W_list ?F ?N ?b ?z ?_; (case F => k_asm); (case N => k_asm); (case b => k_mem); (case z => omega)); intro D' c' h' F' N' l1; (try dsimp only)))
local macro_rules | `(tactic| walk_at "call builtin:list.append") => `(tactic| (k_here; (with_reducible show wpAny _ _ (call (Value.builtin _) [Value.ref _, _]) _ _ _); k_dflt (refine' W_append ?F ?N ?U ?z ?_; (case F => k_asm); (case N => k_asm); (case U => k_upd); (case z => ((try simp only [List.length_map, List.length_append, List.length_cons, List.length_nil]); omega)); k_whole); intro h' F' N'))
local macro_rules | `(tactic| walk_at "call builtin:list.extend") => `(tactic| (k_here; (with_reducible show wpAny _ _ (call (Value.builtin _) [Value.ref _, Value.ref _]) _ _ _); k_dflt (refine' W_extend ?F ?N ?b ?U ?z ?_; (case F => k_asm); (case N => k_asm); (case b => k_mem); (case U => (intro c; k_upd)); (case z => ((try simp only [List.length_map, List.length_append, List.length_cons, List.length_nil, List.length_reverse, List.length_dropLast]); omega))); intro h' c' F' N'; (try dsimp only at N')))
local macro_rules | `(tactic| walk_at "exec While Compare cons nil") => `(tactic| (k_here; refine Halt.mk ?_))
local macro_rules | `(tactic| walk_at "subscriptTail Name Slice ref ref") => `(tactic| (k_here; (with_reducible show wpAny _ _ (subscriptTail _ (PySem.Expr.Slice none none (some _) _) (Value.ref _) (Value.ref _)) _ _ _); k_dflt (refine' W_rev ?F ?N ?b ?k ?z ?s ?t ?_; (case F => k_asm); (case N => k_asm); (case b => k_mem); (case k => exact IsPart.int _ _); (case z => omega); (case s => with_unfolding_all rfl); (case t => kmk_pure)); intro D' h' F' N' l1; (try dsimp only)))
local macro_rules | `(tactic| walk_at "compareOp NotEq ref ref") => `(tactic| (k_here; (with_reducible show wpAny _ _ (compareOp CmpOp.NotEq (Value.ref _) (Value.ref _)) _ _ _); k_dflt (first
  | (refine' W_neT ?N ?a ?b ?i ?u ?_; (case N => k_asm); (case a => k_mem); (case b => k_mem); (case i => with_reducible assumption); (case u => ktr_units); k_whole)
  | (refine' W_neF ?N ?a ?b ?i ?u ?_; (case N => k_asm); (case a => k_mem); (case b => k_mem); (case i => with_reducible assumption); (case u => ktr_units); k_whole))))
local macro_rules | `(tactic| walk_at "call builtin:list.pop") => `(tactic| (k_here; (with_reducible show wpAny _ _ (call (Value.builtin _) [Value.ref _]) _ _ _); k_dflt (refine' W_pop ?F ?N ?U ?i ?z ?_; (case F => k_asm); (case N => k_asm); (case U => k_upd); (case i => with_reducible assumption); (case z => omega)); (intro h' t' F' N' hI')))
local macro_rules | `(tactic| walk_at "exec For Name Call cons nil") => `(tactic| (k_here; (rename Fr _ _ _ _ => lF'); (with_unfolding_all refine' For_invVF lF' ?k1 ?k2 ?_; (case k1 => exact rfl); (case k2 => exact rfl); k_whole)))
local macro_rules | `(tactic| walk_at "pyIter ref") => `(tactic| ((with_reducible show wpAny _ _ (pyIter (Value.ref _)) (fun it s₂ => LoopAtV _ _ _ _ _ _ _ _ _ it s₂) _ _); refine Halt.mk ?_))
local macro_rules | `(tactic| k_room) => `(tactic| ktr_room)
local macro_rules | `(tactic| k_units) => `(tactic| ktr_units)
local macro_rules | `(tactic| walk_at "exec For Name Attribute cons nil") => `(tactic| (k_here; (rename Fr _ _ _ _ => lF'); (with_unfolding_all refine' For_invVF lF' ?k1 ?k2 ?_; (case k1 => exact rfl); (case k2 => exact rfl); k_whole)))
section
variable {prog : Program} {w : World} {mean : ExcName → Option Value} {mg mb : Str → Option Value} {dp un : Nat} {gd : Option (List Code)} {cn : Str} {cs : Scope} {a : Addr} {ccd : Value} {cl : List (Str × Addr)} {outer : List Env} {A₀ : Around} {base h₀ : Heap} {L : Addr} {m : Str → Option Value} {news : Led} {s : Shared}
    {Q E : Value → Shared → Prop} {T : TS} {d : TN} {i : Int} {tk : Tok}
end
noncomputable def row_spec_S (K : Params → Frag) (V : PySem.Program) : Prop := ∀ {prog : Program} {w : World} {mean : ExcName → Option Value} {mg mb : Str → Option Value} {dp un : Nat} {gd : Option (List Code)} {cn : Str} {cs : Scope} {a : Addr} {ccd : Value} {cl : List (Str × Addr)} {outer : List Env} {A₀ : Around} {base h₀ : Heap} {L : Addr} {m : Str → Option Value} {news : Led} {s : Shared} {Q E : Value → Shared → Prop} {T : TS} {d : TN} {i : Int} {tk : Tok} (B : Below A₀ base outer h₀) (F : Fr h₀ L s.heap m) (X : (K w.params).In h₀) (N : News h₀ L s.heap news) (Tp : Top V (looseW V []) mean mg mb h₀) (hk : cs.kind = .function) (hdp : dp + 4 < recursionLimit) (hu : un + 20 < cLine) (hT : TreeL news T) (h0 : 0 ≤ i) (hi : T.ns[i.toNat]? = some d) (hret : ∀ h' tk', Fr h₀ L h' m → News h₀ L h' news → Q (.ref d.inst) { s with heap := h', toks := tk' }),
    wpAny (model prog w) (ktrTop dp un gd cn cs L a ccd cl outer) (call (.ref 117) [.ref T.t, .int i tk]) Q E s
theorem row_spec_use {K : Params → Frag} {V : PySem.Program} (Z : row_spec_S K V) : ∀ {prog : Program} {w : World} {mean : ExcName → Option Value} {mg mb : Str → Option Value} {dp un : Nat} {gd : Option (List Code)} {cn : Str} {cs : Scope} {a : Addr} {ccd : Value} {cl : List (Str × Addr)} {outer : List Env} {A₀ : Around} {base h₀ : Heap} {L : Addr} {m : Str → Option Value} {news : Led} {s : Shared} {Q E : Value → Shared → Prop} {T : TS} {d : TN} {i : Int} {tk : Tok} (B : Below A₀ base outer h₀) (F : Fr h₀ L s.heap m) (X : (K w.params).In h₀) (N : News h₀ L s.heap news) (Tp : Top V (looseW V []) mean mg mb h₀) (hk : cs.kind = .function) (hdp : dp + 4 < recursionLimit) (hu : un + 20 < cLine) (hT : TreeL news T) (h0 : 0 ≤ i) (hi : T.ns[i.toNat]? = some d) (hret : ∀ h' tk', Fr h₀ L h' m → News h₀ L h' news → Q (.ref d.inst) { s with heap := h', toks := tk' }),
    wpAny (model prog w) (ktrTop dp un gd cn cs L a ccd cl outer) (call (.ref 117) [.ref T.t, .int i tk]) Q E s := Z
noncomputable def kind_spec_S (K : Params → Frag) (V : PySem.Program) : Prop := ∀ {prog : Program} {w : World} {mean : ExcName → Option Value} {mg mb : Str → Option Value} {dp un : Nat} {gd : Option (List Code)} {cn : Str} {cs : Scope} {a : Addr} {ccd : Value} {cl : List (Str × Addr)} {outer : List Env} {A₀ : Around} {base h₀ : Heap} {L : Addr} {m : Str → Option Value} {news : Led} {s : Shared} {Q E : Value → Shared → Prop} {T : TS} {d : TN} {i : Int} {tk : Tok} (B : Below A₀ base outer h₀) (F : Fr h₀ L s.heap m) (X : (K w.params).In h₀) (N : News h₀ L s.heap news) (Tp : Top V (looseW V []) mean mg mb h₀) (hk : cs.kind = .function) (hdp : dp + 6 < recursionLimit) (hu : un + 40 < cLine) (hT : TreeL news T) (h0 : 0 ≤ i) (hi : T.ns[i.toNat]? = some d) (hret : ∀ h' tk', Fr h₀ L h' m → News h₀ L h' news → Q (.str d.kind d.k0) { s with heap := h', toks := tk' }),
    wpAny (model prog w) (ktrTop dp un gd cn cs L a ccd cl outer) (call (.ref 194) [.ref T.t, .int i tk]) Q E s
theorem kind_spec_use {K : Params → Frag} {V : PySem.Program} (Z : kind_spec_S K V) : ∀ {prog : Program} {w : World} {mean : ExcName → Option Value} {mg mb : Str → Option Value} {dp un : Nat} {gd : Option (List Code)} {cn : Str} {cs : Scope} {a : Addr} {ccd : Value} {cl : List (Str × Addr)} {outer : List Env} {A₀ : Around} {base h₀ : Heap} {L : Addr} {m : Str → Option Value} {news : Led} {s : Shared} {Q E : Value → Shared → Prop} {T : TS} {d : TN} {i : Int} {tk : Tok} (B : Below A₀ base outer h₀) (F : Fr h₀ L s.heap m) (X : (K w.params).In h₀) (N : News h₀ L s.heap news) (Tp : Top V (looseW V []) mean mg mb h₀) (hk : cs.kind = .function) (hdp : dp + 6 < recursionLimit) (hu : un + 40 < cLine) (hT : TreeL news T) (h0 : 0 ≤ i) (hi : T.ns[i.toNat]? = some d) (hret : ∀ h' tk', Fr h₀ L h' m → News h₀ L h' news → Q (.str d.kind d.k0) { s with heap := h', toks := tk' }),
    wpAny (model prog w) (ktrTop dp un gd cn cs L a ccd cl outer) (call (.ref 194) [.ref T.t, .int i tk]) Q E s := Z
noncomputable def children_spec_S (K : Params → Frag) (V : PySem.Program) : Prop := ∀ {prog : Program} {w : World} {mean : ExcName → Option Value} {mg mb : Str → Option Value} {dp un : Nat} {gd : Option (List Code)} {cn : Str} {cs : Scope} {a : Addr} {ccd : Value} {cl : List (Str × Addr)} {outer : List Env} {A₀ : Around} {base h₀ : Heap} {L : Addr} {m : Str → Option Value} {news : Led} {s : Shared} {Q E : Value → Shared → Prop} {T : TS} {d : TN} {i : Int} {tk : Tok} (B : Below A₀ base outer h₀) (F : Fr h₀ L s.heap m) (X : (K w.params).In h₀) (N : News h₀ L s.heap news) (Tp : Top V (looseW V []) mean mg mb h₀) (hk : cs.kind = .function) (hdp : dp + 6 < recursionLimit) (hu : un + 40 < cLine) (hT : TreeL news T) (h0 : 0 ≤ i) (hi : T.ns[i.toNat]? = some d) (hret : ∀ D c h' tk', Fr h₀ L h' m → News h₀ L h' ((D, listOf d.chV.toArray c) :: news) → (∀ p ∈ news, p.1 < D) → Q (.ref D) { s with heap := h', toks := tk' }),
    wpAny (model prog w) (ktrTop dp un gd cn cs L a ccd cl outer) (call (.ref 236) [.ref T.t, .int i tk]) Q E s
theorem children_spec_use {K : Params → Frag} {V : PySem.Program} (Z : children_spec_S K V) : ∀ {prog : Program} {w : World} {mean : ExcName → Option Value} {mg mb : Str → Option Value} {dp un : Nat} {gd : Option (List Code)} {cn : Str} {cs : Scope} {a : Addr} {ccd : Value} {cl : List (Str × Addr)} {outer : List Env} {A₀ : Around} {base h₀ : Heap} {L : Addr} {m : Str → Option Value} {news : Led} {s : Shared} {Q E : Value → Shared → Prop} {T : TS} {d : TN} {i : Int} {tk : Tok} (B : Below A₀ base outer h₀) (F : Fr h₀ L s.heap m) (X : (K w.params).In h₀) (N : News h₀ L s.heap news) (Tp : Top V (looseW V []) mean mg mb h₀) (hk : cs.kind = .function) (hdp : dp + 6 < recursionLimit) (hu : un + 40 < cLine) (hT : TreeL news T) (h0 : 0 ≤ i) (hi : T.ns[i.toNat]? = some d) (hret : ∀ D c h' tk', Fr h₀ L h' m → News h₀ L h' ((D, listOf d.chV.toArray c) :: news) → (∀ p ∈ news, p.1 < D) → Q (.ref D) { s with heap := h', toks := tk' }),
    wpAny (model prog w) (ktrTop dp un gd cn cs L a ccd cl outer) (call (.ref 236) [.ref T.t, .int i tk]) Q E s := Z
noncomputable def attributes_spec_S (K : Params → Frag) (V : PySem.Program) : Prop := ∀ {prog : Program} {w : World} {mean : ExcName → Option Value} {mg mb : Str → Option Value} {dp un : Nat} {gd : Option (List Code)} {cn : Str} {cs : Scope} {a : Addr} {ccd : Value} {cl : List (Str × Addr)} {outer : List Env} {A₀ : Around} {base h₀ : Heap} {L : Addr} {m : Str → Option Value} {news : Led} {s : Shared} {Q E : Value → Shared → Prop} {T : TS} {d : TN} {i : Int} {tk : Tok} (B : Below A₀ base outer h₀) (F : Fr h₀ L s.heap m) (X : (K w.params).In h₀) (N : News h₀ L s.heap news) (Tp : Top V (looseW V []) mean mg mb h₀) (hk : cs.kind = .function) (hdp : dp + 6 < recursionLimit) (hu : un + 40 < cLine) (hT : TreeL news T) (h0 : 0 ≤ i) (hi : T.ns[i.toNat]? = some d) (hret : ∀ D c h' tk', Fr h₀ L h' m → News h₀ L h' ((D, listOf d.atV.toArray c) :: news) → (∀ p ∈ news, p.1 < D) → Q (.ref D) { s with heap := h', toks := tk' }),
    wpAny (model prog w) (ktrTop dp un gd cn cs L a ccd cl outer) (call (.ref 243) [.ref T.t, .int i tk]) Q E s
theorem attributes_spec_use {K : Params → Frag} {V : PySem.Program} (Z : attributes_spec_S K V) : ∀ {prog : Program} {w : World} {mean : ExcName → Option Value} {mg mb : Str → Option Value} {dp un : Nat} {gd : Option (List Code)} {cn : Str} {cs : Scope} {a : Addr} {ccd : Value} {cl : List (Str × Addr)} {outer : List Env} {A₀ : Around} {base h₀ : Heap} {L : Addr} {m : Str → Option Value} {news : Led} {s : Shared} {Q E : Value → Shared → Prop} {T : TS} {d : TN} {i : Int} {tk : Tok} (B : Below A₀ base outer h₀) (F : Fr h₀ L s.heap m) (X : (K w.params).In h₀) (N : News h₀ L s.heap news) (Tp : Top V (looseW V []) mean mg mb h₀) (hk : cs.kind = .function) (hdp : dp + 6 < recursionLimit) (hu : un + 40 < cLine) (hT : TreeL news T) (h0 : 0 ≤ i) (hi : T.ns[i.toNat]? = some d) (hret : ∀ D c h' tk', Fr h₀ L h' m → News h₀ L h' ((D, listOf d.atV.toArray c) :: news) → (∀ p ∈ news, p.1 < D) → Q (.ref D) { s with heap := h', toks := tk' }),
    wpAny (model prog w) (ktrTop dp un gd cn cs L a ccd cl outer) (call (.ref 243) [.ref T.t, .int i tk]) Q E s := Z
local macro_rules | `(tactic| walk_at "call ref") => `(tactic| (k_here; k_dflt (refine' row_spec_use (by with_reducible assumption) ?B ?F ?X ?N ?T ?hk ?hdp ?hu ?hT ?h0 ?hi ?_; (case B => k_asm); (case F => k_asm); (case X => k_asm); (case N => k_asm); (case T => k_asm); (case hk => first | exact rfl | assumption); (case hT => assumption); (case h0 => omega); (case hi => assumption); (case hdp => ktr_room); (case hu => ktr_units); k_whole); intro h' tk' F' N'; (try dsimp only)))
local macro_rules | `(tactic| walk_at "call ref") => `(tactic| (k_here; k_dflt (refine' row_spec_use (by with_reducible assumption) ?B ?F ?X ?N ?T ?hk ?hdp ?hu ?hT ?h0 ?hi ?_; (case B => k_asm); (case F => k_asm); (case X => k_asm); (case N => k_asm); (case T => k_asm); (case hk => first | exact rfl | assumption); (case hT => kwd_rel); (case h0 => omega); (case hi => assumption); (case hdp => ktr_room); (case hu => ktr_units); k_whole); intro h' tk' F' N'; (try dsimp only)))
local macro_rules | `(tactic| walk_at "call ref") => `(tactic| (k_here; k_dflt (refine' kind_spec_use (by with_reducible assumption) ?B ?F ?X ?N ?T ?hk ?hdp ?hu ?hT ?h0 ?hi ?_; (case B => k_asm); (case F => k_asm); (case X => k_asm); (case N => k_asm); (case T => k_asm); (case hk => first | exact rfl | assumption); (case hT => kwd_rel); (case h0 => omega); (case hi => assumption); (case hdp => ktr_room); (case hu => ktr_units); k_whole); intro h' tk' F' N'; (try dsimp only)))
local macro_rules | `(tactic| walk_at "call ref") => `(tactic| (k_here; k_dflt (refine' children_spec_use (by with_reducible assumption) ?B ?F ?X ?N ?T ?hk ?hdp ?hu ?hT ?h0 ?hi ?_; (case B => k_asm); (case F => k_asm); (case X => k_asm); (case N => k_asm); (case T => k_asm); (case hk => first | exact rfl | assumption); (case hT => kwd_rel); (case h0 => omega); (case hi => assumption); (case hdp => ktr_room); (case hu => ktr_units); k_whole); intro D' c' h' tk' F' N' l1; (try dsimp only)))
local macro_rules | `(tactic| walk_at "call ref") => `(tactic| (k_here; k_dflt (refine' attributes_spec_use (by with_reducible assumption) ?B ?F ?X ?N ?T ?hk ?hdp ?hu ?hT ?h0 ?hi ?_; (case B => k_asm); (case F => k_asm); (case X => k_asm); (case N => k_asm); (case T => k_asm); (case hk => first | exact rfl | assumption); (case hT => kwd_rel); (case h0 => omega); (case hi => assumption); (case hdp => ktr_room); (case hu => ktr_units); k_whole); intro D' c' h' tk' F' N' l1; (try dsimp only)))
/-! forests: what a node's children are, in plain data -/
inductive Fo where
  | nil
  | cons (id : Nat) (ats : List Nat) (kids rest : Fo)
noncomputable def Fo.tops : Fo → List Int
  | .nil => []
  | .cons i _ _ r => (i : Int) :: r.tops
noncomputable def Fo.pre : Fo → List Int
  | .nil => []
  | .cons i _ k r => (i : Int) :: (k.pre ++ r.pre)
noncomputable def Fo.size : Fo → Nat
  | .nil => 0
  | .cons _ _ k r => k.size + r.size + 1
noncomputable def Fo.app : Fo → Fo → Fo
  | .nil, g => g
  | .cons i a k r, g => .cons i a k (r.app g)
theorem Fo.app_tops : ∀ f g : Fo, (f.app g).tops = f.tops ++ g.tops
  | .nil, _ => rfl
  | .cons i a k r, g => by show (i : Int) :: (r.app g).tops = _; rw [Fo.app_tops r g]; rfl
theorem Fo.app_pre : ∀ f g : Fo, (f.app g).pre = f.pre ++ g.pre
  | .nil, _ => rfl
  | .cons i a k r, g => by show (i : Int) :: (k.pre ++ (r.app g).pre) = (i : Int) :: (k.pre ++ r.pre) ++ g.pre; rw [Fo.app_pre r g]; simp
theorem Fo.app_size : ∀ f g : Fo, (f.app g).size = f.size + g.size
  | .nil, g => by show g.size = 0 + g.size; omega
  | .cons i a k r, g => by show k.size + (r.app g).size + 1 = k.size + r.size + 1 + g.size; rw [Fo.app_size r g]; omega
noncomputable def Rep (ns : List TN) : Fo → Prop
  | .nil => True
  | .cons i ats k r => (∃ d, ns[i]? = some d ∧ d.chI = k.tops ∧ (d.kind = Str.ofString "element" → d.atI = ats.map (fun (n : Nat) => (n : Int))) ∧ (d.kind ≠ Str.ofString "element" → ats = [])) ∧ Rep ns k ∧ Rep ns r
theorem Rep.app {ns : List TN} : ∀ {f g : Fo}, Rep ns f → Rep ns g → Rep ns (f.app g)
  | .nil, _, _, h => h
  | .cons _ _ _ _, _, h, h' => ⟨h.1, h.2.1, Rep.app h.2.2 h'⟩
theorem Fo.pre_length : ∀ f : Fo, f.pre.length = f.size
  | .nil => rfl
  | .cons i a k r => by show ((i : Int) :: (k.pre ++ r.pre)).length = k.size + r.size + 1; rw [List.length_cons, List.length_append, Fo.pre_length k, Fo.pre_length r]
theorem Fo.tops_le : ∀ f : Fo, f.tops.length ≤ f.size
  | .nil => Nat.le_refl _
  | .cons i a k r => by show ((i : Int) :: r.tops).length ≤ k.size + r.size + 1; rw [List.length_cons]; have := Fo.tops_le r; omega
section
variable {prog : Program} {w : World} {mean : ExcName → Option Value} {mg mb : Str → Option Value} {dp un : Nat} {gd : Option (List Code)} {cn : Str} {cs : Scope} {a : Addr} {ccd : Value} {cl : List (Str × Addr)} {outer : List Env} {A₀ : Around} {base h₀ : Heap} {L : Addr} {m : Str → Option Value} {news : Led} {s : Shared}
    {Q E : Value → Shared → Prop} {T : TS} {d : TN} {i : Int} {tk : Tok} {G : Fo}
end
noncomputable def beneath_spec_S (K : Params → Frag) (V : PySem.Program) : Prop := ∀ {prog : Program} {w : World} {mean : ExcName → Option Value} {mg mb : Str → Option Value} {dp un : Nat} {gd : Option (List Code)} {cn : Str} {cs : Scope} {a : Addr} {ccd : Value} {cl : List (Str × Addr)} {outer : List Env} {A₀ : Around} {base h₀ : Heap} {L : Addr} {m : Str → Option Value} {news : Led} {s : Shared} {Q E : Value → Shared → Prop} {T : TS} {d : TN} {i : Int} {tk : Tok} {G : Fo} (B : Below A₀ base outer h₀) (F : Fr h₀ L s.heap m) (X : (K w.params).In h₀) (N : News h₀ L s.heap news) (Tp : Top V (looseW V []) mean mg mb h₀) (hk : cs.kind = .function) (hdp : dp + 10 < recursionLimit) (hu : un + 100 < cLine) (hT : TreeL news T) (h0 : 0 ≤ i) (hi : T.ns[i.toNat]? = some d) (hG : Rep T.ns G) (hch : d.chI = G.tops) (hz : G.size < 1000) (hret : ∀ D vs n h' tk' news', Fr h₀ L h' m → News h₀ L h' news' → (D, listOf vs.toArray n) ∈ news' → IntsAre vs G.pre → (∀ e ∈ news, e ∈ news') → (∀ p ∈ news, p.1 < D) → Q (.ref D) { s with heap := h', toks := tk' }),
    wpAny (model prog w) (ktrTop dp un gd cn cs L a ccd cl outer) (call (.ref 28) [.ref T.t, .int i tk]) Q E s
theorem beneath_spec_use {K : Params → Frag} {V : PySem.Program} (Z : beneath_spec_S K V) : ∀ {prog : Program} {w : World} {mean : ExcName → Option Value} {mg mb : Str → Option Value} {dp un : Nat} {gd : Option (List Code)} {cn : Str} {cs : Scope} {a : Addr} {ccd : Value} {cl : List (Str × Addr)} {outer : List Env} {A₀ : Around} {base h₀ : Heap} {L : Addr} {m : Str → Option Value} {news : Led} {s : Shared} {Q E : Value → Shared → Prop} {T : TS} {d : TN} {i : Int} {tk : Tok} {G : Fo} (B : Below A₀ base outer h₀) (F : Fr h₀ L s.heap m) (X : (K w.params).In h₀) (N : News h₀ L s.heap news) (Tp : Top V (looseW V []) mean mg mb h₀) (hk : cs.kind = .function) (hdp : dp + 10 < recursionLimit) (hu : un + 100 < cLine) (hT : TreeL news T) (h0 : 0 ≤ i) (hi : T.ns[i.toNat]? = some d) (hG : Rep T.ns G) (hch : d.chI = G.tops) (hz : G.size < 1000) (hret : ∀ D vs n h' tk' news', Fr h₀ L h' m → News h₀ L h' news' → (D, listOf vs.toArray n) ∈ news' → IntsAre vs G.pre → (∀ e ∈ news, e ∈ news') → (∀ p ∈ news, p.1 < D) → Q (.ref D) { s with heap := h', toks := tk' }),
    wpAny (model prog w) (ktrTop dp un gd cn cs L a ccd cl outer) (call (.ref 28) [.ref T.t, .int i tk]) Q E s := Z
local macro_rules | `(tactic| walk_at "call ref") => `(tactic| (k_here; k_dflt (refine' beneath_spec_use (by with_reducible assumption) ?B ?F ?X ?N ?T ?hk ?hdp ?hu ?hT ?h0 ?hi ?hG ?hch ?hz ?_; (case B => k_asm); (case F => k_asm); (case X => k_asm); (case N => k_asm); (case T => k_asm); (case hk => first | exact rfl | assumption); (case hT => kwd_rel); (case h0 => omega); (case hi => assumption); (case hG => assumption); (case hch => assumption); (case hz => omega); (case hdp => ktr_room); (case hu => ktr_units); k_whole); intro D' vs' n' h' tk' news' F' N' hm' hI' hs' l1; (try dsimp only)))
noncomputable def attsOf (ns : List TN) (j : Int) : List Int := match ns[j.toNat]? with
  | some d => if d.kind = Str.ofString "element" then d.atI else []
  | none => []
noncomputable def Fo.all : Fo → List Int
  | .nil => []
  | .cons i ats k r => (i : Int) :: (ats.map (fun (n : Nat) => (n : Int)) ++ (k.all ++ r.all))
theorem Fo.all_pre {ns : List TN} : ∀ {f : Fo}, Rep ns f → f.pre.flatMap (fun j => j :: attsOf ns j) = f.all
  | .nil, _ => rfl
  | .cons i ats k r, ⟨⟨d, hd, _, h1, h2⟩, hk, hr⟩ => by
    have e : attsOf ns (i : Int) = ats.map (fun (n : Nat) => (n : Int)) := by
      unfold attsOf
      rw [Int.toNat_natCast, hd]
      show (if d.kind = Str.ofString "element" then d.atI else []) = _
      split
      · rename_i h; exact h1 h
      · rename_i h; rw [h2 h]; rfl
    show ((i : Int) :: (k.pre ++ r.pre)).flatMap _ = _
    rw [List.flatMap_cons, List.flatMap_append, Fo.all_pre hk, Fo.all_pre hr, e]
    rfl
theorem Fo.pre_mem {ns : List TN} : ∀ {f : Fo}, Rep ns f → ∀ j ∈ f.pre, ∃ d, 0 ≤ j ∧ ns[j.toNat]? = some d
  | .nil, _, _, h => nomatch h
  | .cons i ats k r, ⟨⟨d, hd, _⟩, hk, hr⟩, j, h => by
    have h' : j ∈ (i : Int) :: (k.pre ++ r.pre) := h
    rcases List.mem_cons.mp h' with rfl | h'
    · exact ⟨d, Int.natCast_nonneg _, by rw [Int.toNat_natCast]; exact hd⟩
    · rcases List.mem_append.mp h' with h' | h'
      · exact Fo.pre_mem hk j h'
      · exact Fo.pre_mem hr j h'
section
variable {prog : Program} {w : World} {mean : ExcName → Option Value} {mg mb : Str → Option Value} {dp un : Nat} {gd : Option (List Code)} {cn : Str} {cs : Scope} {a : Addr} {ccd : Value} {cl : List (Str × Addr)} {outer : List Env} {A₀ : Around} {base h₀ : Heap} {L : Addr} {m : Str → Option Value} {news : Led} {s : Shared}
    {Q E : Value → Shared → Prop} {T : TS} {d : TN} {i : Int} {tk : Tok} {G : Fo}
end
noncomputable def all_nodes_spec_S (K : Params → Frag) (V : PySem.Program) : Prop := ∀ {prog : Program} {w : World} {mean : ExcName → Option Value} {mg mb : Str → Option Value} {dp un : Nat} {gd : Option (List Code)} {cn : Str} {cs : Scope} {a : Addr} {ccd : Value} {cl : List (Str × Addr)} {outer : List Env} {A₀ : Around} {base h₀ : Heap} {L : Addr} {m : Str → Option Value} {news : Led} {s : Shared} {Q E : Value → Shared → Prop} {T : TS} {d : TN} {i : Int} {tk : Tok} {G : Fo} (B : Below A₀ base outer h₀) (F : Fr h₀ L s.heap m) (X : (K w.params).In h₀) (N : News h₀ L s.heap news) (Tp : Top V (looseW V []) mean mg mb h₀) (hk : cs.kind = .function) (hdp : dp + 12 < recursionLimit) (hu : un + 200 < cLine) (hT : TreeL news T) (h0 : 0 ≤ i) (hi : T.ns[i.toNat]? = some d) (hG : Rep T.ns G) (hch : d.chI = G.tops) (hz : G.size < 1000) (hz2 : G.all.length < 1000) (hret : ∀ D vs n h' tk' news', Fr h₀ L h' m → News h₀ L h' news' → (D, listOf vs.toArray n) ∈ news' → IntsAre vs (i :: G.all) → (∀ e ∈ news, e ∈ news') → (∀ p ∈ news, p.1 < D) → Q (.ref D) { s with heap := h', toks := tk' }),
    wpAny (model prog w) (ktrTop dp un gd cn cs L a ccd cl outer) (call (.ref 35) [.ref T.t, .int i tk]) Q E s
theorem all_nodes_spec_use {K : Params → Frag} {V : PySem.Program} (Z : all_nodes_spec_S K V) : ∀ {prog : Program} {w : World} {mean : ExcName → Option Value} {mg mb : Str → Option Value} {dp un : Nat} {gd : Option (List Code)} {cn : Str} {cs : Scope} {a : Addr} {ccd : Value} {cl : List (Str × Addr)} {outer : List Env} {A₀ : Around} {base h₀ : Heap} {L : Addr} {m : Str → Option Value} {news : Led} {s : Shared} {Q E : Value → Shared → Prop} {T : TS} {d : TN} {i : Int} {tk : Tok} {G : Fo} (B : Below A₀ base outer h₀) (F : Fr h₀ L s.heap m) (X : (K w.params).In h₀) (N : News h₀ L s.heap news) (Tp : Top V (looseW V []) mean mg mb h₀) (hk : cs.kind = .function) (hdp : dp + 12 < recursionLimit) (hu : un + 200 < cLine) (hT : TreeL news T) (h0 : 0 ≤ i) (hi : T.ns[i.toNat]? = some d) (hG : Rep T.ns G) (hch : d.chI = G.tops) (hz : G.size < 1000) (hz2 : G.all.length < 1000) (hret : ∀ D vs n h' tk' news', Fr h₀ L h' m → News h₀ L h' news' → (D, listOf vs.toArray n) ∈ news' → IntsAre vs (i :: G.all) → (∀ e ∈ news, e ∈ news') → (∀ p ∈ news, p.1 < D) → Q (.ref D) { s with heap := h', toks := tk' }),
    wpAny (model prog w) (ktrTop dp un gd cn cs L a ccd cl outer) (call (.ref 35) [.ref T.t, .int i tk]) Q E s := Z
local macro_rules | `(tactic| walk_at "call ref") => `(tactic| (k_here; k_dflt (refine' all_nodes_spec_use (by with_reducible assumption) ?B ?F ?X ?N ?T ?hk ?hdp ?hu ?hT ?h0 ?hi ?hG ?hch ?hz ?hz2 ?_; (case B => k_asm); (case F => k_asm); (case X => k_asm); (case N => k_asm); (case T => k_asm); (case hk => first | exact rfl | assumption); (case hT => kwd_rel); (case h0 => omega); (case hi => assumption); (case hG => assumption); (case hch => assumption); (case hz => omega); (case hz2 => omega); (case hdp => ktr_room); (case hu => ktr_units); k_whole); intro D' vs' n' h' tk' news' F' N' hm' hI' hs' l1; (try dsimp only)))
/-- a node as it is made -/
structure Fresh (news : Led) (d : TN) : Prop where
  old : ∀ p ∈ news, p.1 < d.dict
  l1 : d.dict < d.inst
  l2 : d.inst < d.ch
  l3 : d.ch < d.at_
  l4 : d.at_ < d.ns
  c : d.chV = [] ∧ d.atV = [] ∧ d.nsV = [] ∧ d.chI = [] ∧ d.atI = [] ∧ d.nsI = []
noncomputable def TN.led (d : TN) : Led := [(d.ns, listOf d.nsV.toArray d.nsN), (d.at_, listOf d.atV.toArray d.atN), (d.ch, listOf d.chV.toArray d.chN), (d.inst, instObj 85 d.dict), (d.dict, dictOf d.ents d.dn)]
theorem Fresh.all {news : Led} {d : TN} (h : Fresh news d) : ∀ p ∈ d.led, ∀ q ∈ news, q.1 < p.1 := by
  intro p hp q hq
  have h0 : @LT.lt Nat _ q.1 d.dict := h.old q hq
  have h1 : @LT.lt Nat _ d.dict d.inst := h.l1
  have h2 : @LT.lt Nat _ d.inst d.ch := h.l2
  have h3 : @LT.lt Nat _ d.ch d.at_ := h.l3
  have h4 : @LT.lt Nat _ d.at_ d.ns := h.l4
  show @LT.lt Nat _ q.1 p.1
  unfold TN.led at hp
  simp only [List.mem_cons, List.not_mem_nil, or_false] at hp
  rcases hp with rfl | rfl | rfl | rfl | rfl <;> dsimp only <;> omega
theorem Fresh.ne {news : Led} {d : TN} {b : Addr} {o : Obj} (h : Fresh news d) (hm : (b, o) ∈ news) : ∀ p ∈ d.led, p.1 ≠ b := fun p hp e => absurd (h.all p hp _ hm) (by rw [e]; exact Nat.lt_irrefl _)
theorem Fresh.nd {news : Led} {d : TN} (h : Fresh news d) (nd : ND news) : ND (d.led ++ news) := by
  have o := h.old
  have c1 := nd.cons (o := dictOf d.ents d.dn) o
  have f1 : ∀ p ∈ (d.dict, dictOf d.ents d.dn) :: news, p.1 < d.inst := List.forall_mem_cons.mpr ⟨h.l1, fun p hp => Nat.lt_trans (o p hp) h.l1⟩
  have c2 := c1.cons (o := instObj 85 d.dict) f1
  have f2 : ∀ p ∈ (d.inst, instObj 85 d.dict) :: (d.dict, dictOf d.ents d.dn) :: news, p.1 < d.ch := List.forall_mem_cons.mpr ⟨h.l2, fun p hp => Nat.lt_trans (f1 p hp) h.l2⟩
  have c3 := c2.cons (o := listOf d.chV.toArray d.chN) f2
  have f3 : ∀ p ∈ (d.ch, listOf d.chV.toArray d.chN) :: (d.inst, instObj 85 d.dict) :: (d.dict, dictOf d.ents d.dn) :: news, p.1 < d.at_ := List.forall_mem_cons.mpr ⟨h.l3, fun p hp => Nat.lt_trans (f2 p hp) h.l3⟩
  have c4 := c3.cons (o := listOf d.atV.toArray d.atN) f3
  have f4 : ∀ p ∈ (d.at_, listOf d.atV.toArray d.atN) :: (d.ch, listOf d.chV.toArray d.chN) :: (d.inst, instObj 85 d.dict) :: (d.dict, dictOf d.ents d.dn) :: news, p.1 < d.ns := List.forall_mem_cons.mpr ⟨h.l4, fun p hp => Nat.lt_trans (f3 p hp) h.l4⟩
  exact c4.cons (o := listOf d.nsV.toArray d.nsN) f4
theorem Fresh.set {news : Led} {d : TN} {b : Addr} {o : Obj} (h : Fresh news d) : Fresh (setL b o news) d := ⟨lt_set h.old, h.l1, h.l2, h.l3, h.l4, h.c⟩
theorem Fresh.node {news : Led} {d : TN} (h : Fresh news d) : NodeL d.led d := by
  obtain ⟨c1, c2, c3, c4, c5, c6⟩ := h.c
  refine ⟨by unfold TN.led; simp, by unfold TN.led; simp, by unfold TN.led; simp, by unfold TN.led; simp, by unfold TN.led; simp, ?_, ?_, ?_, ?_, ?_, ?_⟩
  · rw [c1, c4]; exact .nil
  · rw [c2, c5]; exact .nil
  · rw [c3, c6]; exact .nil
  · rw [c1]; decide
  · rw [c2]; decide
  · rw [c3]; decide
section
variable {prog : Program} {w : World} {mean : ExcName → Option Value} {mg mb : Str → Option Value} {dp un : Nat} {gd : Option (List Code)} {cn : Str} {cs : Scope} {a : Addr} {ccd : Value} {cl : List (Str × Addr)} {outer : List Env} {A₀ : Around} {base h₀ : Heap} {L : Addr} {m : Str → Option Value} {news : Led} {s : Shared}
    {Q E : Value → Shared → Prop} {T : TS} {kind name uri loc val : Str} {k0 k1 k2 k3 k4 : Tok} {par : Value}
end
noncomputable def node_spec_S (K : Params → Frag) (V : PySem.Program) : Prop := ∀ {prog : Program} {w : World} {mean : ExcName → Option Value} {mg mb : Str → Option Value} {dp un : Nat} {gd : Option (List Code)} {cn : Str} {cs : Scope} {a : Addr} {ccd : Value} {cl : List (Str × Addr)} {outer : List Env} {A₀ : Around} {base h₀ : Heap} {L : Addr} {m : Str → Option Value} {news : Led} {s : Shared} {Q E : Value → Shared → Prop} {kind name uri loc val : Str} {k0 k1 k2 k3 k4 : Tok} {par : Value} (B : Below A₀ base outer h₀) (F : Fr h₀ L s.heap m) (X : (K w.params).In h₀) (N : News h₀ L s.heap news) (Tp : Top V (looseW V []) mean mg mb h₀) (hk : cs.kind = .function) (hdp : dp + 6 < recursionLimit) (hu : un + 60 < cLine) (hret : ∀ (d : TN) h' tk', Fr h₀ L h' m → News h₀ L h' (d.led ++ news) → d.kind = kind → d.name = name → d.uri = uri → d.loc = loc → d.val = val → d.par = par → Fresh news d → Q (.ref d.inst) { s with heap := h', toks := tk' }),
    wpAny (model prog w) (ktrTop dp un gd cn cs L a ccd cl outer) (call (.ref 85) [.str kind k0, .str name k1, .str uri k2, .str loc k3, .str val k4, par]) Q E s
theorem node_spec_use {K : Params → Frag} {V : PySem.Program} (Z : node_spec_S K V) : ∀ {prog : Program} {w : World} {mean : ExcName → Option Value} {mg mb : Str → Option Value} {dp un : Nat} {gd : Option (List Code)} {cn : Str} {cs : Scope} {a : Addr} {ccd : Value} {cl : List (Str × Addr)} {outer : List Env} {A₀ : Around} {base h₀ : Heap} {L : Addr} {m : Str → Option Value} {news : Led} {s : Shared} {Q E : Value → Shared → Prop} {kind name uri loc val : Str} {k0 k1 k2 k3 k4 : Tok} {par : Value} (B : Below A₀ base outer h₀) (F : Fr h₀ L s.heap m) (X : (K w.params).In h₀) (N : News h₀ L s.heap news) (Tp : Top V (looseW V []) mean mg mb h₀) (hk : cs.kind = .function) (hdp : dp + 6 < recursionLimit) (hu : un + 60 < cLine) (hret : ∀ (d : TN) h' tk', Fr h₀ L h' m → News h₀ L h' (d.led ++ news) → d.kind = kind → d.name = name → d.uri = uri → d.loc = loc → d.val = val → d.par = par → Fresh news d → Q (.ref d.inst) { s with heap := h', toks := tk' }),
    wpAny (model prog w) (ktrTop dp un gd cn cs L a ccd cl outer) (call (.ref 85) [.str kind k0, .str name k1, .str uri k2, .str loc k3, .str val k4, par]) Q E s := Z
noncomputable def new_row_spec_S (K : Params → Frag) (V : PySem.Program) : Prop := ∀ {prog : Program} {w : World} {mean : ExcName → Option Value} {mg mb : Str → Option Value} {dp un : Nat} {gd : Option (List Code)} {cn : Str} {cs : Scope} {a : Addr} {ccd : Value} {cl : List (Str × Addr)} {outer : List Env} {A₀ : Around} {base h₀ : Heap} {L : Addr} {m : Str → Option Value} {news : Led} {s : Shared} {Q E : Value → Shared → Prop} {T : TS} {kind name uri loc val : Str} {k0 k1 k2 k3 k4 : Tok} {par : Value} (B : Below A₀ base outer h₀) (F : Fr h₀ L s.heap m) (X : (K w.params).In h₀) (N : News h₀ L s.heap news) (Tp : Top V (looseW V []) mean mg mb h₀) (hk : cs.kind = .function) (hdp : dp + 8 < recursionLimit) (hu : un + 80 < cLine) (nd : ND news) (hT : TreeL news T) (hret : ∀ (d : TN) (tk : Tok) h' tk', Fr h₀ L h' m → News h₀ L h' (d.led ++ setL T.R (listOf ((T.ns.map fun (d : TN) => Value.ref d.inst) ++ [Value.ref d.inst]).toArray (T.nR + 1)) news) → d.kind = kind → d.name = name → d.uri = uri → d.loc = loc → d.val = val → d.par = par → Fresh news d →
      Q (.int (T.ns.length : Int) tk) { s with heap := h', toks := tk' }),
    wpAny (model prog w) (ktrTop dp un gd cn cs L a ccd cl outer) (call (.ref 110) [.ref T.t, .str kind k0, .str name k1, .str uri k2, .str loc k3, .str val k4, par]) Q E s
theorem new_row_spec_use {K : Params → Frag} {V : PySem.Program} (Z : new_row_spec_S K V) : ∀ {prog : Program} {w : World} {mean : ExcName → Option Value} {mg mb : Str → Option Value} {dp un : Nat} {gd : Option (List Code)} {cn : Str} {cs : Scope} {a : Addr} {ccd : Value} {cl : List (Str × Addr)} {outer : List Env} {A₀ : Around} {base h₀ : Heap} {L : Addr} {m : Str → Option Value} {news : Led} {s : Shared} {Q E : Value → Shared → Prop} {T : TS} {kind name uri loc val : Str} {k0 k1 k2 k3 k4 : Tok} {par : Value} (B : Below A₀ base outer h₀) (F : Fr h₀ L s.heap m) (X : (K w.params).In h₀) (N : News h₀ L s.heap news) (Tp : Top V (looseW V []) mean mg mb h₀) (hk : cs.kind = .function) (hdp : dp + 8 < recursionLimit) (hu : un + 80 < cLine) (nd : ND news) (hT : TreeL news T) (hret : ∀ (d : TN) (tk : Tok) h' tk', Fr h₀ L h' m → News h₀ L h' (d.led ++ setL T.R (listOf ((T.ns.map fun (d : TN) => Value.ref d.inst) ++ [Value.ref d.inst]).toArray (T.nR + 1)) news) → d.kind = kind → d.name = name → d.uri = uri → d.loc = loc → d.val = val → d.par = par → Fresh news d →
      Q (.int (T.ns.length : Int) tk) { s with heap := h', toks := tk' }),
    wpAny (model prog w) (ktrTop dp un gd cn cs L a ccd cl outer) (call (.ref 110) [.ref T.t, .str kind k0, .str name k1, .str uri k2, .str loc k3, .str val k4, par]) Q E s := Z
local macro_rules | `(tactic| walk_at "call ref") => `(tactic| (k_here; k_dflt (refine' node_spec_use (by with_reducible assumption) ?B ?F ?X ?N ?T ?hk ?hdp ?hu ?_; (case B => k_asm); (case F => k_asm); (case X => k_asm); (case N => k_asm); (case T => k_asm); (case hk => first | exact rfl | assumption); (case hdp => ktr_room); (case hu => ktr_units); k_whole); intro d' h' tk' F' N' q0 q1 q2 q3 q4 q5 fr; (try dsimp only)))
local macro_rules | `(tactic| walk_at "ph4") => `(tactic| fail_if_success (fail_if_success (have h9 : Ph 4 := by with_reducible assumption)))
local macro_rules | `(tactic| k_upd) => `(tactic| (walk_at "ph4"; (refine' upd_app ?u ?n; (case u => k_upd); (case n => exact Fresh.ne (by assumption) (by k_mem)))))
local macro_rules | `(tactic| walk_at "call ref") => `(tactic| (k_here; k_dflt (refine' new_row_spec_use (by with_reducible assumption) ?B ?F ?X ?N ?T ?hk ?hdp ?hu ?nd ?hT ?_; (case B => k_asm); (case F => k_asm); (case X => k_asm); (case N => k_asm); (case T => k_asm); (case hk => first | exact rfl | assumption); (case nd => kwd_less); (case hT => kwd_rel); (case hdp => ktr_room); (case hu => ktr_units); k_whole); intro d' tk' h' tk9' F' N' q0 q1 q2 q3 q4 q5 fr; (try dsimp only)))
structure TOrd (news : Led) (dt t R : Addr) : Prop where
  a : ∀ p ∈ news, p.1 < dt
  b : dt < t
  c : t < R
section
variable {prog : Program} {w : World} {mean : ExcName → Option Value} {mg mb : Str → Option Value} {dp un : Nat} {gd : Option (List Code)} {cn : Str} {cs : Scope} {a : Addr} {ccd : Value} {cl : List (Str × Addr)} {outer : List Env} {A₀ : Around} {base h₀ : Heap} {L : Addr} {m : Str → Option Value} {news : Led} {s : Shared}
    {Q E : Value → Shared → Prop}
end
noncomputable def tree_spec_S (K : Params → Frag) (V : PySem.Program) : Prop := ∀ {prog : Program} {w : World} {mean : ExcName → Option Value} {mg mb : Str → Option Value} {dp un : Nat} {gd : Option (List Code)} {cn : Str} {cs : Scope} {a : Addr} {ccd : Value} {cl : List (Str × Addr)} {outer : List Env} {A₀ : Around} {base h₀ : Heap} {L : Addr} {m : Str → Option Value} {news : Led} {s : Shared} {Q E : Value → Shared → Prop} (B : Below A₀ base outer h₀) (F : Fr h₀ L s.heap m) (X : (K w.params).In h₀) (N : News h₀ L s.heap news) (Tp : Top V (looseW V []) mean mg mb h₀) (hk : cs.kind = .function) (hdp : dp + 6 < recursionLimit) (hu : un + 60 < cLine) (hret : ∀ (t dt R : Addr) (hr : Int) (tr : Tok) (n1 : Nat) h' tk', Fr h₀ L h' m → News h₀ L h' ((R, listOf ([] : List Value).toArray 0) :: (t, instObj 274 dt) :: (dt, dictOf [⟨hr, .str (Str.ofString "rows") tr, .ref R⟩] n1) :: news) → TOrd news dt t R → Q (.ref t) { s with heap := h', toks := tk' }),
    wpAny (model prog w) (ktrTop dp un gd cn cs L a ccd cl outer) (call (.ref 274) []) Q E s
theorem tree_spec_use {K : Params → Frag} {V : PySem.Program} (Z : tree_spec_S K V) : ∀ {prog : Program} {w : World} {mean : ExcName → Option Value} {mg mb : Str → Option Value} {dp un : Nat} {gd : Option (List Code)} {cn : Str} {cs : Scope} {a : Addr} {ccd : Value} {cl : List (Str × Addr)} {outer : List Env} {A₀ : Around} {base h₀ : Heap} {L : Addr} {m : Str → Option Value} {news : Led} {s : Shared} {Q E : Value → Shared → Prop} (B : Below A₀ base outer h₀) (F : Fr h₀ L s.heap m) (X : (K w.params).In h₀) (N : News h₀ L s.heap news) (Tp : Top V (looseW V []) mean mg mb h₀) (hk : cs.kind = .function) (hdp : dp + 6 < recursionLimit) (hu : un + 60 < cLine) (hret : ∀ (t dt R : Addr) (hr : Int) (tr : Tok) (n1 : Nat) h' tk', Fr h₀ L h' m → News h₀ L h' ((R, listOf ([] : List Value).toArray 0) :: (t, instObj 274 dt) :: (dt, dictOf [⟨hr, .str (Str.ofString "rows") tr, .ref R⟩] n1) :: news) → TOrd news dt t R → Q (.ref t) { s with heap := h', toks := tk' }),
    wpAny (model prog w) (ktrTop dp un gd cn cs L a ccd cl outer) (call (.ref 274) []) Q E s := Z
local macro_rules | `(tactic| walk_at "call ref") => `(tactic| (k_here; k_dflt (refine' tree_spec_use (by with_reducible assumption) ?B ?F ?X ?N ?T ?hk ?hdp ?hu ?_; (case B => k_asm); (case F => k_asm); (case X => k_asm); (case N => k_asm); (case T => k_asm); (case hk => first | exact rfl | assumption); (case hdp => ktr_room); (case hu => ktr_units); k_whole); intro t' dt' R' hr' tr' n1' h' tk' F' N' to'; (try dsimp only)))
/-! the state: every object of the law's own, each under a label -/
inductive Lab where
  | no | t | dt | R | inst (i : Nat) | dict (i : Nat) | ch (i : Nat) | at_ (i : Nat) | ns (i : Nat) | src | rl | row (j : Nat) | way | tup
structure WI where
  ta : Addr
  x : Int
  y : Int
  tx : Tok
  ty : Tok
  tn : Nat
noncomputable def tupOf (vs : List Value) (n : Nat) : Obj := { cls := .type "tuple", data := .seq vs.toArray n }
noncomputable def WI.obj (x : WI) : Obj := tupOf [.int x.x x.tx, .int x.y x.ty] x.tn
structure RW where
  addr : Addr
  wayA : Addr
  n : Nat
  wayN : Nat
  way : List WI
  node : Int
  na : Int
  nc : Int
  k1 : Tok
  k2 : Tok
  k3 : Tok
noncomputable def RW.items (r : RW) : List Value := [.ref r.wayA, .int r.node r.k1, .int r.na r.k2, .int r.nc r.k3]
structure SS where
  T : TS
  rows : List RW
  rl : Addr
  nL : Nat
  src : Addr
  nS : Nat
  sa : Int
  sb : Int
  ta : Tok
  tb : Tok
inductive Ent (σ : SS) : Lab → Addr → Obj → Prop
  | t : Ent σ .t σ.T.t (instObj 274 σ.T.dt)
  | dt : Ent σ .dt σ.T.dt (dictOf [⟨σ.T.hr, .str (Str.ofString "rows") σ.T.tr, .ref σ.T.R⟩] σ.T.n1)
  | R : Ent σ .R σ.T.R (listOf (σ.T.ns.map fun (d : TN) => Value.ref d.inst).toArray σ.T.nR)
  | inst {i : Nat} {d : TN} (h : σ.T.ns[i]? = some d) : Ent σ (.inst i) d.inst (instObj 85 d.dict)
  | dict {i : Nat} {d : TN} (h : σ.T.ns[i]? = some d) : Ent σ (.dict i) d.dict (dictOf d.ents d.dn)
  | ch {i : Nat} {d : TN} (h : σ.T.ns[i]? = some d) : Ent σ (.ch i) d.ch (listOf d.chV.toArray d.chN)
  | at_ {i : Nat} {d : TN} (h : σ.T.ns[i]? = some d) : Ent σ (.at_ i) d.at_ (listOf d.atV.toArray d.atN)
  | ns {i : Nat} {d : TN} (h : σ.T.ns[i]? = some d) : Ent σ (.ns i) d.ns (listOf d.nsV.toArray d.nsN)
  | src : Ent σ .src σ.src (listOf [Value.int σ.sa σ.ta, Value.int σ.sb σ.tb].toArray σ.nS)
  | rl : Ent σ .rl σ.rl (listOf (σ.rows.map fun (r : RW) => Value.ref r.addr).toArray σ.nL)
  | row {j : Nat} {r : RW} (h : σ.rows[j]? = some r) : Ent σ (.row j) r.addr (listOf r.items.toArray r.n)
  | way {j : Nat} {r : RW} (h : σ.rows[j]? = some r) : Ent σ .way r.wayA (listOf (r.way.map fun (x : WI) => Value.ref x.ta).toArray r.wayN)
  | tup {j : Nat} {r : RW} {x : WI} (h : σ.rows[j]? = some r) (hx : x ∈ r.way) : Ent σ .tup x.ta x.obj
structure StL (news : Led) (lab : Addr → Lab) (σ : SS) : Prop where
  ent : ∀ ℓ a o, Ent σ ℓ a o → (a, o) ∈ news ∧ lab a = ℓ
  sup : ∀ a, lab a ≠ .no → ∃ o, (a, o) ∈ news
theorem StL.mono {news news' : Led} {lab : Addr → Lab} {σ : SS} (h : StL news lab σ) (k : ∀ e ∈ news, e ∈ news') : StL news' lab σ :=
  ⟨fun ℓ a o e => ⟨k _ (h.ent ℓ a o e).1, (h.ent ℓ a o e).2⟩, fun a ha => let ⟨o, e⟩ := h.sup a ha; ⟨o, k _ e⟩⟩
/-- from one ledger to the next -/
structure Step (lab lab' : Addr → Lab) (news news' : Led) : Prop where
  lb : ∀ e ∈ news, lab' e.1 = lab e.1
  keep : ∀ e ∈ news, lab e.1 = .no → e ∈ news'
  key : ∀ e ∈ news, ∃ o, (e.1, o) ∈ news'
theorem Step.of_sub {lab : Addr → Lab} {news news' : Led} (h : ∀ e ∈ news, e ∈ news') : Step lab lab news news' := ⟨fun _ _ => rfl, fun e he _ => h e he, fun e he => ⟨e.2, h e he⟩⟩
theorem Step.refl {lab : Addr → Lab} {news : Led} : Step lab lab news news := Step.of_sub fun _ h => h
theorem Step.trans {lab lab' lab'' : Addr → Lab} {n n' n'' : Led} (h : Step lab lab' n n') (k : Step lab' lab'' n' n'') : Step lab lab'' n n'' :=
  ⟨fun e he => by obtain ⟨o, ho⟩ := h.key e he; rw [← h.lb e he]; exact k.lb (e.1, o) ho,
   fun e he q => k.keep e (h.keep e he q) (by rw [h.lb e he]; exact q),
   fun e he => by obtain ⟨o, ho⟩ := h.key e he; exact k.key (e.1, o) ho⟩
theorem StL.fresh {news : Led} {lab : Addr → Lab} {σ : SS} {x : Addr} (h : StL news lab σ) (hx : ∀ p ∈ news, p.1 < x) : lab x = .no := by
  cases e : lab x <;> first | rfl | (exact absurd (h.sup x (by rw [e]; intro q; cases q)) (fun ⟨o, ho⟩ => absurd (hx _ ho) (Nat.lt_irrefl _)))
theorem StL.upd {news : Led} {lab : Addr → Lab} {σ σ' : SS} {ℓ₀ : Lab} {x : Addr} {o' : Obj} (H : StL news lab σ) (hx : lab x = ℓ₀) (hm : ∃ o, (x, o) ∈ news)
    (h : ∀ ℓ a o, Ent σ' ℓ a o → (Ent σ ℓ a o ∧ ℓ ≠ ℓ₀) ∨ (a = x ∧ o = o' ∧ ℓ = ℓ₀)) : StL (setL x o' news) lab σ' := by
  refine ⟨fun ℓ a o e => ?_, fun a ha => ?_⟩
  · rcases h ℓ a o e with ⟨e', hn⟩ | ⟨rfl, rfl, rfl⟩
    · obtain ⟨m, l⟩ := H.ent ℓ a o e'
      exact ⟨setL_ne m fun q => hn (by rw [← l, ← hx]; exact congrArg lab q), l⟩
    · obtain ⟨o, ho⟩ := hm
      exact ⟨setL_self ho, hx⟩
  · obtain ⟨o, ho⟩ := H.sup a ha
    by_cases q : a = x
    · subst q; exact ⟨o', setL_self ho⟩
    · exact ⟨o, setL_ne ho q⟩
theorem Step.upd {news : Led} {lab : Addr → Lab} {x : Addr} {o' : Obj} (hx : lab x ≠ .no) : Step lab lab news (setL x o' news) :=
  ⟨fun _ _ => rfl, fun e he q => setL_ne he fun z => hx (by rw [← z]; exact q), fun e he => by
    by_cases q : e.1 = x
    · exact ⟨o', by rw [q]; exact setL_self (o := e.2) (q ▸ he)⟩
    · exact ⟨e.2, setL_ne he q⟩⟩
/-- labels of a block of new objects -/
noncomputable def labOn (blk : Led) (nl lab : Addr → Lab) (a : Addr) : Lab := if (blk.map (·.1)).contains a then nl a else lab a
theorem labOn_in {blk : Led} {nl lab : Addr → Lab} {a : Addr} {o : Obj} (h : (a, o) ∈ blk) : labOn blk nl lab a = nl a := by
  unfold labOn
  rw [if_pos]
  exact List.contains_iff_mem.mpr (List.mem_map.mpr ⟨_, h, rfl⟩)
theorem labOn_out {blk : Led} {nl lab : Addr → Lab} {a : Addr} (h : ∀ p ∈ blk, p.1 ≠ a) : labOn blk nl lab a = lab a := by
  unfold labOn
  rw [if_neg]
  intro hc
  obtain ⟨p, hp, e⟩ := List.mem_map.mp (List.contains_iff_mem.mp hc)
  exact h p hp e
theorem StL.add {news blk : Led} {lab nl : Addr → Lab} {σ σ' : SS} (H : StL news lab σ) (fr : ∀ p ∈ blk, ∀ q ∈ news, q.1 < p.1)
    (h : ∀ ℓ a o, Ent σ' ℓ a o → Ent σ ℓ a o ∨ ((a, o) ∈ blk ∧ nl a = ℓ)) : StL (blk ++ news) (labOn blk nl lab) σ' := by
  refine ⟨fun ℓ a o e => ?_, fun a ha => ?_⟩
  · rcases h ℓ a o e with e' | ⟨m, q⟩
    · obtain ⟨m, l⟩ := H.ent ℓ a o e'
      exact ⟨List.mem_append_right _ m, by rw [labOn_out fun p hp z => absurd (fr p hp _ m) (by rw [z]; exact Nat.lt_irrefl _)]; exact l⟩
    · exact ⟨List.mem_append_left _ m, by rw [labOn_in m]; exact q⟩
  · by_cases q : ∃ o, (a, o) ∈ blk
    · obtain ⟨o, ho⟩ := q; exact ⟨o, List.mem_append_left _ ho⟩
    · rw [labOn_out fun p hp z => q ⟨p.2, by rw [← z]; exact hp⟩] at ha
      obtain ⟨o, ho⟩ := H.sup a ha
      exact ⟨o, List.mem_append_right _ ho⟩
theorem Step.add {news blk : Led} {lab nl : Addr → Lab} (fr : ∀ p ∈ blk, ∀ q ∈ news, q.1 < p.1) : Step lab (labOn blk nl lab) news (blk ++ news) :=
  ⟨fun e he => labOn_out fun p hp z => absurd (fr p hp _ he) (by rw [z]; exact Nat.lt_irrefl _), fun e he _ => List.mem_append_right _ he, fun e he => ⟨e.2, List.mem_append_right _ he⟩⟩

/-! the tree's part -/
structure PureN (b : Nat) (d : TN) : Prop where
  ch : IntsAre d.chV d.chI
  at_ : IntsAre d.atV d.atI
  ns : IntsAre d.nsV d.nsI
  chZ : d.chV.length ≤ b
  atZ : d.atV.length ≤ b
  nsZ : d.nsV.length ≤ b
theorem PureN.le {b b' : Nat} {d : TN} (h : PureN b d) (k : b ≤ b') : PureN b' d := ⟨h.ch, h.at_, h.ns, Nat.le_trans h.chZ k, Nat.le_trans h.atZ k, Nat.le_trans h.nsZ k⟩
structure PureT (b : Nat) (T : TS) : Prop where
  z : T.ns.length ≤ b
  n : ∀ d ∈ T.ns, PureN b d
theorem StL.tree {news : Led} {lab : Addr → Lab} {σ : SS} {b : Nat} (H : StL news lab σ) (P : PureT b σ.T) (hb : b < 1000) : TreeL news σ.T :=
  ⟨(H.ent _ _ _ .t).1, (H.ent _ _ _ .dt).1, (H.ent _ _ _ .R).1, Nat.lt_of_le_of_lt P.z hb, fun d hd => by
    obtain ⟨i, hi⟩ := List.mem_iff_getElem?.mp hd
    have p := P.n d hd
    exact ⟨(H.ent _ _ _ (.inst hi)).1, (H.ent _ _ _ (.dict hi)).1, (H.ent _ _ _ (.ch hi)).1, (H.ent _ _ _ (.at_ hi)).1, (H.ent _ _ _ (.ns hi)).1, p.ch, p.at_, p.ns, Nat.lt_of_le_of_lt p.chZ hb, Nat.lt_of_le_of_lt p.atZ hb, Nat.lt_of_le_of_lt p.nsZ hb⟩⟩
noncomputable def SS.addNode (σ : SS) (d : TN) : SS := { σ with T := { σ.T with ns := σ.T.ns ++ [d], nR := σ.T.nR + 1 } }
noncomputable def SS.setNode (σ : SS) (i : Nat) (d : TN) : SS := { σ with T := { σ.T with ns := σ.T.ns.set i d } }
noncomputable def nodeLab (d : TN) (n : Nat) (a : Addr) : Lab := if a = d.ns then .ns n else if a = d.at_ then .at_ n else if a = d.ch then .ch n else if a = d.inst then .inst n else .dict n
theorem nodeLabs {news : Led} {d : TN} (n : Nat) (h : Fresh news d) : nodeLab d n d.ns = .ns n ∧ nodeLab d n d.at_ = .at_ n ∧ nodeLab d n d.ch = .ch n ∧ nodeLab d n d.inst = .inst n ∧ nodeLab d n d.dict = .dict n := by
  have h1 : @LT.lt Nat _ d.dict d.inst := h.l1
  have h2 : @LT.lt Nat _ d.inst d.ch := h.l2
  have h3 : @LT.lt Nat _ d.ch d.at_ := h.l3
  have h4 : @LT.lt Nat _ d.at_ d.ns := h.l4
  have e1 : ¬ d.at_ = d.ns := Nat.ne_of_lt h4
  have e2 : ¬ d.ch = d.ns := Nat.ne_of_lt (Nat.lt_trans h3 h4)
  have e3 : ¬ d.inst = d.ns := Nat.ne_of_lt (Nat.lt_trans h2 (Nat.lt_trans h3 h4))
  have e4 : ¬ d.dict = d.ns := Nat.ne_of_lt (Nat.lt_trans h1 (Nat.lt_trans h2 (Nat.lt_trans h3 h4)))
  have e5 : ¬ d.ch = d.at_ := Nat.ne_of_lt h3
  have e6 : ¬ d.inst = d.at_ := Nat.ne_of_lt (Nat.lt_trans h2 h3)
  have e7 : ¬ d.dict = d.at_ := Nat.ne_of_lt (Nat.lt_trans h1 (Nat.lt_trans h2 h3))
  have e8 : ¬ d.inst = d.ch := Nat.ne_of_lt h2
  have e9 : ¬ d.dict = d.ch := Nat.ne_of_lt (Nat.lt_trans h1 h2)
  have e10 : ¬ d.dict = d.inst := Nat.ne_of_lt h1
  unfold nodeLab
  refine ⟨?_, ?_, ?_, ?_, ?_⟩
  · rw [if_pos rfl]
  · rw [if_neg e1, if_pos rfl]
  · rw [if_neg e2, if_neg e5, if_pos rfl]
  · rw [if_neg e3, if_neg e6, if_neg e8, if_pos rfl]
  · rw [if_neg e4, if_neg e7, if_neg e9, if_neg e10]
theorem snoc_get {α : Type} {l : List α} {x y : α} {i : Nat} (h : (l ++ [x])[i]? = some y) : l[i]? = some y ∨ (i = l.length ∧ y = x) := by
  by_cases q : i < l.length
  · rw [List.getElem?_append_left q] at h; exact .inl h
  · rw [List.getElem?_append_right (Nat.le_of_not_lt q)] at h
    rcases Nat.eq_or_lt_of_le (Nat.le_of_not_lt q) with e | e
    · rw [← e, Nat.sub_self] at h
      exact .inr ⟨e.symm, (Option.some.inj h).symm⟩
    · have : i - l.length ≠ 0 := by omega
      obtain ⟨k, hk⟩ := Nat.exists_eq_succ_of_ne_zero this
      rw [hk] at h
      simp at h
theorem set_get {α : Type} {l : List α} {x y : α} {i j : Nat} (h : (l.set i x)[j]? = some y) : (j ≠ i ∧ l[j]? = some y) ∨ (j = i ∧ y = x) := by
  by_cases q : i = j
  · subst q
    by_cases z : i < l.length
    · rw [List.getElem?_set_self z] at h; exact .inr ⟨rfl, (Option.some.inj h).symm⟩
    · rw [List.getElem?_eq_none (by rw [List.length_set]; omega)] at h; cases h
  · rw [List.getElem?_set_ne q] at h; exact .inl ⟨fun e => q e.symm, h⟩
theorem StL.addNode {news : Led} {lab : Addr → Lab} {σ : SS} {d : TN} (H : StL news lab σ) (fr : Fresh news d) :
    ∃ lab', StL (d.led ++ setL σ.T.R (listOf ((σ.T.ns.map fun (d : TN) => Value.ref d.inst) ++ [Value.ref d.inst]).toArray (σ.T.nR + 1)) news) lab' (σ.addNode d) ∧
      Step lab lab' news (d.led ++ setL σ.T.R (listOf ((σ.T.ns.map fun (d : TN) => Value.ref d.inst) ++ [Value.ref d.inst]).toArray (σ.T.nR + 1)) news) := by
  obtain ⟨mR, lR⟩ := H.ent _ _ _ .R
  have H1 : StL (setL σ.T.R (listOf ((σ.T.ns.map fun (d : TN) => Value.ref d.inst) ++ [Value.ref d.inst]).toArray (σ.T.nR + 1)) news) lab { σ with T := { σ.T with ns := σ.T.ns, nR := σ.T.nR } } ∨ True := .inr trivial
  clear H1
  have fr' : ∀ p ∈ d.led, ∀ q ∈ setL σ.T.R (listOf ((σ.T.ns.map fun (d : TN) => Value.ref d.inst) ++ [Value.ref d.inst]).toArray (σ.T.nR + 1)) news, q.1 < p.1 := (Fresh.set fr).all
  obtain ⟨n1, n2, n3, n4, n5⟩ := nodeLabs σ.T.ns.length fr
  refine ⟨labOn d.led (nodeLab d σ.T.ns.length) lab, ⟨fun ℓ a o e => ?_, fun a ha => ?_⟩, (Step.upd (by rw [lR]; intro h; cases h)).trans (Step.add fr')⟩
  · have old : ∀ {ℓ a o}, Ent σ ℓ a o → ℓ ≠ .R → (a, o) ∈ d.led ++ setL σ.T.R (listOf ((σ.T.ns.map fun (d : TN) => Value.ref d.inst) ++ [Value.ref d.inst]).toArray (σ.T.nR + 1)) news ∧ labOn d.led (nodeLab d σ.T.ns.length) lab a = ℓ := by
      intro ℓ a o e hn
      obtain ⟨m, l⟩ := H.ent _ _ _ e
      exact ⟨List.mem_append_right _ (setL_ne m fun q => hn (by rw [← l, ← lR]; exact congrArg lab q)), by rw [labOn_out (fr.ne m)]; exact l⟩
    have new : ∀ {a o}, (a, o) ∈ d.led → (a, o) ∈ d.led ++ setL σ.T.R (listOf ((σ.T.ns.map fun (d : TN) => Value.ref d.inst) ++ [Value.ref d.inst]).toArray (σ.T.nR + 1)) news ∧ labOn d.led (nodeLab d σ.T.ns.length) lab a = nodeLab d σ.T.ns.length a := fun h => ⟨List.mem_append_left _ h, labOn_in h⟩
    have hd := fr.node
    cases e with
    | t => exact old .t (by intro h; cases h)
    | dt => exact old .dt (by intro h; cases h)
    | R =>
      refine ⟨List.mem_append_right _ ?_, by show labOn d.led (nodeLab d σ.T.ns.length) lab σ.T.R = Lab.R; rw [labOn_out (fr.ne mR)]; exact lR⟩
      have e : ((σ.addNode d).T.ns.map fun (d : TN) => Value.ref d.inst) = (σ.T.ns.map fun (d : TN) => Value.ref d.inst) ++ [Value.ref d.inst] := by
        show ((σ.T.ns ++ [d]).map _) = _
        rw [List.map_append]; rfl
      rw [e]
      exact setL_self mR
    | inst h => rcases snoc_get h with h | ⟨rfl, rfl⟩
                · exact old (.inst h) (by intro h; cases h)
                · have := new hd.inst; rw [n4] at this; exact this
    | dict h => rcases snoc_get h with h | ⟨rfl, rfl⟩
                · exact old (.dict h) (by intro h; cases h)
                · have := new hd.dict; rw [n5] at this; exact this
    | ch h => rcases snoc_get h with h | ⟨rfl, rfl⟩
              · exact old (.ch h) (by intro h; cases h)
              · have := new hd.ch; rw [n3] at this; exact this
    | at_ h => rcases snoc_get h with h | ⟨rfl, rfl⟩
               · exact old (.at_ h) (by intro h; cases h)
               · have := new hd.at_; rw [n2] at this; exact this
    | ns h => rcases snoc_get h with h | ⟨rfl, rfl⟩
              · exact old (.ns h) (by intro h; cases h)
              · have := new hd.ns; rw [n1] at this; exact this
    | src => exact old .src (by intro h; cases h)
    | rl => exact old .rl (by intro h; cases h)
    | row h => exact old (.row h) (by intro h; cases h)
    | way h => exact old (.way h) (by intro h; cases h)
    | tup h hx => exact old (.tup h hx) (by intro h; cases h)
  · by_cases q : ∃ o, (a, o) ∈ d.led
    · obtain ⟨o, ho⟩ := q; exact ⟨o, List.mem_append_left _ ho⟩
    · rw [labOn_out fun p hp z => q ⟨p.2, by rw [← z]; exact hp⟩] at ha
      obtain ⟨o, ho⟩ := H.sup a ha
      by_cases z : a = σ.T.R
      · subst z; exact ⟨_, List.mem_append_right _ (setL_self ho)⟩
      · exact ⟨o, List.mem_append_right _ (setL_ne ho z)⟩
theorem PureT.addNode {b : Nat} {σ : SS} {d : TN} {news : Led} (P : PureT b σ.T) (fr : Fresh news d) : PureT (b + 1) (σ.addNode d).T := by
  refine ⟨?_, fun x hx => ?_⟩
  · show (σ.T.ns ++ [d]).length ≤ b + 1
    rw [List.length_append, List.length_singleton]; have := P.z; omega
  · rcases List.mem_append.mp hx with hx | hx
    · exact (P.n x hx).le (Nat.le_succ _)
    · rw [List.mem_singleton.mp hx]
      have n := fr.node
      obtain ⟨c1, c2, c3, _⟩ := fr.c
      exact ⟨n.chI, n.atI, n.nsI, by rw [c1]; exact Nat.zero_le _, by rw [c2]; exact Nat.zero_le _, by rw [c3]; exact Nat.zero_le _⟩
theorem StL.setNode {news : Led} {lab : Addr → Lab} {σ : SS} {i : Nat} {p p' : TN} {x : Addr} {o' : Obj} {ℓ₀ : Lab} (H : StL news lab σ) (hp : σ.T.ns[i]? = some p) (hx : lab x = ℓ₀) (hm : ∃ o, (x, o) ∈ news)
    (hne : ℓ₀ = .dict i ∨ ℓ₀ = .ch i ∨ ℓ₀ = .at_ i ∨ ℓ₀ = .ns i) (e1 : p'.inst = p.inst) (e2 : p'.dict = p.dict)
    (c1 : (Ent σ (.dict i) p'.dict (dictOf p'.ents p'.dn) ∧ Lab.dict i ≠ ℓ₀) ∨ (p'.dict = x ∧ dictOf p'.ents p'.dn = o' ∧ Lab.dict i = ℓ₀))
    (c2 : (Ent σ (.ch i) p'.ch (listOf p'.chV.toArray p'.chN) ∧ Lab.ch i ≠ ℓ₀) ∨ (p'.ch = x ∧ listOf p'.chV.toArray p'.chN = o' ∧ Lab.ch i = ℓ₀))
    (c3 : (Ent σ (.at_ i) p'.at_ (listOf p'.atV.toArray p'.atN) ∧ Lab.at_ i ≠ ℓ₀) ∨ (p'.at_ = x ∧ listOf p'.atV.toArray p'.atN = o' ∧ Lab.at_ i = ℓ₀))
    (c4 : (Ent σ (.ns i) p'.ns (listOf p'.nsV.toArray p'.nsN) ∧ Lab.ns i ≠ ℓ₀) ∨ (p'.ns = x ∧ listOf p'.nsV.toArray p'.nsN = o' ∧ Lab.ns i = ℓ₀)) :
    StL (setL x o' news) lab (σ.setNode i p') ∧ Step lab lab news (setL x o' news) := by
  have hno : ∀ ℓ : Lab, (∀ k, ℓ ≠ .dict k) → (∀ k, ℓ ≠ .ch k) → (∀ k, ℓ ≠ .at_ k) → (∀ k, ℓ ≠ .ns k) → ℓ ≠ ℓ₀ := by
    intro ℓ a b c d e
    rcases hne with h | h | h | h
    · exact a i (e.trans h)
    · exact b i (e.trans h)
    · exact c i (e.trans h)
    · exact d i (e.trans h)
  have hk : ∀ (f : Nat → Lab) (k : Nat), (f = .dict ∨ f = .ch ∨ f = .at_ ∨ f = .ns) → k ≠ i → f k ≠ ℓ₀ := by
    intro f k hf hki e
    rcases hf with rfl | rfl | rfl | rfl <;> rcases hne with h | h | h | h <;> rw [h] at e <;> first | (cases e; done) | (injection e with e; exact hki e)
  have E : ((σ.setNode i p').T.ns.map fun (d : TN) => Value.ref d.inst) = σ.T.ns.map fun (d : TN) => Value.ref d.inst := by
    show ((σ.T.ns.set i p').map _) = _
    apply List.ext_getElem?
    intro k
    rw [List.getElem?_map, List.getElem?_map, List.getElem?_set]
    split
    · rename_i z; subst z
      split
      · rw [hp]; show some (Value.ref p'.inst) = some (Value.ref p.inst); rw [e1]
      · rename_i z; rw [List.getElem?_eq_none (Nat.le_of_not_lt z)]
    · rfl
  refine ⟨H.upd hx hm fun ℓ a o q => ?_, Step.upd (by rw [hx]; intro h; rcases hne with e | e | e | e <;> rw [e] at h <;> cases h)⟩
  cases q with
  | t => exact .inl ⟨.t, hno _ nofun nofun nofun nofun⟩
  | dt => exact .inl ⟨.dt, hno _ nofun nofun nofun nofun⟩
  | R => rw [E]; exact .inl ⟨.R, hno _ nofun nofun nofun nofun⟩
  | inst h => rcases set_get h with ⟨z, h⟩ | ⟨rfl, rfl⟩
              · exact .inl ⟨.inst h, hno _ nofun nofun nofun nofun⟩
              · have q : Ent σ _ _ _ := .inst hp
                rw [← e1, ← e2] at q; exact .inl ⟨q, hno _ nofun nofun nofun nofun⟩
  | dict h => rcases set_get h with ⟨z, h⟩ | ⟨rfl, rfl⟩
              · exact .inl ⟨.dict h, hk _ _ (.inl rfl) z⟩
              · exact c1
  | ch h => rcases set_get h with ⟨z, h⟩ | ⟨rfl, rfl⟩
            · exact .inl ⟨.ch h, hk _ _ (.inr (.inl rfl)) z⟩
            · exact c2
  | at_ h => rcases set_get h with ⟨z, h⟩ | ⟨rfl, rfl⟩
             · exact .inl ⟨.at_ h, hk _ _ (.inr (.inr (.inl rfl))) z⟩
             · exact c3
  | ns h => rcases set_get h with ⟨z, h⟩ | ⟨rfl, rfl⟩
            · exact .inl ⟨.ns h, hk _ _ (.inr (.inr (.inr rfl))) z⟩
            · exact c4
  | src => exact .inl ⟨.src, hno _ nofun nofun nofun nofun⟩
  | rl => exact .inl ⟨.rl, hno _ nofun nofun nofun nofun⟩
  | row h => exact .inl ⟨.row h, hno _ nofun nofun nofun nofun⟩
  | way h => exact .inl ⟨.way h, hno _ nofun nofun nofun nofun⟩
  | tup h hx => exact .inl ⟨.tup h hx, hno _ nofun nofun nofun nofun⟩
noncomputable def TN.pushCh (p : TN) (v : Value) (j : Int) : TN := { p with chV := p.chV ++ [v], chN := p.chN + 1, chI := p.chI ++ [j] }
noncomputable def TN.pushAt (p : TN) (v : Value) (j : Int) : TN := { p with atV := p.atV ++ [v], atN := p.atN + 1, atI := p.atI ++ [j] }
noncomputable def TN.pushNs (p : TN) (v : Value) (j : Int) : TN := { p with nsV := p.nsV ++ [v], nsN := p.nsN + 1, nsI := p.nsI ++ [j] }
noncomputable def TN.putVal (p : TN) (v : Str) (k : Tok) : TN := { p with val := v, k4 := k }
theorem StL.pushCh {news : Led} {lab : Addr → Lab} {σ : SS} {i : Nat} {p : TN} (v : Value) (j : Int) (H : StL news lab σ) (hp : σ.T.ns[i]? = some p) :
    StL (setL p.ch (listOf (p.chV ++ [v]).toArray (p.chN + 1)) news) lab (σ.setNode i (p.pushCh v j)) ∧ Step lab lab news (setL p.ch (listOf (p.chV ++ [v]).toArray (p.chN + 1)) news) :=
  H.setNode hp (H.ent _ _ _ (.ch hp)).2 ⟨_, (H.ent _ _ _ (.ch hp)).1⟩ (.inr (.inl rfl)) rfl rfl (.inl ⟨@Ent.dict σ i p hp, nofun⟩) (.inr ⟨rfl, rfl, rfl⟩) (.inl ⟨@Ent.at_ σ i p hp, nofun⟩) (.inl ⟨@Ent.ns σ i p hp, nofun⟩)
theorem StL.pushAt {news : Led} {lab : Addr → Lab} {σ : SS} {i : Nat} {p : TN} (v : Value) (j : Int) (H : StL news lab σ) (hp : σ.T.ns[i]? = some p) :
    StL (setL p.at_ (listOf (p.atV ++ [v]).toArray (p.atN + 1)) news) lab (σ.setNode i (p.pushAt v j)) ∧ Step lab lab news (setL p.at_ (listOf (p.atV ++ [v]).toArray (p.atN + 1)) news) :=
  H.setNode hp (H.ent _ _ _ (.at_ hp)).2 ⟨_, (H.ent _ _ _ (.at_ hp)).1⟩ (.inr (.inr (.inl rfl))) rfl rfl (.inl ⟨@Ent.dict σ i p hp, nofun⟩) (.inl ⟨@Ent.ch σ i p hp, nofun⟩) (.inr ⟨rfl, rfl, rfl⟩) (.inl ⟨@Ent.ns σ i p hp, nofun⟩)
theorem StL.pushNs {news : Led} {lab : Addr → Lab} {σ : SS} {i : Nat} {p : TN} (v : Value) (j : Int) (H : StL news lab σ) (hp : σ.T.ns[i]? = some p) :
    StL (setL p.ns (listOf (p.nsV ++ [v]).toArray (p.nsN + 1)) news) lab (σ.setNode i (p.pushNs v j)) ∧ Step lab lab news (setL p.ns (listOf (p.nsV ++ [v]).toArray (p.nsN + 1)) news) :=
  H.setNode hp (H.ent _ _ _ (.ns hp)).2 ⟨_, (H.ent _ _ _ (.ns hp)).1⟩ (.inr (.inr (.inr rfl))) rfl rfl (.inl ⟨@Ent.dict σ i p hp, nofun⟩) (.inl ⟨@Ent.ch σ i p hp, nofun⟩) (.inl ⟨@Ent.at_ σ i p hp, nofun⟩) (.inr ⟨rfl, rfl, rfl⟩)
theorem StL.putVal {news : Led} {lab : Addr → Lab} {σ : SS} {i : Nat} {p : TN} (v : Str) (k : Tok) (H : StL news lab σ) (hp : σ.T.ns[i]? = some p) :
    StL (setL p.dict (dictOf (p.putVal v k).ents p.dn) news) lab (σ.setNode i (p.putVal v k)) ∧ Step lab lab news (setL p.dict (dictOf (p.putVal v k).ents p.dn) news) :=
  H.setNode hp (H.ent _ _ _ (.dict hp)).2 ⟨_, (H.ent _ _ _ (.dict hp)).1⟩ (.inl rfl) rfl rfl (.inr ⟨rfl, rfl, rfl⟩) (.inl ⟨@Ent.ch σ i p hp, nofun⟩) (.inl ⟨@Ent.at_ σ i p hp, nofun⟩) (.inl ⟨@Ent.ns σ i p hp, nofun⟩)
theorem PureT.setNode {b : Nat} {σ : SS} {i : Nat} {p : TN} (P : PureT b σ.T) (n : PureN b p) : PureT b (σ.setNode i p).T := by
  refine ⟨?_, fun x hx => ?_⟩
  · show (σ.T.ns.set i p).length ≤ b
    rw [List.length_set]; exact P.z
  · rcases List.mem_or_eq_of_mem_set hx with hx | rfl
    · exact P.n x hx
    · exact n
theorem PureT.le {b b' : Nat} {T : TS} (P : PureT b T) (h : b ≤ b') : PureT b' T := ⟨Nat.le_trans P.z h, fun d hd => (P.n d hd).le h⟩
theorem PureN.pushCh {b : Nat} {p : TN} {j : Int} {t : Tok} (h : PureN b p) : PureN (b + 1) (p.pushCh (.int j t) j) := by
  refine ⟨h.ch.append (.cons j t .nil), h.at_, h.ns, ?_, Nat.le_succ_of_le h.atZ, Nat.le_succ_of_le h.nsZ⟩
  show (p.chV ++ [_]).length ≤ b + 1
  rw [List.length_append, List.length_singleton]; have := h.chZ; omega
theorem PureN.pushAt {b : Nat} {p : TN} {j : Int} {t : Tok} (h : PureN b p) : PureN (b + 1) (p.pushAt (.int j t) j) := by
  refine ⟨h.ch, h.at_.append (.cons j t .nil), h.ns, Nat.le_succ_of_le h.chZ, ?_, Nat.le_succ_of_le h.nsZ⟩
  show (p.atV ++ [_]).length ≤ b + 1
  rw [List.length_append, List.length_singleton]; have := h.atZ; omega
theorem PureN.pushNs {b : Nat} {p : TN} {j : Int} {t : Tok} (h : PureN b p) : PureN (b + 1) (p.pushNs (.int j t) j) := by
  refine ⟨h.ch, h.at_, h.ns.append (.cons j t .nil), Nat.le_succ_of_le h.chZ, Nat.le_succ_of_le h.atZ, ?_⟩
  show (p.nsV ++ [_]).length ≤ b + 1
  rw [List.length_append, List.length_singleton]; have := h.nsZ; omega
theorem PureN.putVal {b : Nat} {p : TN} {v : Str} {k : Tok} (h : PureN b p) : PureN b (p.putVal v k) := ⟨h.ch, h.at_, h.ns, h.chZ, h.atZ, h.nsZ⟩
local macro_rules | `(tactic| walk_at "ph6") => `(tactic| fail_if_success (fail_if_success (have h9 : Ph 6 := by with_reducible assumption)))
local macro_rules | `(tactic| kwd_rel) => `(tactic| (walk_at "ph6"; first | assumption | exact StL.mono (by assumption) (by kd_subs)))
local macro_rules | `(tactic| kwd_rel) => `(tactic| (walk_at "ph6"; exact StL.tree (by kwd_rel) (by assumption) (by omega)))
local macro_rules | `(tactic| kwd_rel) => `(tactic| (walk_at "ph6"; assumption))
theorem W_parents {prog : Program} {w : World} {A : Around} {E : Value → Shared → Prop} {s : Shared} {t : Addr} {x : Str} {u t1 t2 : Tok} {Q : Value → Shared → Prop} (h : IsTup s.heap t #[.str (Str.ofString "root") t1, .str (Str.ofString "element") t2]) (hx : x = Str.ofString "root" ∨ x = Str.ofString "element") (hq : Q (.bool false) s) :
    wpAny (model prog w) A (compareOp .NotIn (.str x u) (.ref t)) Q E s := by
  refine notin_tuple_strs h (.cons _ _ (.cons _ _ .nil)) ?_
  rcases hx with rfl | rfl
  · exact hq
  · exact hq
section
variable {prog : Program} {w : World} {mean : ExcName → Option Value} {mg mb : Str → Option Value} {dp un : Nat} {gd : Option (List Code)} {cn : Str} {cs : Scope} {a : Addr} {ccd : Value} {cl : List (Str × Addr)} {outer : List Env} {A₀ : Around} {base h₀ : Heap} {L : Addr} {m : Str → Option Value} {news : Led} {s : Shared}
    {Q E : Value → Shared → Prop} {σ : SS} {lab : Addr → Lab} {b : Nat} {kind name uri loc val : Str} {k0 k1 k2 k3 k4 : Tok} {par : Value} {p : TN} {i : Int} {tk : Tok}
end
noncomputable def new_row_st_S (K : Params → Frag) (V : PySem.Program) : Prop := ∀ {prog : Program} {w : World} {mean : ExcName → Option Value} {mg mb : Str → Option Value} {dp un : Nat} {gd : Option (List Code)} {cn : Str} {cs : Scope} {a : Addr} {ccd : Value} {cl : List (Str × Addr)} {outer : List Env} {A₀ : Around} {base h₀ : Heap} {L : Addr} {m : Str → Option Value} {news : Led} {s : Shared} {Q E : Value → Shared → Prop} {σ : SS} {lab : Addr → Lab} {b : Nat} {kind name uri loc val : Str} {k0 k1 k2 k3 k4 : Tok} {par : Value} (B : Below A₀ base outer h₀) (F : Fr h₀ L s.heap m) (X : (K w.params).In h₀) (N : News h₀ L s.heap news) (Tp : Top V (looseW V []) mean mg mb h₀) (hk : cs.kind = .function) (hdp : dp + 8 < recursionLimit) (hu : un + 80 < cLine) {t : Addr} (e : σ.T.t = t) (nd : ND news) (H : StL news lab σ) (P : PureT b σ.T) (hb : b < 500) (hret : ∀ (d : TN) (tk : Tok) lab' news' h' tk', Fr h₀ L h' m → News h₀ L h' news' → ND news' → StL news' lab' (σ.addNode d) → Step lab lab' news news' → PureT (b + 1) (σ.addNode d).T → d.kind = kind → d.name = name → d.uri = uri → d.loc = loc → d.val = val → d.par = par → (d.chI = [] ∧ d.atI = [] ∧ d.nsI = []) →
      Q (.int (σ.T.ns.length : Int) tk) { s with heap := h', toks := tk' }),
    wpAny (model prog w) (ktrTop dp un gd cn cs L a ccd cl outer) (call (.ref 110) [.ref t, .str kind k0, .str name k1, .str uri k2, .str loc k3, .str val k4, par]) Q E s
theorem new_row_st_use {K : Params → Frag} {V : PySem.Program} (Z : new_row_st_S K V) : ∀ {prog : Program} {w : World} {mean : ExcName → Option Value} {mg mb : Str → Option Value} {dp un : Nat} {gd : Option (List Code)} {cn : Str} {cs : Scope} {a : Addr} {ccd : Value} {cl : List (Str × Addr)} {outer : List Env} {A₀ : Around} {base h₀ : Heap} {L : Addr} {m : Str → Option Value} {news : Led} {s : Shared} {Q E : Value → Shared → Prop} {σ : SS} {lab : Addr → Lab} {b : Nat} {kind name uri loc val : Str} {k0 k1 k2 k3 k4 : Tok} {par : Value} (B : Below A₀ base outer h₀) (F : Fr h₀ L s.heap m) (X : (K w.params).In h₀) (N : News h₀ L s.heap news) (Tp : Top V (looseW V []) mean mg mb h₀) (hk : cs.kind = .function) (hdp : dp + 8 < recursionLimit) (hu : un + 80 < cLine) {t : Addr} (e : σ.T.t = t) (nd : ND news) (H : StL news lab σ) (P : PureT b σ.T) (hb : b < 500) (hret : ∀ (d : TN) (tk : Tok) lab' news' h' tk', Fr h₀ L h' m → News h₀ L h' news' → ND news' → StL news' lab' (σ.addNode d) → Step lab lab' news news' → PureT (b + 1) (σ.addNode d).T → d.kind = kind → d.name = name → d.uri = uri → d.loc = loc → d.val = val → d.par = par → (d.chI = [] ∧ d.atI = [] ∧ d.nsI = []) →
      Q (.int (σ.T.ns.length : Int) tk) { s with heap := h', toks := tk' }),
    wpAny (model prog w) (ktrTop dp un gd cn cs L a ccd cl outer) (call (.ref 110) [.ref t, .str kind k0, .str name k1, .str uri k2, .str loc k3, .str val k4, par]) Q E s := Z
noncomputable def add_child_st_S (K : Params → Frag) (V : PySem.Program) : Prop := ∀ {prog : Program} {w : World} {mean : ExcName → Option Value} {mg mb : Str → Option Value} {dp un : Nat} {gd : Option (List Code)} {cn : Str} {cs : Scope} {a : Addr} {ccd : Value} {cl : List (Str × Addr)} {outer : List Env} {A₀ : Around} {base h₀ : Heap} {L : Addr} {m : Str → Option Value} {news : Led} {s : Shared} {Q E : Value → Shared → Prop} {σ : SS} {lab : Addr → Lab} {b : Nat} {kind name uri loc val : Str} {k0 k1 k2 k3 k4 : Tok} {p : TN} {i : Int} {tk : Tok} (B : Below A₀ base outer h₀) (F : Fr h₀ L s.heap m) (X : (K w.params).In h₀) (N : News h₀ L s.heap news) (Tp : Top V (looseW V []) mean mg mb h₀) (hk : cs.kind = .function) (hdp : dp + 12 < recursionLimit) (hu : un + 120 < cLine) {t : Addr} (e : σ.T.t = t) (nd : ND news) (H : StL news lab σ) (P : PureT b σ.T) (hb : b < 400) (h0 : 0 ≤ i) (hi : σ.T.ns[i.toNat]? = some p) (hp : p.kind = Str.ofString "root" ∨ p.kind = Str.ofString "element") (hret : ∀ (d : TN) (tk tk2 : Tok) lab' news' h' tk', Fr h₀ L h' m → News h₀ L h' news' → ND news' → StL news' lab' ((σ.addNode d).setNode i.toNat (p.pushCh (.int (σ.T.ns.length : Int) tk2) (σ.T.ns.length : Int))) → Step lab lab' news news' →
      PureT (b + 2) ((σ.addNode d).setNode i.toNat (p.pushCh (.int (σ.T.ns.length : Int) tk2) (σ.T.ns.length : Int))).T → d.kind = kind → d.loc = loc → (d.chI = [] ∧ d.atI = [] ∧ d.nsI = []) →
      Q (.int (σ.T.ns.length : Int) tk) { s with heap := h', toks := tk' }),
    wpAny (model prog w) (ktrTop dp un gd cn cs L a ccd cl outer) (call (.ref 131) [.ref t, .int i tk, .str kind k0, .str name k1, .str uri k2, .str loc k3, .str val k4]) Q E s
theorem add_child_st_use {K : Params → Frag} {V : PySem.Program} (Z : add_child_st_S K V) : ∀ {prog : Program} {w : World} {mean : ExcName → Option Value} {mg mb : Str → Option Value} {dp un : Nat} {gd : Option (List Code)} {cn : Str} {cs : Scope} {a : Addr} {ccd : Value} {cl : List (Str × Addr)} {outer : List Env} {A₀ : Around} {base h₀ : Heap} {L : Addr} {m : Str → Option Value} {news : Led} {s : Shared} {Q E : Value → Shared → Prop} {σ : SS} {lab : Addr → Lab} {b : Nat} {kind name uri loc val : Str} {k0 k1 k2 k3 k4 : Tok} {p : TN} {i : Int} {tk : Tok} (B : Below A₀ base outer h₀) (F : Fr h₀ L s.heap m) (X : (K w.params).In h₀) (N : News h₀ L s.heap news) (Tp : Top V (looseW V []) mean mg mb h₀) (hk : cs.kind = .function) (hdp : dp + 12 < recursionLimit) (hu : un + 120 < cLine) {t : Addr} (e : σ.T.t = t) (nd : ND news) (H : StL news lab σ) (P : PureT b σ.T) (hb : b < 400) (h0 : 0 ≤ i) (hi : σ.T.ns[i.toNat]? = some p) (hp : p.kind = Str.ofString "root" ∨ p.kind = Str.ofString "element") (hret : ∀ (d : TN) (tk tk2 : Tok) lab' news' h' tk', Fr h₀ L h' m → News h₀ L h' news' → ND news' → StL news' lab' ((σ.addNode d).setNode i.toNat (p.pushCh (.int (σ.T.ns.length : Int) tk2) (σ.T.ns.length : Int))) → Step lab lab' news news' →
      PureT (b + 2) ((σ.addNode d).setNode i.toNat (p.pushCh (.int (σ.T.ns.length : Int) tk2) (σ.T.ns.length : Int))).T → d.kind = kind → d.loc = loc → (d.chI = [] ∧ d.atI = [] ∧ d.nsI = []) →
      Q (.int (σ.T.ns.length : Int) tk) { s with heap := h', toks := tk' }),
    wpAny (model prog w) (ktrTop dp un gd cn cs L a ccd cl outer) (call (.ref 131) [.ref t, .int i tk, .str kind k0, .str name k1, .str uri k2, .str loc k3, .str val k4]) Q E s := Z
local macro_rules | `(tactic| walk_at "ph7") => `(tactic| fail_if_success (fail_if_success (have h9 : Ph 7 := by with_reducible assumption)))
local macro_rules | `(tactic| walk_at "compareOp NotIn str ref") => `(tactic| (walk_at "ph7"; (k_here; (with_reducible show wpAny _ _ (compareOp CmpOp.NotIn (Value.str _ _) (Value.ref _)) _ _ _); (with_unfolding_all refine' W_parents ?k1 ?k2 ?_; (case k1 => exact kun_topT (by k_asm) (by k_asm) (by k_is)); (case k2 => assumption); k_whole))))
local macro_rules | `(tactic| walk_at "call ref") => `(tactic| (k_here; k_dflt (refine' new_row_st_use (by with_reducible assumption) ?B ?F ?X ?N ?T ?hk ?hdp ?hu ?e ?nd ?H ?P ?hb ?_; (case B => k_asm); (case F => k_asm); (case X => k_asm); (case N => k_asm); (case T => k_asm); (case hk => first | exact rfl | assumption); (case nd => kwd_less); (case H => kwd_rel); (case P => assumption); (case hb => omega); (case hdp => ktr_room); (case hu => ktr_units); (case e => first | exact rfl | assumption); k_whole); intro d' tk' lab' news' h' tk9' F' N' nd' H' St' P' q0 q1 q2 q3 q4 q5 q6; refine Halt.mk ?_))
local macro_rules | `(tactic| walk_at "call ref") => `(tactic| (k_here; k_dflt (refine' add_child_st_use (by with_reducible assumption) ?B ?F ?X ?N ?T ?hk ?hdp ?hu ?e ?nd ?H ?P ?hb ?h0 ?hi ?hp ?_; (case B => k_asm); (case F => k_asm); (case X => k_asm); (case N => k_asm); (case T => k_asm); (case hk => first | exact rfl | assumption); (case nd => kwd_less); (case H => kwd_rel); (case P => assumption); (case hb => omega); (case h0 => omega); (case hi => assumption); (case hp => assumption); (case hdp => ktr_room); (case hu => ktr_units); (case e => first | exact rfl | assumption); k_whole); intro d' tk' tk2' lab' news' h' tk9' F' N' nd' H' St' P' q0 q1 q2; (try dsimp only)))
/-! a loop over a list that its turns leave as it stands -/
noncomputable def StaticPost (h₀ : Heap) (L : Addr) (J : (Str → Option Value) → Prop) (ny : Led) (s₁ : Shared) (Q : Flow → Shared → Prop) (f : Flow) (s₂ : Shared) : Prop :=
  match f with
  | .ret v => Q (.ret v) s₂
  | .brk => Q .next s₂
  | _ => ∃ h' tk m', s₂ = { s₁ with heap := h', toks := tk } ∧ Fr h₀ L h' m' ∧ News h₀ L h' ny ∧ J m'
theorem StaticPost.of {h₀ h' : Heap} {L : Addr} {J : (Str → Option Value) → Prop} {ny : Led} {s₁ : Shared} {Q : Flow → Shared → Prop} {m' : Str → Option Value} {tk' : Nat} (F : Fr h₀ L h' m') (N : News h₀ L h' ny) (j : J m') : StaticPost h₀ L J ny s₁ Q .next { s₁ with heap := h', toks := tk' } := ⟨h', tk', m', rfl, F, N, j⟩
theorem StaticPost.ret {h₀ : Heap} {L : Addr} {J : (Str → Option Value) → Prop} {ny : Led} {s₁ s₂ : Shared} {Q : Flow → Shared → Prop} {v : Value} (h : Q (.ret v) s₂) : StaticPost h₀ L J ny s₁ Q (.ret v) s₂ := h
theorem iter_static {prog : Program} {w : World} {A : Around} {E : Value → Shared → Prop} {s : Shared} {env : Env} {h₀ : Heap} {x : Str} {body : List Stmt} {Q : Flow → Shared → Prop} {l : Addr} {vs : List Value} {nn : Nat} {m₀ : Str → Option Value} {news : Led}
    (J : Nat → (Str → Option Value) → Prop) (hh : A.handled = none) (hl : (l, listOf vs.toArray nn) ∈ news) (F : Fr h₀ env.locals s.heap m₀) (N : News h₀ env.locals s.heap news) (hJ : J 0 m₀)
    (turn : ∀ k v m₁ ny h tk, vs[k]? = some v → J k m₁ → ND ny → (∀ e ∈ news, e ∈ ny) → Fr h₀ env.locals h (fun y => if y = x then some v else m₁ y) → News h₀ env.locals h ny →
      wpAny (model prog w) A (execs body env) (StaticPost h₀ env.locals (J (k + 1)) ny { s with heap := h, toks := tk } Q) E { s with heap := h, toks := tk })
    (done : ∀ m₁ h tk, J vs.length m₁ → Fr h₀ env.locals h m₁ → News h₀ env.locals h news → Q .next { s with heap := h, toks := tk }) :
    wpAny (model prog w) A (pyIter (.ref l)) (fun it s₂ => LoopAtV prog w A h₀ env x body Q E it s₂) E s := by
  refine kdl_iter (fun k m₁ nx => nx = news ∧ J k m₁) hh hl F N ⟨rfl, hJ⟩ ?_ ?_
  · rintro k v m₁ nx h tk own hv hoff hl' ⟨rfl, hj⟩ F₁ N₁
    obtain ⟨ny, nd, N₂, s1, s2⟩ := norm_led N₁
    refine wpAny_mono (turn k v m₁ ny h tk hv hj nd (fun e he => s1 _ (List.mem_append_left _ he)) F₁ N₂) (fun f s₂ p => ?_) fun _ _ e => e
    cases f with
    | ret v => exact p
    | brk => exact p
    | next =>
      obtain ⟨h', tk', m', e, F', N', j⟩ := p
      exact ⟨h', tk', m', ny, nx, e, F', N', fun p hp => s1 _ (List.mem_append_left _ hp), fun p hp => s1 _ (List.mem_append_right _ hp), hoff, hl', rfl, j⟩
    | cont =>
      obtain ⟨h', tk', m', e, F', N', j⟩ := p
      exact ⟨h', tk', m', ny, nx, e, F', N', fun p hp => s1 _ (List.mem_append_left _ hp), fun p hp => s1 _ (List.mem_append_right _ hp), hoff, hl', rfl, j⟩
  · rintro m₁ nx h tk ⟨rfl, hj⟩ F₁ N₁
    exact done m₁ h tk hj F₁ N₁
theorem iter_off {prog : Program} {w : World} {A : Around} {E : Value → Shared → Prop} {s : Shared} {env : Env} {h₀ : Heap} {x : Str} {body : List Stmt} {Q : Flow → Shared → Prop} {l : Addr} {vs : List Value} {nn : Nat} {m₀ : Str → Option Value} {news : Led}
    (st : List Str) (hh : A.handled = none) (hl : (l, listOf vs.toArray nn) ∈ news) (F : Fr h₀ env.locals s.heap m₀) (N : News h₀ env.locals s.heap news)
    (turn : ∀ (k : Nat) (v : Value) (m₁ : Str → Option Value) (ny : Led) (h : Heap) (tk : Nat), vs[k]? = some v → ND ny → (∀ e ∈ news, e ∈ ny) → Fr h₀ env.locals h (fun y => if y = x then some v else if st.contains y = true then m₁ y else m₀ y) → News h₀ env.locals h ny →
      wpAny (model prog w) A (execs body env) (StaticPost h₀ env.locals (fun m' => ∀ z, st.contains z = false → z ≠ x → m' z = m₀ z) ny { s with heap := h, toks := tk } Q) E { s with heap := h, toks := tk })
    (done : ∀ (m₁ : Str → Option Value) (h : Heap) (tk : Nat), Fr h₀ env.locals h (fun y => if y = x then m₁ y else if st.contains y = true then m₁ y else m₀ y) → News h₀ env.locals h news → Q .next { s with heap := h, toks := tk }) :
    wpAny (model prog w) A (pyIter (.ref l)) (fun it s₂ => LoopAtV prog w A h₀ env x body Q E it s₂) E s := by
  refine iter_static (fun _ m' => ∀ z, st.contains z = false → z ≠ x → m' z = m₀ z) hh hl F N (fun _ _ _ => rfl) ?_ ?_
  · intro k v m₁ ny h tk hv hj nd hs F₁ N₁
    refine turn k v m₁ ny h tk hv nd hs ?_ N₁
    have e : (fun y => if y = x then some v else if st.contains y = true then m₁ y else m₀ y) = fun y => if y = x then some v else m₁ y := by
      funext y
      by_cases h1 : y = x
      · simp only [if_pos h1]
      · simp only [if_neg h1]
        cases h2 : st.contains y with
        | true => simp
        | false => simp only [Bool.false_eq_true, if_false]; exact (hj y h2 h1).symm
    rw [e]; exact F₁
  · intro m₁ h tk hj F₁ N₁
    refine done m₁ h tk ?_ N₁
    have e : (fun y => if y = x then m₁ y else if st.contains y = true then m₁ y else m₀ y) = m₁ := by
      funext y
      by_cases h1 : y = x
      · simp only [if_pos h1]
      · simp only [if_neg h1]
        cases h2 : st.contains y with
        | true => simp
        | false => simp only [Bool.false_eq_true, if_false]; exact (hj y h2 h1).symm
    rw [e]; exact F₁
section
variable {prog : Program} {w : World} {mean : ExcName → Option Value} {mg mb : Str → Option Value} {dp un : Nat} {gd : Option (List Code)} {cn : Str} {cs : Scope} {a : Addr} {ccd : Value} {cl : List (Str × Addr)} {outer : List Env} {A₀ : Around} {base h₀ : Heap} {L : Addr} {m : Str → Option Value} {news : Led} {s : Shared}
    {Q E : Value → Shared → Prop} {σ : SS} {lab : Addr → Lab} {b : Nat} {kind name uri loc val : Str} {k0 k1 k2 k3 k4 : Tok} {par : Value} {p : TN} {i : Int} {tk : Tok}
end
noncomputable def add_element_st_S (K : Params → Frag) (V : PySem.Program) : Prop := ∀ {prog : Program} {w : World} {mean : ExcName → Option Value} {mg mb : Str → Option Value} {dp un : Nat} {gd : Option (List Code)} {cn : Str} {cs : Scope} {a : Addr} {ccd : Value} {cl : List (Str × Addr)} {outer : List Env} {A₀ : Around} {base h₀ : Heap} {L : Addr} {m : Str → Option Value} {news : Led} {s : Shared} {Q E : Value → Shared → Prop} {σ : SS} {lab : Addr → Lab} {b : Nat} {name uri loc : Str} {k1 k2 k3 : Tok} {p : TN} {i : Int} {tk : Tok} (B : Below A₀ base outer h₀) (F : Fr h₀ L s.heap m) (X : (K w.params).In h₀) (N : News h₀ L s.heap news) (Tp : Top V (looseW V []) mean mg mb h₀) (hk : cs.kind = .function) (hdp : dp + 16 < recursionLimit) (hu : un + 160 < cLine) {t : Addr} (e : σ.T.t = t) (nd : ND news) (H : StL news lab σ) (P : PureT b σ.T) (hb : b < 400) (h0 : 0 ≤ i) (hi : σ.T.ns[i.toNat]? = some p) (hp : p.kind = Str.ofString "root" ∨ p.kind = Str.ofString "element") (hret : ∀ (d : TN) (tk tk2 : Tok) lab' news' h' tk', Fr h₀ L h' m → News h₀ L h' news' → ND news' → StL news' lab' ((σ.addNode d).setNode i.toNat (p.pushCh (.int (σ.T.ns.length : Int) tk2) (σ.T.ns.length : Int))) → Step lab lab' news news' →
      PureT (b + 2) ((σ.addNode d).setNode i.toNat (p.pushCh (.int (σ.T.ns.length : Int) tk2) (σ.T.ns.length : Int))).T → d.kind = Str.ofString "element" → d.loc = loc → (d.chI = [] ∧ d.atI = [] ∧ d.nsI = []) →
      Q (.int (σ.T.ns.length : Int) tk) { s with heap := h', toks := tk' }),
    wpAny (model prog w) (ktrTop dp un gd cn cs L a ccd cl outer) (call (.ref 138) [.ref t, .int i tk, .str name k1, .str uri k2, .str loc k3]) Q E s
theorem add_element_st_use {K : Params → Frag} {V : PySem.Program} (Z : add_element_st_S K V) : ∀ {prog : Program} {w : World} {mean : ExcName → Option Value} {mg mb : Str → Option Value} {dp un : Nat} {gd : Option (List Code)} {cn : Str} {cs : Scope} {a : Addr} {ccd : Value} {cl : List (Str × Addr)} {outer : List Env} {A₀ : Around} {base h₀ : Heap} {L : Addr} {m : Str → Option Value} {news : Led} {s : Shared} {Q E : Value → Shared → Prop} {σ : SS} {lab : Addr → Lab} {b : Nat} {name uri loc : Str} {k1 k2 k3 : Tok} {p : TN} {i : Int} {tk : Tok} (B : Below A₀ base outer h₀) (F : Fr h₀ L s.heap m) (X : (K w.params).In h₀) (N : News h₀ L s.heap news) (Tp : Top V (looseW V []) mean mg mb h₀) (hk : cs.kind = .function) (hdp : dp + 16 < recursionLimit) (hu : un + 160 < cLine) {t : Addr} (e : σ.T.t = t) (nd : ND news) (H : StL news lab σ) (P : PureT b σ.T) (hb : b < 400) (h0 : 0 ≤ i) (hi : σ.T.ns[i.toNat]? = some p) (hp : p.kind = Str.ofString "root" ∨ p.kind = Str.ofString "element") (hret : ∀ (d : TN) (tk tk2 : Tok) lab' news' h' tk', Fr h₀ L h' m → News h₀ L h' news' → ND news' → StL news' lab' ((σ.addNode d).setNode i.toNat (p.pushCh (.int (σ.T.ns.length : Int) tk2) (σ.T.ns.length : Int))) → Step lab lab' news news' →
      PureT (b + 2) ((σ.addNode d).setNode i.toNat (p.pushCh (.int (σ.T.ns.length : Int) tk2) (σ.T.ns.length : Int))).T → d.kind = Str.ofString "element" → d.loc = loc → (d.chI = [] ∧ d.atI = [] ∧ d.nsI = []) →
      Q (.int (σ.T.ns.length : Int) tk) { s with heap := h', toks := tk' }),
    wpAny (model prog w) (ktrTop dp un gd cn cs L a ccd cl outer) (call (.ref 138) [.ref t, .int i tk, .str name k1, .str uri k2, .str loc k3]) Q E s := Z
noncomputable def add_text_st_S (K : Params → Frag) (V : PySem.Program) : Prop := ∀ {prog : Program} {w : World} {mean : ExcName → Option Value} {mg mb : Str → Option Value} {dp un : Nat} {gd : Option (List Code)} {cn : Str} {cs : Scope} {a : Addr} {ccd : Value} {cl : List (Str × Addr)} {outer : List Env} {A₀ : Around} {base h₀ : Heap} {L : Addr} {m : Str → Option Value} {news : Led} {s : Shared} {Q E : Value → Shared → Prop} {σ : SS} {lab : Addr → Lab} {b : Nat} {val : Str} {k4 : Tok} {p : TN} {i : Int} {tk : Tok} (B : Below A₀ base outer h₀) (F : Fr h₀ L s.heap m) (X : (K w.params).In h₀) (N : News h₀ L s.heap news) (Tp : Top V (looseW V []) mean mg mb h₀) (hk : cs.kind = .function) (hdp : dp + 16 < recursionLimit) (hu : un + 160 < cLine) {t : Addr} (e : σ.T.t = t) (nd : ND news) (H : StL news lab σ) (P : PureT b σ.T) (hb : b < 400) (h0 : 0 ≤ i) (hi : σ.T.ns[i.toNat]? = some p) (hp : p.kind = Str.ofString "root" ∨ p.kind = Str.ofString "element") (hret : ∀ (d : TN) (tk tk2 : Tok) lab' news' h' tk', Fr h₀ L h' m → News h₀ L h' news' → ND news' → StL news' lab' ((σ.addNode d).setNode i.toNat (p.pushCh (.int (σ.T.ns.length : Int) tk2) (σ.T.ns.length : Int))) → Step lab lab' news news' →
      PureT (b + 2) ((σ.addNode d).setNode i.toNat (p.pushCh (.int (σ.T.ns.length : Int) tk2) (σ.T.ns.length : Int))).T → d.kind = Str.ofString "text" → d.loc = Str.ofString "" → (d.chI = [] ∧ d.atI = [] ∧ d.nsI = []) →
      Q (.int (σ.T.ns.length : Int) tk) { s with heap := h', toks := tk' }),
    wpAny (model prog w) (ktrTop dp un gd cn cs L a ccd cl outer) (call (.ref 145) [.ref t, .int i tk, .str val k4]) Q E s
theorem add_text_st_use {K : Params → Frag} {V : PySem.Program} (Z : add_text_st_S K V) : ∀ {prog : Program} {w : World} {mean : ExcName → Option Value} {mg mb : Str → Option Value} {dp un : Nat} {gd : Option (List Code)} {cn : Str} {cs : Scope} {a : Addr} {ccd : Value} {cl : List (Str × Addr)} {outer : List Env} {A₀ : Around} {base h₀ : Heap} {L : Addr} {m : Str → Option Value} {news : Led} {s : Shared} {Q E : Value → Shared → Prop} {σ : SS} {lab : Addr → Lab} {b : Nat} {val : Str} {k4 : Tok} {p : TN} {i : Int} {tk : Tok} (B : Below A₀ base outer h₀) (F : Fr h₀ L s.heap m) (X : (K w.params).In h₀) (N : News h₀ L s.heap news) (Tp : Top V (looseW V []) mean mg mb h₀) (hk : cs.kind = .function) (hdp : dp + 16 < recursionLimit) (hu : un + 160 < cLine) {t : Addr} (e : σ.T.t = t) (nd : ND news) (H : StL news lab σ) (P : PureT b σ.T) (hb : b < 400) (h0 : 0 ≤ i) (hi : σ.T.ns[i.toNat]? = some p) (hp : p.kind = Str.ofString "root" ∨ p.kind = Str.ofString "element") (hret : ∀ (d : TN) (tk tk2 : Tok) lab' news' h' tk', Fr h₀ L h' m → News h₀ L h' news' → ND news' → StL news' lab' ((σ.addNode d).setNode i.toNat (p.pushCh (.int (σ.T.ns.length : Int) tk2) (σ.T.ns.length : Int))) → Step lab lab' news news' →
      PureT (b + 2) ((σ.addNode d).setNode i.toNat (p.pushCh (.int (σ.T.ns.length : Int) tk2) (σ.T.ns.length : Int))).T → d.kind = Str.ofString "text" → d.loc = Str.ofString "" → (d.chI = [] ∧ d.atI = [] ∧ d.nsI = []) →
      Q (.int (σ.T.ns.length : Int) tk) { s with heap := h', toks := tk' }),
    wpAny (model prog w) (ktrTop dp un gd cn cs L a ccd cl outer) (call (.ref 145) [.ref t, .int i tk, .str val k4]) Q E s := Z
noncomputable def add_comment_st_S (K : Params → Frag) (V : PySem.Program) : Prop := ∀ {prog : Program} {w : World} {mean : ExcName → Option Value} {mg mb : Str → Option Value} {dp un : Nat} {gd : Option (List Code)} {cn : Str} {cs : Scope} {a : Addr} {ccd : Value} {cl : List (Str × Addr)} {outer : List Env} {A₀ : Around} {base h₀ : Heap} {L : Addr} {m : Str → Option Value} {news : Led} {s : Shared} {Q E : Value → Shared → Prop} {σ : SS} {lab : Addr → Lab} {b : Nat} {val : Str} {k4 : Tok} {p : TN} {i : Int} {tk : Tok} (B : Below A₀ base outer h₀) (F : Fr h₀ L s.heap m) (X : (K w.params).In h₀) (N : News h₀ L s.heap news) (Tp : Top V (looseW V []) mean mg mb h₀) (hk : cs.kind = .function) (hdp : dp + 16 < recursionLimit) (hu : un + 160 < cLine) {t : Addr} (e : σ.T.t = t) (nd : ND news) (H : StL news lab σ) (P : PureT b σ.T) (hb : b < 400) (h0 : 0 ≤ i) (hi : σ.T.ns[i.toNat]? = some p) (hp : p.kind = Str.ofString "root" ∨ p.kind = Str.ofString "element") (hret : ∀ (d : TN) (tk tk2 : Tok) lab' news' h' tk', Fr h₀ L h' m → News h₀ L h' news' → ND news' → StL news' lab' ((σ.addNode d).setNode i.toNat (p.pushCh (.int (σ.T.ns.length : Int) tk2) (σ.T.ns.length : Int))) → Step lab lab' news news' →
      PureT (b + 2) ((σ.addNode d).setNode i.toNat (p.pushCh (.int (σ.T.ns.length : Int) tk2) (σ.T.ns.length : Int))).T → d.kind = Str.ofString "comment" → d.loc = Str.ofString "" → (d.chI = [] ∧ d.atI = [] ∧ d.nsI = []) →
      Q (.int (σ.T.ns.length : Int) tk) { s with heap := h', toks := tk' }),
    wpAny (model prog w) (ktrTop dp un gd cn cs L a ccd cl outer) (call (.ref 152) [.ref t, .int i tk, .str val k4]) Q E s
theorem add_comment_st_use {K : Params → Frag} {V : PySem.Program} (Z : add_comment_st_S K V) : ∀ {prog : Program} {w : World} {mean : ExcName → Option Value} {mg mb : Str → Option Value} {dp un : Nat} {gd : Option (List Code)} {cn : Str} {cs : Scope} {a : Addr} {ccd : Value} {cl : List (Str × Addr)} {outer : List Env} {A₀ : Around} {base h₀ : Heap} {L : Addr} {m : Str → Option Value} {news : Led} {s : Shared} {Q E : Value → Shared → Prop} {σ : SS} {lab : Addr → Lab} {b : Nat} {val : Str} {k4 : Tok} {p : TN} {i : Int} {tk : Tok} (B : Below A₀ base outer h₀) (F : Fr h₀ L s.heap m) (X : (K w.params).In h₀) (N : News h₀ L s.heap news) (Tp : Top V (looseW V []) mean mg mb h₀) (hk : cs.kind = .function) (hdp : dp + 16 < recursionLimit) (hu : un + 160 < cLine) {t : Addr} (e : σ.T.t = t) (nd : ND news) (H : StL news lab σ) (P : PureT b σ.T) (hb : b < 400) (h0 : 0 ≤ i) (hi : σ.T.ns[i.toNat]? = some p) (hp : p.kind = Str.ofString "root" ∨ p.kind = Str.ofString "element") (hret : ∀ (d : TN) (tk tk2 : Tok) lab' news' h' tk', Fr h₀ L h' m → News h₀ L h' news' → ND news' → StL news' lab' ((σ.addNode d).setNode i.toNat (p.pushCh (.int (σ.T.ns.length : Int) tk2) (σ.T.ns.length : Int))) → Step lab lab' news news' →
      PureT (b + 2) ((σ.addNode d).setNode i.toNat (p.pushCh (.int (σ.T.ns.length : Int) tk2) (σ.T.ns.length : Int))).T → d.kind = Str.ofString "comment" → d.loc = Str.ofString "" → (d.chI = [] ∧ d.atI = [] ∧ d.nsI = []) →
      Q (.int (σ.T.ns.length : Int) tk) { s with heap := h', toks := tk' }),
    wpAny (model prog w) (ktrTop dp un gd cn cs L a ccd cl outer) (call (.ref 152) [.ref t, .int i tk, .str val k4]) Q E s := Z
noncomputable def add_instruction_st_S (K : Params → Frag) (V : PySem.Program) : Prop := ∀ {prog : Program} {w : World} {mean : ExcName → Option Value} {mg mb : Str → Option Value} {dp un : Nat} {gd : Option (List Code)} {cn : Str} {cs : Scope} {a : Addr} {ccd : Value} {cl : List (Str × Addr)} {outer : List Env} {A₀ : Around} {base h₀ : Heap} {L : Addr} {m : Str → Option Value} {news : Led} {s : Shared} {Q E : Value → Shared → Prop} {σ : SS} {lab : Addr → Lab} {b : Nat} {name val : Str} {k1 k4 : Tok} {p : TN} {i : Int} {tk : Tok} (B : Below A₀ base outer h₀) (F : Fr h₀ L s.heap m) (X : (K w.params).In h₀) (N : News h₀ L s.heap news) (Tp : Top V (looseW V []) mean mg mb h₀) (hk : cs.kind = .function) (hdp : dp + 16 < recursionLimit) (hu : un + 160 < cLine) {t : Addr} (e : σ.T.t = t) (nd : ND news) (H : StL news lab σ) (P : PureT b σ.T) (hb : b < 400) (h0 : 0 ≤ i) (hi : σ.T.ns[i.toNat]? = some p) (hp : p.kind = Str.ofString "root" ∨ p.kind = Str.ofString "element") (hret : ∀ (d : TN) (tk tk2 : Tok) lab' news' h' tk', Fr h₀ L h' m → News h₀ L h' news' → ND news' → StL news' lab' ((σ.addNode d).setNode i.toNat (p.pushCh (.int (σ.T.ns.length : Int) tk2) (σ.T.ns.length : Int))) → Step lab lab' news news' →
      PureT (b + 2) ((σ.addNode d).setNode i.toNat (p.pushCh (.int (σ.T.ns.length : Int) tk2) (σ.T.ns.length : Int))).T → d.kind = Str.ofString "instruction" → d.loc = name → (d.chI = [] ∧ d.atI = [] ∧ d.nsI = []) →
      Q (.int (σ.T.ns.length : Int) tk) { s with heap := h', toks := tk' }),
    wpAny (model prog w) (ktrTop dp un gd cn cs L a ccd cl outer) (call (.ref 159) [.ref t, .int i tk, .str name k1, .str val k4]) Q E s
theorem add_instruction_st_use {K : Params → Frag} {V : PySem.Program} (Z : add_instruction_st_S K V) : ∀ {prog : Program} {w : World} {mean : ExcName → Option Value} {mg mb : Str → Option Value} {dp un : Nat} {gd : Option (List Code)} {cn : Str} {cs : Scope} {a : Addr} {ccd : Value} {cl : List (Str × Addr)} {outer : List Env} {A₀ : Around} {base h₀ : Heap} {L : Addr} {m : Str → Option Value} {news : Led} {s : Shared} {Q E : Value → Shared → Prop} {σ : SS} {lab : Addr → Lab} {b : Nat} {name val : Str} {k1 k4 : Tok} {p : TN} {i : Int} {tk : Tok} (B : Below A₀ base outer h₀) (F : Fr h₀ L s.heap m) (X : (K w.params).In h₀) (N : News h₀ L s.heap news) (Tp : Top V (looseW V []) mean mg mb h₀) (hk : cs.kind = .function) (hdp : dp + 16 < recursionLimit) (hu : un + 160 < cLine) {t : Addr} (e : σ.T.t = t) (nd : ND news) (H : StL news lab σ) (P : PureT b σ.T) (hb : b < 400) (h0 : 0 ≤ i) (hi : σ.T.ns[i.toNat]? = some p) (hp : p.kind = Str.ofString "root" ∨ p.kind = Str.ofString "element") (hret : ∀ (d : TN) (tk tk2 : Tok) lab' news' h' tk', Fr h₀ L h' m → News h₀ L h' news' → ND news' → StL news' lab' ((σ.addNode d).setNode i.toNat (p.pushCh (.int (σ.T.ns.length : Int) tk2) (σ.T.ns.length : Int))) → Step lab lab' news news' →
      PureT (b + 2) ((σ.addNode d).setNode i.toNat (p.pushCh (.int (σ.T.ns.length : Int) tk2) (σ.T.ns.length : Int))).T → d.kind = Str.ofString "instruction" → d.loc = name → (d.chI = [] ∧ d.atI = [] ∧ d.nsI = []) →
      Q (.int (σ.T.ns.length : Int) tk) { s with heap := h', toks := tk' }),
    wpAny (model prog w) (ktrTop dp un gd cn cs L a ccd cl outer) (call (.ref 159) [.ref t, .int i tk, .str name k1, .str val k4]) Q E s := Z
noncomputable def new_root_st_S (K : Params → Frag) (V : PySem.Program) : Prop := ∀ {prog : Program} {w : World} {mean : ExcName → Option Value} {mg mb : Str → Option Value} {dp un : Nat} {gd : Option (List Code)} {cn : Str} {cs : Scope} {a : Addr} {ccd : Value} {cl : List (Str × Addr)} {outer : List Env} {A₀ : Around} {base h₀ : Heap} {L : Addr} {m : Str → Option Value} {news : Led} {s : Shared} {Q E : Value → Shared → Prop} {σ : SS} {lab : Addr → Lab} {b : Nat} (B : Below A₀ base outer h₀) (F : Fr h₀ L s.heap m) (X : (K w.params).In h₀) (N : News h₀ L s.heap news) (Tp : Top V (looseW V []) mean mg mb h₀) (hk : cs.kind = .function) (hdp : dp + 12 < recursionLimit) (hu : un + 120 < cLine) {t : Addr} (e : σ.T.t = t) (nd : ND news) (H : StL news lab σ) (P : PureT b σ.T) (hb : b < 400) (hret : ∀ (d : TN) (tk : Tok) lab' news' h' tk', Fr h₀ L h' m → News h₀ L h' news' → ND news' → StL news' lab' (σ.addNode d) → Step lab lab' news news' → PureT (b + 1) (σ.addNode d).T → d.kind = Str.ofString "root" → (d.chI = [] ∧ d.atI = [] ∧ d.nsI = []) →
      Q (.int (σ.T.ns.length : Int) tk) { s with heap := h', toks := tk' }),
    wpAny (model prog w) (ktrTop dp un gd cn cs L a ccd cl outer) (call (.ref 124) [.ref t]) Q E s
theorem new_root_st_use {K : Params → Frag} {V : PySem.Program} (Z : new_root_st_S K V) : ∀ {prog : Program} {w : World} {mean : ExcName → Option Value} {mg mb : Str → Option Value} {dp un : Nat} {gd : Option (List Code)} {cn : Str} {cs : Scope} {a : Addr} {ccd : Value} {cl : List (Str × Addr)} {outer : List Env} {A₀ : Around} {base h₀ : Heap} {L : Addr} {m : Str → Option Value} {news : Led} {s : Shared} {Q E : Value → Shared → Prop} {σ : SS} {lab : Addr → Lab} {b : Nat} (B : Below A₀ base outer h₀) (F : Fr h₀ L s.heap m) (X : (K w.params).In h₀) (N : News h₀ L s.heap news) (Tp : Top V (looseW V []) mean mg mb h₀) (hk : cs.kind = .function) (hdp : dp + 12 < recursionLimit) (hu : un + 120 < cLine) {t : Addr} (e : σ.T.t = t) (nd : ND news) (H : StL news lab σ) (P : PureT b σ.T) (hb : b < 400) (hret : ∀ (d : TN) (tk : Tok) lab' news' h' tk', Fr h₀ L h' m → News h₀ L h' news' → ND news' → StL news' lab' (σ.addNode d) → Step lab lab' news news' → PureT (b + 1) (σ.addNode d).T → d.kind = Str.ofString "root" → (d.chI = [] ∧ d.atI = [] ∧ d.nsI = []) →
      Q (.int (σ.T.ns.length : Int) tk) { s with heap := h', toks := tk' }),
    wpAny (model prog w) (ktrTop dp un gd cn cs L a ccd cl outer) (call (.ref 124) [.ref t]) Q E s := Z
local macro_rules | `(tactic| walk_at "call ref") => `(tactic| (k_here; k_dflt (refine' add_element_st_use (by with_reducible assumption) ?B ?F ?X ?N ?T ?hk ?hdp ?hu ?e ?nd ?H ?P ?hb ?h0 ?hi ?hp ?_; (case B => k_asm); (case F => k_asm); (case X => k_asm); (case N => k_asm); (case T => k_asm); (case hk => first | exact rfl | assumption); (case nd => kwd_less); (case H => kwd_rel); (case P => assumption); (case hb => omega); (case h0 => omega); (case hi => assumption); (case hp => assumption); (case hdp => ktr_room); (case hu => ktr_units); (case e => first | exact rfl | assumption); k_whole); intro d' tk' tk2' lab' news' h' tk9' F' N' nd' H' St' P' q0 q1 q2; refine Halt.mk ?_))
local macro_rules | `(tactic| walk_at "call ref") => `(tactic| (k_here; k_dflt (refine' add_text_st_use (by with_reducible assumption) ?B ?F ?X ?N ?T ?hk ?hdp ?hu ?e ?nd ?H ?P ?hb ?h0 ?hi ?hp ?_; (case B => k_asm); (case F => k_asm); (case X => k_asm); (case N => k_asm); (case T => k_asm); (case hk => first | exact rfl | assumption); (case nd => kwd_less); (case H => kwd_rel); (case P => assumption); (case hb => omega); (case h0 => omega); (case hi => assumption); (case hp => assumption); (case hdp => ktr_room); (case hu => ktr_units); (case e => first | exact rfl | assumption); k_whole); intro d' tk' tk2' lab' news' h' tk9' F' N' nd' H' St' P' q0 q1 q2; refine Halt.mk ?_))
local macro_rules | `(tactic| walk_at "call ref") => `(tactic| (k_here; k_dflt (refine' add_comment_st_use (by with_reducible assumption) ?B ?F ?X ?N ?T ?hk ?hdp ?hu ?e ?nd ?H ?P ?hb ?h0 ?hi ?hp ?_; (case B => k_asm); (case F => k_asm); (case X => k_asm); (case N => k_asm); (case T => k_asm); (case hk => first | exact rfl | assumption); (case nd => kwd_less); (case H => kwd_rel); (case P => assumption); (case hb => omega); (case h0 => omega); (case hi => assumption); (case hp => assumption); (case hdp => ktr_room); (case hu => ktr_units); (case e => first | exact rfl | assumption); k_whole); intro d' tk' tk2' lab' news' h' tk9' F' N' nd' H' St' P' q0 q1 q2; refine Halt.mk ?_))
local macro_rules | `(tactic| walk_at "call ref") => `(tactic| (k_here; k_dflt (refine' add_instruction_st_use (by with_reducible assumption) ?B ?F ?X ?N ?T ?hk ?hdp ?hu ?e ?nd ?H ?P ?hb ?h0 ?hi ?hp ?_; (case B => k_asm); (case F => k_asm); (case X => k_asm); (case N => k_asm); (case T => k_asm); (case hk => first | exact rfl | assumption); (case nd => kwd_less); (case H => kwd_rel); (case P => assumption); (case hb => omega); (case h0 => omega); (case hi => assumption); (case hp => assumption); (case hdp => ktr_room); (case hu => ktr_units); (case e => first | exact rfl | assumption); k_whole); intro d' tk' tk2' lab' news' h' tk9' F' N' nd' H' St' P' q0 q1 q2; refine Halt.mk ?_))
local macro_rules | `(tactic| walk_at "call ref") => `(tactic| (k_here; k_dflt (refine' new_root_st_use (by with_reducible assumption) ?B ?F ?X ?N ?T ?hk ?hdp ?hu ?e ?nd ?H ?P ?hb ?_; (case B => k_asm); (case F => k_asm); (case X => k_asm); (case N => k_asm); (case T => k_asm); (case hk => first | exact rfl | assumption); (case nd => kwd_less); (case H => kwd_rel); (case P => assumption); (case hb => omega); (case hdp => ktr_room); (case hu => ktr_units); (case e => first | exact rfl | assumption); k_whole); intro d' tk' lab' news' h' tk9' F' N' nd' H' St' P' q0 q1; refine Halt.mk ?_))
section
variable {prog : Program} {w : World} {mean : ExcName → Option Value} {mg mb : Str → Option Value} {dp un : Nat} {gd : Option (List Code)} {cn : Str} {cs : Scope} {a : Addr} {ccd : Value} {cl : List (Str × Addr)} {outer : List Env} {A₀ : Around} {base h₀ : Heap} {L : Addr} {m : Str → Option Value} {news : Led} {s : Shared}
    {Q E : Value → Shared → Prop} {σ : SS} {lab : Addr → Lab} {b : Nat} {kind name uri loc val : Str} {k0 k1 k2 k3 k4 : Tok} {par : Value} {p : TN} {i : Int} {tk : Tok}
end
noncomputable def set_attribute_st_S (K : Params → Frag) (V : PySem.Program) : Prop := ∀ {prog : Program} {w : World} {mean : ExcName → Option Value} {mg mb : Str → Option Value} {dp un : Nat} {gd : Option (List Code)} {cn : Str} {cs : Scope} {a : Addr} {ccd : Value} {cl : List (Str × Addr)} {outer : List Env} {A₀ : Around} {base h₀ : Heap} {L : Addr} {m : Str → Option Value} {news : Led} {s : Shared} {Q E : Value → Shared → Prop} {σ : SS} {lab : Addr → Lab} {b : Nat} {name uri loc val : Str} {k1 k2 k3 k4 : Tok} {p : TN} {i : Int} {tk : Tok} (B : Below A₀ base outer h₀) (F : Fr h₀ L s.heap m) (X : (K w.params).In h₀) (N : News h₀ L s.heap news) (Tp : Top V (looseW V []) mean mg mb h₀) (hk : cs.kind = .function) (hdp : dp + 12 < recursionLimit) (hu : un + 160 < cLine) {t : Addr} (e : σ.T.t = t) (nd : ND news) (H : StL news lab σ) (P : PureT b σ.T) (hb : b < 400) (h0 : 0 ≤ i) (hi : σ.T.ns[i.toNat]? = some p) (hp : p.kind = Str.ofString "element") (hat : ∀ j ∈ p.atI, 0 ≤ j ∧ ∃ dj, σ.T.ns[j.toNat]? = some dj ∧ dj.loc ≠ loc) (hret : ∀ (d : TN) (tk tk2 : Tok) lab' news' h' tk', Fr h₀ L h' m → News h₀ L h' news' → ND news' → StL news' lab' ((σ.addNode d).setNode i.toNat (p.pushAt (.int (σ.T.ns.length : Int) tk2) (σ.T.ns.length : Int))) → Step lab lab' news news' →
      PureT (b + 2) ((σ.addNode d).setNode i.toNat (p.pushAt (.int (σ.T.ns.length : Int) tk2) (σ.T.ns.length : Int))).T → d.kind = Str.ofString "attribute" → d.loc = loc → (d.chI = [] ∧ d.atI = [] ∧ d.nsI = []) →
      Q (.int (σ.T.ns.length : Int) tk) { s with heap := h', toks := tk' }),
    wpAny (model prog w) (ktrTop dp un gd cn cs L a ccd cl outer) (call (.ref 173) [.ref t, .int i tk, .str name k1, .str uri k2, .str loc k3, .str val k4]) Q E s
theorem set_attribute_st_use {K : Params → Frag} {V : PySem.Program} (Z : set_attribute_st_S K V) : ∀ {prog : Program} {w : World} {mean : ExcName → Option Value} {mg mb : Str → Option Value} {dp un : Nat} {gd : Option (List Code)} {cn : Str} {cs : Scope} {a : Addr} {ccd : Value} {cl : List (Str × Addr)} {outer : List Env} {A₀ : Around} {base h₀ : Heap} {L : Addr} {m : Str → Option Value} {news : Led} {s : Shared} {Q E : Value → Shared → Prop} {σ : SS} {lab : Addr → Lab} {b : Nat} {name uri loc val : Str} {k1 k2 k3 k4 : Tok} {p : TN} {i : Int} {tk : Tok} (B : Below A₀ base outer h₀) (F : Fr h₀ L s.heap m) (X : (K w.params).In h₀) (N : News h₀ L s.heap news) (Tp : Top V (looseW V []) mean mg mb h₀) (hk : cs.kind = .function) (hdp : dp + 12 < recursionLimit) (hu : un + 160 < cLine) {t : Addr} (e : σ.T.t = t) (nd : ND news) (H : StL news lab σ) (P : PureT b σ.T) (hb : b < 400) (h0 : 0 ≤ i) (hi : σ.T.ns[i.toNat]? = some p) (hp : p.kind = Str.ofString "element") (hat : ∀ j ∈ p.atI, 0 ≤ j ∧ ∃ dj, σ.T.ns[j.toNat]? = some dj ∧ dj.loc ≠ loc) (hret : ∀ (d : TN) (tk tk2 : Tok) lab' news' h' tk', Fr h₀ L h' m → News h₀ L h' news' → ND news' → StL news' lab' ((σ.addNode d).setNode i.toNat (p.pushAt (.int (σ.T.ns.length : Int) tk2) (σ.T.ns.length : Int))) → Step lab lab' news news' →
      PureT (b + 2) ((σ.addNode d).setNode i.toNat (p.pushAt (.int (σ.T.ns.length : Int) tk2) (σ.T.ns.length : Int))).T → d.kind = Str.ofString "attribute" → d.loc = loc → (d.chI = [] ∧ d.atI = [] ∧ d.nsI = []) →
      Q (.int (σ.T.ns.length : Int) tk) { s with heap := h', toks := tk' }),
    wpAny (model prog w) (ktrTop dp un gd cn cs L a ccd cl outer) (call (.ref 173) [.ref t, .int i tk, .str name k1, .str uri k2, .str loc k3, .str val k4]) Q E s := Z
local macro_rules | `(tactic| walk_at "call ref") => `(tactic| (k_here; k_dflt (refine' set_attribute_st_use (by with_reducible assumption) ?B ?F ?X ?N ?T ?hk ?hdp ?hu ?e ?nd ?H ?P ?hb ?h0 ?hi ?hp ?hat ?_; (case B => k_asm); (case F => k_asm); (case X => k_asm); (case N => k_asm); (case T => k_asm); (case hk => first | exact rfl | assumption); (case nd => kwd_less); (case H => kwd_rel); (case P => assumption); (case hb => omega); (case h0 => omega); (case hi => assumption); (case hp => assumption); (case hat => assumption); (case hdp => ktr_room); (case hu => ktr_units); (case e => first | exact rfl | assumption); k_whole); intro d' tk' tk2' lab' news' h' tk9' F' N' nd' H' St' P' q0 q1 q2; refine Halt.mk ?_))
theorem put_value (d : TN) (h : Int) (key : Value) (v : Str) (k : Tok) : (putL (Str.ofString "value") h key (.str v k) d.ents, putN (Str.ofString "value") d.ents d.dn) = ((d.putVal v k).ents, d.dn) := by with_unfolding_all rfl
theorem put_value_get (d : TN) : (getL (Str.ofString "value") d.ents).isSome = true := by with_unfolding_all rfl
section
variable {prog : Program} {w : World} {mean : ExcName → Option Value} {mg mb : Str → Option Value} {dp un : Nat} {gd : Option (List Code)} {cn : Str} {cs : Scope} {a : Addr} {ccd : Value} {cl : List (Str × Addr)} {outer : List Env} {A₀ : Around} {base h₀ : Heap} {L : Addr} {m : Str → Option Value} {news : Led} {s : Shared}
    {Q E : Value → Shared → Prop} {σ : SS} {lab : Addr → Lab} {b : Nat} {kind name uri loc val : Str} {k0 k1 k2 k3 k4 : Tok} {par : Value} {p : TN} {i : Int} {tk : Tok}
end
noncomputable def add_namespace_st_S (K : Params → Frag) (V : PySem.Program) : Prop := ∀ {prog : Program} {w : World} {mean : ExcName → Option Value} {mg mb : Str → Option Value} {dp un : Nat} {gd : Option (List Code)} {cn : Str} {cs : Scope} {a : Addr} {ccd : Value} {cl : List (Str × Addr)} {outer : List Env} {A₀ : Around} {base h₀ : Heap} {L : Addr} {m : Str → Option Value} {news : Led} {s : Shared} {Q E : Value → Shared → Prop} {σ : SS} {lab : Addr → Lab} {b : Nat} {name uri : Str} {k1 k2 : Tok} {p : TN} {i : Int} {tk : Tok} (B : Below A₀ base outer h₀) (F : Fr h₀ L s.heap m) (X : (K w.params).In h₀) (N : News h₀ L s.heap news) (Tp : Top V (looseW V []) mean mg mb h₀) (hk : cs.kind = .function) (hdp : dp + 12 < recursionLimit) (hu : un + 160 < cLine) {t : Addr} (e : σ.T.t = t) (nd : ND news) (H : StL news lab σ) (P : PureT b σ.T) (hb : b < 400) (h0 : 0 ≤ i) (hi : σ.T.ns[i.toNat]? = some p) (hp : p.kind = Str.ofString "element") (hns : ∀ j ∈ p.nsI, 0 ≤ j ∧ j < (σ.T.ns.length : Int)) (hret1 : ∀ (j : Int) (dj : TN) (tk tk2 : Tok) lab' news' h' tk', Fr h₀ L h' m → News h₀ L h' news' → ND news' → StL news' lab' (σ.setNode j.toNat (dj.putVal uri tk2)) → Step lab lab' news news' → PureT (b + 2) (σ.setNode j.toNat (dj.putVal uri tk2)).T → σ.T.ns[j.toNat]? = some dj →
      Q (.int j tk) { s with heap := h', toks := tk' }) (hret : ∀ (d : TN) (tk tk2 : Tok) lab' news' h' tk', Fr h₀ L h' m → News h₀ L h' news' → ND news' → StL news' lab' ((σ.addNode d).setNode i.toNat (p.pushNs (.int (σ.T.ns.length : Int) tk2) (σ.T.ns.length : Int))) → Step lab lab' news news' →
      PureT (b + 2) ((σ.addNode d).setNode i.toNat (p.pushNs (.int (σ.T.ns.length : Int) tk2) (σ.T.ns.length : Int))).T → d.kind = Str.ofString "namespace" → d.loc = name → (d.chI = [] ∧ d.atI = [] ∧ d.nsI = []) →
      Q (.int (σ.T.ns.length : Int) tk) { s with heap := h', toks := tk' }),
    wpAny (model prog w) (ktrTop dp un gd cn cs L a ccd cl outer) (call (.ref 180) [.ref t, .int i tk, .str name k1, .str uri k2]) Q E s
theorem add_namespace_st_use {K : Params → Frag} {V : PySem.Program} (Z : add_namespace_st_S K V) : ∀ {prog : Program} {w : World} {mean : ExcName → Option Value} {mg mb : Str → Option Value} {dp un : Nat} {gd : Option (List Code)} {cn : Str} {cs : Scope} {a : Addr} {ccd : Value} {cl : List (Str × Addr)} {outer : List Env} {A₀ : Around} {base h₀ : Heap} {L : Addr} {m : Str → Option Value} {news : Led} {s : Shared} {Q E : Value → Shared → Prop} {σ : SS} {lab : Addr → Lab} {b : Nat} {name uri : Str} {k1 k2 : Tok} {p : TN} {i : Int} {tk : Tok} (B : Below A₀ base outer h₀) (F : Fr h₀ L s.heap m) (X : (K w.params).In h₀) (N : News h₀ L s.heap news) (Tp : Top V (looseW V []) mean mg mb h₀) (hk : cs.kind = .function) (hdp : dp + 12 < recursionLimit) (hu : un + 160 < cLine) {t : Addr} (e : σ.T.t = t) (nd : ND news) (H : StL news lab σ) (P : PureT b σ.T) (hb : b < 400) (h0 : 0 ≤ i) (hi : σ.T.ns[i.toNat]? = some p) (hp : p.kind = Str.ofString "element") (hns : ∀ j ∈ p.nsI, 0 ≤ j ∧ j < (σ.T.ns.length : Int)) (hret1 : ∀ (j : Int) (dj : TN) (tk tk2 : Tok) lab' news' h' tk', Fr h₀ L h' m → News h₀ L h' news' → ND news' → StL news' lab' (σ.setNode j.toNat (dj.putVal uri tk2)) → Step lab lab' news news' → PureT (b + 2) (σ.setNode j.toNat (dj.putVal uri tk2)).T → σ.T.ns[j.toNat]? = some dj →
      Q (.int j tk) { s with heap := h', toks := tk' }) (hret : ∀ (d : TN) (tk tk2 : Tok) lab' news' h' tk', Fr h₀ L h' m → News h₀ L h' news' → ND news' → StL news' lab' ((σ.addNode d).setNode i.toNat (p.pushNs (.int (σ.T.ns.length : Int) tk2) (σ.T.ns.length : Int))) → Step lab lab' news news' →
      PureT (b + 2) ((σ.addNode d).setNode i.toNat (p.pushNs (.int (σ.T.ns.length : Int) tk2) (σ.T.ns.length : Int))).T → d.kind = Str.ofString "namespace" → d.loc = name → (d.chI = [] ∧ d.atI = [] ∧ d.nsI = []) →
      Q (.int (σ.T.ns.length : Int) tk) { s with heap := h', toks := tk' }),
    wpAny (model prog w) (ktrTop dp un gd cn cs L a ccd cl outer) (call (.ref 180) [.ref t, .int i tk, .str name k1, .str uri k2]) Q E s := Z
local macro_rules | `(tactic| walk_at "call ref") => `(tactic| (k_here; k_dflt (refine' add_namespace_st_use (by with_reducible assumption) ?B ?F ?X ?N ?T ?hk ?hdp ?hu ?e ?nd ?H ?P ?hb ?h0 ?hi ?hp ?hns ?h1 ?h2; (case B => k_asm); (case F => k_asm); (case X => k_asm); (case N => k_asm); (case T => k_asm); (case hk => first | exact rfl | assumption); (case nd => kwd_less); (case H => kwd_rel); (case P => assumption); (case hb => omega); (case h0 => omega); (case hi => assumption); (case hp => assumption); (case hns => assumption); (case hdp => ktr_room); (case hu => ktr_units); (case e => first | exact rfl | assumption)); (all_goals first | (intro d' tk' tk2' lab' news' h' tk9' F' N' nd' H' St' P' q0 q1 q2; refine Halt.mk ?_) | (intro j' dj' tk' tk2' lab' news' h' tk9' F' N' nd' H' St' P' q0; refine Halt.mk ?_))))
/-! the draws -/
noncomputable def SS.setSrc (σ : SS) (a b : Int) (ta tb : Tok) : SS := { σ with sa := a, sb := b, ta := ta, tb := tb }
theorem StL.setSrc {news : Led} {lab : Addr → Lab} {σ : SS} (a b : Int) (ta tb : Tok) (H : StL news lab σ) :
    StL (setL σ.src (listOf [Value.int a ta, Value.int b tb].toArray σ.nS) news) lab (σ.setSrc a b ta tb) ∧ Step lab lab news (setL σ.src (listOf [Value.int a ta, Value.int b tb].toArray σ.nS) news) := by
  obtain ⟨m, l⟩ := H.ent _ _ _ .src
  refine ⟨H.upd l ⟨_, m⟩ fun ℓ x o e => ?_, Step.upd (by rw [l]; exact nofun)⟩
  cases e with
  | t => exact .inl ⟨.t, nofun⟩
  | dt => exact .inl ⟨.dt, nofun⟩
  | R => exact .inl ⟨.R, nofun⟩
  | inst h => exact .inl ⟨.inst h, nofun⟩
  | dict h => exact .inl ⟨.dict h, nofun⟩
  | ch h => exact .inl ⟨.ch h, nofun⟩
  | at_ h => exact .inl ⟨.at_ h, nofun⟩
  | ns h => exact .inl ⟨.ns h, nofun⟩
  | src => exact .inr ⟨rfl, rfl, rfl⟩
  | rl => exact .inl ⟨.rl, nofun⟩
  | row h => exact .inl ⟨.row h, nofun⟩
  | way h => exact .inl ⟨.way h, nofun⟩
  | tup h hx => exact .inl ⟨.tup h hx, nofun⟩
section
variable {prog : Program} {w : World} {mean : ExcName → Option Value} {mg mb : Str → Option Value} {dp un : Nat} {gd : Option (List Code)} {cn : Str} {cs : Scope} {a : Addr} {ccd : Value} {cl : List (Str × Addr)} {outer : List Env} {A₀ : Around} {base h₀ : Heap} {L : Addr} {m : Str → Option Value} {news : Led} {s : Shared}
    {Q E : Value → Shared → Prop} {σ : SS} {lab : Addr → Lab} {b : Nat} {i top : Int} {tk : Tok}
end
noncomputable def take_st_S (K : Params → Frag) (V : PySem.Program) : Prop := ∀ {prog : Program} {w : World} {mean : ExcName → Option Value} {mg mb : Str → Option Value} {dp un : Nat} {gd : Option (List Code)} {cn : Str} {cs : Scope} {a : Addr} {ccd : Value} {cl : List (Str × Addr)} {outer : List Env} {A₀ : Around} {base h₀ : Heap} {L : Addr} {m : Str → Option Value} {news : Led} {s : Shared} {Q E : Value → Shared → Prop} {σ : SS} {lab : Addr → Lab} {top : Int} {tk : Tok} (B : Below A₀ base outer h₀) (F : Fr h₀ L s.heap m) (X : (K w.params).In h₀) (N : News h₀ L s.heap news) (Tp : Top V (looseW V []) mean mg mb h₀) (hk : cs.kind = .function) (hdp : dp + 12 < recursionLimit) (hu : un + 160 < cLine) {t : Addr} (e : σ.src = t) (nd : ND news) (H : StL news lab σ) (ht : 0 < top) (ht2 : top < 100000) (hret : ∀ (v : Int) (tk : Tok) (a b : Int) (ta tb : Tok) news' h' tk', Fr h₀ L h' m → News h₀ L h' news' → ND news' → StL news' lab (σ.setSrc a b ta tb) → Step lab lab news news' → 0 ≤ v → v < top → 
      Q (.int v tk) { s with heap := h', toks := tk' }),
    wpAny (model prog w) (ktrTop dp un gd cn cs L a ccd cl outer) (call (.ref 292) [.ref t, .int top tk]) Q E s
theorem take_st_use {K : Params → Frag} {V : PySem.Program} (Z : take_st_S K V) : ∀ {prog : Program} {w : World} {mean : ExcName → Option Value} {mg mb : Str → Option Value} {dp un : Nat} {gd : Option (List Code)} {cn : Str} {cs : Scope} {a : Addr} {ccd : Value} {cl : List (Str × Addr)} {outer : List Env} {A₀ : Around} {base h₀ : Heap} {L : Addr} {m : Str → Option Value} {news : Led} {s : Shared} {Q E : Value → Shared → Prop} {σ : SS} {lab : Addr → Lab} {top : Int} {tk : Tok} (B : Below A₀ base outer h₀) (F : Fr h₀ L s.heap m) (X : (K w.params).In h₀) (N : News h₀ L s.heap news) (Tp : Top V (looseW V []) mean mg mb h₀) (hk : cs.kind = .function) (hdp : dp + 12 < recursionLimit) (hu : un + 160 < cLine) {t : Addr} (e : σ.src = t) (nd : ND news) (H : StL news lab σ) (ht : 0 < top) (ht2 : top < 100000) (hret : ∀ (v : Int) (tk : Tok) (a b : Int) (ta tb : Tok) news' h' tk', Fr h₀ L h' m → News h₀ L h' news' → ND news' → StL news' lab (σ.setSrc a b ta tb) → Step lab lab news news' → 0 ≤ v → v < top → 
      Q (.int v tk) { s with heap := h', toks := tk' }),
    wpAny (model prog w) (ktrTop dp un gd cn cs L a ccd cl outer) (call (.ref 292) [.ref t, .int top tk]) Q E s := Z
local macro_rules | `(tactic| walk_at "ph11") => `(tactic| fail_if_success (fail_if_success (have h9 : Ph 11 := by with_reducible assumption)))
local macro_rules | `(tactic| walk_at "binaryOp FloorDiv int int") => `(tactic| (walk_at "ph11"; (k_here; (with_reducible refine floordiv_int ?kbe ?_ (Or.inl (PyProof.noPylong_small ?kbp))); (case kbe => omega); (case kbp => omega))))
local macro_rules | `(tactic| walk_at "subscriptTail") => `(tactic| (walk_at "ph11"; (k_here; (with_reducible show wpAny _ _ (subscriptTail _ _ (Value.ref _) (Value.int _ _)) _ _ _); k_dflt (refine' item_litK (v := _) ?k1 ?k2 ?k3 ?k4 ?_ ?k6; (case k1 => exact News.isList (by k_asm) (by k_mem)); (case k2 => first | decide | omega); (case k4 => first | assumption | exact rfl); (case k3 => first | decide | omega); (case k6 => with_unfolding_all rfl); k_whole))))
local macro_rules | `(tactic| walk_at "call ref") => `(tactic| (k_here; k_dflt (refine' take_st_use (by with_reducible assumption) ?B ?F ?X ?N ?T ?hk ?hdp ?hu ?e ?nd ?H ?ht ?ht2 ?_; (case B => k_asm); (case F => k_asm); (case X => k_asm); (case N => k_asm); (case T => k_asm); (case hk => first | exact rfl | assumption); (case nd => kwd_less); (case H => kwd_rel); (case ht => first | decide | omega); (case ht2 => first | decide | omega); (case hdp => ktr_room); (case hu => ktr_units); (case e => first | exact rfl | assumption); k_whole); intro v' tk' a' b' ta' tb' news' h' tk9' F' N' nd' H' St' q0 q1; refine Halt.mk ?_))
section
variable {prog : Program} {w : World} {mean : ExcName → Option Value} {mg mb : Str → Option Value} {dp un : Nat} {gd : Option (List Code)} {cn : Str} {cs : Scope} {a : Addr} {ccd : Value} {cl : List (Str × Addr)} {outer : List Env} {A₀ : Around} {base h₀ : Heap} {L : Addr} {m : Str → Option Value} {news : Led} {s : Shared}
    {Q E : Value → Shared → Prop} {σ : SS} {lab : Addr → Lab} {b : Nat} {i top : Int} {tk : Tok} {l : Addr} {vs : List Value} {ns : List Int} {nn : Nat}
theorem W_lenF {g : Heap} {A : Around} {Q E : Value → Shared → Prop} {s : Shared} {l : Addr} {vs : List Value} {L : Addr} {m : Str → Option Value} (F : Fr g L s.heap m) (hL : g.IsList l vs.toArray) (hz : vs.length < 100) (h : Q (.int (vs.length : Int) (s.toks + 1)) { s with toks := s.toks + 1 + 1 }) : wpAny (model prog w) A (call (.builtin "len") [.ref l]) Q E s :=
  len_list (F.lst hL) (by rw [List.size_toArray]; omega) (by rw [List.size_toArray]; exact h)
end
noncomputable def one_st_S (K : Params → Frag) (V : PySem.Program) : Prop := ∀ {prog : Program} {w : World} {mean : ExcName → Option Value} {mg mb : Str → Option Value} {dp un : Nat} {gd : Option (List Code)} {cn : Str} {cs : Scope} {a : Addr} {ccd : Value} {cl : List (Str × Addr)} {outer : List Env} {A₀ : Around} {base h₀ : Heap} {L : Addr} {m : Str → Option Value} {news : Led} {s : Shared} {Q E : Value → Shared → Prop} {σ : SS} {lab : Addr → Lab} {l : Addr} {vs : List Value} {nn : Nat} (B : Below A₀ base outer h₀) (F : Fr h₀ L s.heap m) (X : (K w.params).In h₀) (N : News h₀ L s.heap news) (Tp : Top V (looseW V []) mean mg mb h₀) (hk : cs.kind = .function) (hdp : dp + 16 < recursionLimit) (hu : un + 200 < cLine) {t : Addr} (e : σ.src = t) (nd : ND news) (H : StL news lab σ) (hl : (l, listOf vs.toArray nn) ∈ news) (hlab : lab l = .no) (hz0 : 0 < vs.length) (hz1 : vs.length < 1000) (hret : ∀ (k : Nat) (v : Value) (a b : Int) (ta tb : Tok) news' h' tk', vs[k]? = some v → Fr h₀ L h' m → News h₀ L h' news' → ND news' → StL news' lab (σ.setSrc a b ta tb) → Step lab lab news news' →
      Q v { s with heap := h', toks := tk' }),
    wpAny (model prog w) (ktrTop dp un gd cn cs L a ccd cl outer) (call (.ref 299) [.ref t, .ref l]) Q E s
theorem one_st_use {K : Params → Frag} {V : PySem.Program} (Z : one_st_S K V) : ∀ {prog : Program} {w : World} {mean : ExcName → Option Value} {mg mb : Str → Option Value} {dp un : Nat} {gd : Option (List Code)} {cn : Str} {cs : Scope} {a : Addr} {ccd : Value} {cl : List (Str × Addr)} {outer : List Env} {A₀ : Around} {base h₀ : Heap} {L : Addr} {m : Str → Option Value} {news : Led} {s : Shared} {Q E : Value → Shared → Prop} {σ : SS} {lab : Addr → Lab} {l : Addr} {vs : List Value} {nn : Nat} (B : Below A₀ base outer h₀) (F : Fr h₀ L s.heap m) (X : (K w.params).In h₀) (N : News h₀ L s.heap news) (Tp : Top V (looseW V []) mean mg mb h₀) (hk : cs.kind = .function) (hdp : dp + 16 < recursionLimit) (hu : un + 200 < cLine) {t : Addr} (e : σ.src = t) (nd : ND news) (H : StL news lab σ) (hl : (l, listOf vs.toArray nn) ∈ news) (hlab : lab l = .no) (hz0 : 0 < vs.length) (hz1 : vs.length < 1000) (hret : ∀ (k : Nat) (v : Value) (a b : Int) (ta tb : Tok) news' h' tk', vs[k]? = some v → Fr h₀ L h' m → News h₀ L h' news' → ND news' → StL news' lab (σ.setSrc a b ta tb) → Step lab lab news news' →
      Q v { s with heap := h', toks := tk' }),
    wpAny (model prog w) (ktrTop dp un gd cn cs L a ccd cl outer) (call (.ref 299) [.ref t, .ref l]) Q E s := Z
noncomputable def pool_st_S (K : Params → Frag) (V : PySem.Program) : Prop := ∀ {prog : Program} {w : World} {mean : ExcName → Option Value} {mg mb : Str → Option Value} {dp un : Nat} {gd : Option (List Code)} {cn : Str} {cs : Scope} {a : Addr} {ccd : Value} {cl : List (Str × Addr)} {outer : List Env} {A₀ : Around} {base h₀ : Heap} {L : Addr} {m : Str → Option Value} {news : Led} {s : Shared} {Q E : Value → Shared → Prop} {tk : Tok} {l : Addr} {vs : List Value} {ns : List Int} (B : Below A₀ base outer h₀) (F : Fr h₀ L s.heap m) (X : (K w.params).In h₀) (N : News h₀ L s.heap news) (Tp : Top V (looseW V []) mean mg mb h₀) (hk : cs.kind = .function) (hdp : dp + 16 < recursionLimit) (hu : un + 200 < cLine) (hL : h₀.IsList l vs.toArray) (hI : IntsAre vs ns) (hz : vs.length < 100) (hret : ∀ (D : Addr) (n : Nat) (a b : Int) (ta tb : Tok) h' tk', Fr h₀ L h' m → News h₀ L h' ((D, listOf [Value.int a ta, Value.int b tb].toArray n) :: news) → (∀ p ∈ news, p.1 < D) →
      Q (.ref D) { s with heap := h', toks := tk' }),
    wpAny (model prog w) (ktrTop dp un gd cn cs L a ccd cl outer) (call (.ref 285) [.ref l, .int 0 tk]) Q E s
theorem pool_st_use {K : Params → Frag} {V : PySem.Program} (Z : pool_st_S K V) : ∀ {prog : Program} {w : World} {mean : ExcName → Option Value} {mg mb : Str → Option Value} {dp un : Nat} {gd : Option (List Code)} {cn : Str} {cs : Scope} {a : Addr} {ccd : Value} {cl : List (Str × Addr)} {outer : List Env} {A₀ : Around} {base h₀ : Heap} {L : Addr} {m : Str → Option Value} {news : Led} {s : Shared} {Q E : Value → Shared → Prop} {tk : Tok} {l : Addr} {vs : List Value} {ns : List Int} (B : Below A₀ base outer h₀) (F : Fr h₀ L s.heap m) (X : (K w.params).In h₀) (N : News h₀ L s.heap news) (Tp : Top V (looseW V []) mean mg mb h₀) (hk : cs.kind = .function) (hdp : dp + 16 < recursionLimit) (hu : un + 200 < cLine) (hL : h₀.IsList l vs.toArray) (hI : IntsAre vs ns) (hz : vs.length < 100) (hret : ∀ (D : Addr) (n : Nat) (a b : Int) (ta tb : Tok) h' tk', Fr h₀ L h' m → News h₀ L h' ((D, listOf [Value.int a ta, Value.int b tb].toArray n) :: news) → (∀ p ∈ news, p.1 < D) →
      Q (.ref D) { s with heap := h', toks := tk' }),
    wpAny (model prog w) (ktrTop dp un gd cn cs L a ccd cl outer) (call (.ref 285) [.ref l, .int 0 tk]) Q E s := Z
local macro_rules | `(tactic| walk_at "ph12") => `(tactic| fail_if_success (fail_if_success (have h9 : Ph 12 := by with_reducible assumption)))
local macro_rules | `(tactic| walk_at "call builtin:len") => `(tactic| (walk_at "ph12"; (k_here; (with_reducible show wpAny _ _ (call (Value.builtin "len") [Value.ref _]) _ _ _); k_dflt (refine' W_lenF ?k1 ?k2 ?k3 ?_; (case k1 => k_asm); (case k2 => assumption); (case k3 => omega); k_whole); (try simp only [List.length_cons, List.length_nil]))))
local macro_rules | `(tactic| walk_at "call builtin:len") => `(tactic| (walk_at "ph12"; (k_here; (with_reducible show wpAny _ _ (call (Value.builtin "len") [Value.ref _]) _ _ _); k_dflt (refine' kst_len ?k1 ?k2 ?k3 ?k4 ?_; (case k1 => k_asm); (case k2 => k_mem); (case k3 => exact rfl); (case k4 => ((try simp only [List.length_map, List.length_append, List.length_cons, List.length_nil]); omega)); k_whole); (try simp only [List.length_map]))))
local macro_rules | `(tactic| walk_at "call ref") => `(tactic| (k_here; k_dflt (refine' one_st_use (by with_reducible assumption) ?B ?F ?X ?N ?T ?hk ?hdp ?hu ?e ?nd ?H ?hl ?hlab ?z0 ?z1 ?_; (case B => k_asm); (case F => k_asm); (case X => k_asm); (case N => k_asm); (case T => k_asm); (case hk => first | exact rfl | assumption); (case nd => kwd_less); (case H => kwd_rel); (case hl => k_mem); (case hlab => assumption); (case z0 => omega); (case z1 => omega); (case hdp => ktr_room); (case hu => ktr_units); (case e => first | exact rfl | assumption); k_whole); intro k' v' a' b' ta' tb' news' h' tk9' q0 F' N' nd' H' St'; refine Halt.mk ?_))
local macro_rules | `(tactic| walk_at "call ref") => `(tactic| (k_here; k_dflt (refine' pool_st_use (by with_reducible assumption) ?B ?F ?X ?N ?T ?hk ?hdp ?hu ?hL ?hI ?z ?_; (case B => k_asm); (case F => k_asm); (case X => k_asm); (case N => k_asm); (case T => k_asm); (case hk => first | exact rfl | assumption); (case hL => assumption); (case hI => assumption); (case z => omega); (case hdp => ktr_room); (case hu => ktr_units); k_whole); intro D' n' a' b' ta' tb' h' tk9' F' N' l1))
/-! rows -/
noncomputable def SS.addRow (σ : SS) (r : RW) : SS := { σ with rows := σ.rows ++ [r], nL := σ.nL + 1 }
noncomputable def SS.setRow (σ : SS) (j : Nat) (r : RW) : SS := { σ with rows := σ.rows.set j r }
noncomputable def rowLab (r : RW) (x : Addr) (n : Nat) (lab : Addr → Lab) (a : Addr) : Lab := if a = r.addr then .row n else if a = r.wayA then .way else if a = x then .tup else lab a
theorem StL.addRow {news : Led} {lab : Addr → Lab} {σ : SS} {r : RW} {x : Addr} (H : StL news lab σ) (ha : (r.addr, listOf r.items.toArray r.n) ∈ news) (la : lab r.addr = .no) (hw : (r.wayA, listOf (r.way.map fun (x : WI) => Value.ref x.ta).toArray r.wayN) ∈ news) (lw : lab r.wayA = .no)
    (hne : r.wayA ≠ r.addr) (hx : lab x = .no) (hx1 : x ≠ r.addr) (hx2 : x ≠ r.wayA) (hxm : ∃ o, (x, o) ∈ news) (ht : ∀ y ∈ r.way, (y.ta, y.obj) ∈ news ∧ (lab y.ta = .tup ∨ y.ta = x)) :
    StL (setL σ.rl (listOf ((σ.rows.map fun (r : RW) => Value.ref r.addr) ++ [Value.ref r.addr]).toArray (σ.nL + 1)) news) (rowLab r x σ.rows.length lab) (σ.addRow r) := by
  obtain ⟨mR, lR⟩ := H.ent _ _ _ .rl
  have nrl : ∀ {a : Addr}, lab a ≠ .rl → a ≠ σ.rl := fun h e => h (by rw [e]; exact lR)
  have nno : ∀ {a b : Addr}, lab a = .no → lab b ≠ .no → b ≠ a := fun h h' e => h' (by rw [e]; exact h)
  have e0 : ∀ {a : Addr}, lab a ≠ .no → rowLab r x σ.rows.length lab a = lab a := fun h => by
    unfold rowLab; rw [if_neg (nno la h), if_neg (nno lw h), if_neg (nno hx h)]
  refine ⟨fun ℓ a o e => ?_, fun a ha' => ?_⟩
  · have old : ∀ {ℓ a o}, Ent σ ℓ a o → ℓ ≠ .rl → ℓ ≠ .no → (a, o) ∈ setL σ.rl (listOf ((σ.rows.map fun (r : RW) => Value.ref r.addr) ++ [Value.ref r.addr]).toArray (σ.nL + 1)) news ∧ rowLab r x σ.rows.length lab a = ℓ := by
      intro ℓ a o e hn h0
      obtain ⟨m, l⟩ := H.ent _ _ _ e
      exact ⟨setL_ne m (nrl (by rw [l]; exact hn)), by rw [e0 (by rw [l]; exact h0)]; exact l⟩
    cases e with
    | t => exact old .t nofun nofun
    | dt => exact old .dt nofun nofun
    | R => exact old .R nofun nofun
    | inst h => exact old (.inst h) nofun nofun
    | dict h => exact old (.dict h) nofun nofun
    | ch h => exact old (.ch h) nofun nofun
    | at_ h => exact old (.at_ h) nofun nofun
    | ns h => exact old (.ns h) nofun nofun
    | src => exact old .src nofun nofun
    | rl =>
      have e : ((σ.addRow r).rows.map fun (r : RW) => Value.ref r.addr) = (σ.rows.map fun (r : RW) => Value.ref r.addr) ++ [Value.ref r.addr] := by
        show ((σ.rows ++ [r]).map _) = _
        rw [List.map_append]; rfl
      rw [e]
      exact ⟨setL_self mR, (e0 (a := σ.rl) (by rw [lR]; exact nofun)).trans lR⟩
    | row h =>
      rcases snoc_get h with h | ⟨rfl, rfl⟩
      · exact old (.row h) nofun nofun
      · exact ⟨setL_ne ha (nrl (by rw [la]; exact nofun)), by unfold rowLab; rw [if_pos rfl]⟩
    | way h =>
      rcases snoc_get h with h | ⟨rfl, rfl⟩
      · exact old (.way h) nofun nofun
      · exact ⟨setL_ne hw (nrl (by rw [lw]; exact nofun)), by unfold rowLab; rw [if_neg hne, if_pos rfl]⟩
    | tup h hy =>
      rcases snoc_get h with h | ⟨rfl, rfl⟩
      · exact old (.tup h hy) nofun nofun
      · obtain ⟨m, l⟩ := ht _ hy
        rcases l with l | l
        · exact ⟨setL_ne m (nrl (by rw [l]; exact nofun)), by rw [e0 (by rw [l]; exact nofun)]; exact l⟩
        · exact ⟨setL_ne m (nrl (by rw [l, hx]; exact nofun)), by unfold rowLab; rw [l, if_neg hx1, if_neg hx2, if_pos rfl]⟩
  · have key : ∀ {a : Addr} {o : Obj}, (a, o) ∈ news → ∃ o', (a, o') ∈ setL σ.rl (listOf ((σ.rows.map fun (r : RW) => Value.ref r.addr) ++ [Value.ref r.addr]).toArray (σ.nL + 1)) news := by
      intro a o h
      by_cases z : a = σ.rl
      · subst z; exact ⟨_, setL_self h⟩
      · exact ⟨_, setL_ne h z⟩
    unfold rowLab at ha'
    by_cases h1 : a = r.addr
    · subst h1; exact key ha
    · rw [if_neg h1] at ha'
      by_cases h2 : a = r.wayA
      · subst h2; exact key hw
      · rw [if_neg h2] at ha'
        by_cases h3 : a = x
        · subst h3; obtain ⟨o, ho⟩ := hxm; exact key ho
        · rw [if_neg h3] at ha'
          obtain ⟨o, ho⟩ := H.sup a ha'
          exact key ho
theorem Step.addRow {n0 news : Led} {lab0 lab : Addr → Lab} {σ : SS} {r : RW} {x : Addr} (St : Step lab0 lab n0 news) (H : StL news lab σ) (h1 : ∀ p ∈ n0, p.1 ≠ r.addr) (h2 : ∀ p ∈ n0, p.1 ≠ r.wayA) (h3 : ∀ p ∈ n0, p.1 ≠ x) :
    Step lab0 (rowLab r x σ.rows.length lab) n0 (setL σ.rl (listOf ((σ.rows.map fun (r : RW) => Value.ref r.addr) ++ [Value.ref r.addr]).toArray (σ.nL + 1)) news) := by
  obtain ⟨mR, lR⟩ := H.ent _ _ _ .rl
  refine ⟨fun e he => ?_, fun e he q => ?_, fun e he => ?_⟩
  · unfold rowLab
    rw [if_neg (h1 e he), if_neg (h2 e he), if_neg (h3 e he)]
    exact St.lb e he
  · refine setL_ne (St.keep e he q) fun z => ?_
    have := St.lb e he
    rw [z, lR, ← z, q] at this
    cases this
  · obtain ⟨o, ho⟩ := St.key e he
    by_cases z : e.1 = σ.rl
    · rw [z] at ho ⊢; exact ⟨_, setL_self ho⟩
    · exact ⟨_, setL_ne ho z⟩
theorem fresh_step {n0 news : Led} {lab0 lab : Addr → Lab} {x : Addr} (St : Step lab0 lab n0 news) (h : ∀ p ∈ news, p.1 < x) : ∀ p ∈ n0, p.1 < x := fun p hp => by
  obtain ⟨o, ho⟩ := St.key p hp
  exact h (p.1, o) ho
theorem StL.setRow {news : Led} {lab : Addr → Lab} {σ : SS} {j : Nat} {r r' : RW} (H : StL news lab σ) (hr : σ.rows[j]? = some r) (ea : r'.addr = r.addr) (ew : r'.wayA = r.wayA) (ey : r'.way = r.way) (en : r'.wayN = r.wayN) (ek : r'.n = r.n) :
    StL (setL r.addr (listOf r'.items.toArray r.n) news) lab (σ.setRow j r') ∧ Step lab lab news (setL r.addr (listOf r'.items.toArray r.n) news) := by
  obtain ⟨m, l⟩ := H.ent _ _ _ (.row hr)
  refine ⟨H.upd l ⟨_, m⟩ fun ℓ x o e => ?_, Step.upd (by rw [l]; exact nofun)⟩
  have mm : ((σ.rows.set j r').map fun (r : RW) => Value.ref r.addr) = σ.rows.map fun (r : RW) => Value.ref r.addr := by
    rw [List.map_set]
    apply List.ext_getElem?
    intro i
    by_cases q : j = i
    · subst q
      by_cases z : j < σ.rows.length
      · rw [List.getElem?_set_self (by rw [List.length_map]; exact z), List.getElem?_map, hr, ea]; rfl
      · rw [List.getElem?_eq_none (by rw [List.length_set, List.length_map]; omega), List.getElem?_eq_none (by rw [List.length_map]; omega)]
    · rw [List.getElem?_set_ne q]
  cases e with
  | t => exact .inl ⟨.t, nofun⟩
  | dt => exact .inl ⟨.dt, nofun⟩
  | R => exact .inl ⟨.R, nofun⟩
  | inst h => exact .inl ⟨.inst h, nofun⟩
  | dict h => exact .inl ⟨.dict h, nofun⟩
  | ch h => exact .inl ⟨.ch h, nofun⟩
  | at_ h => exact .inl ⟨.at_ h, nofun⟩
  | ns h => exact .inl ⟨.ns h, nofun⟩
  | src => exact .inl ⟨.src, nofun⟩
  | rl =>
    refine .inl ⟨?_, nofun⟩
    show Ent σ .rl σ.rl (listOf (((σ.rows.set j r').map fun (r : RW) => Value.ref r.addr)).toArray σ.nL)
    rw [mm]; exact .rl
  | row h =>
    rcases set_get h with ⟨h1, h⟩ | ⟨rfl, rfl⟩
    · exact .inl ⟨.row h, fun q => h1 (by injection q)⟩
    · exact .inr ⟨ea, by rw [ek], rfl⟩
  | way h =>
    rcases set_get h with ⟨h1, h⟩ | ⟨rfl, rfl⟩
    · exact .inl ⟨.way h, nofun⟩
    · refine .inl ⟨?_, nofun⟩
      rw [ew, ey, en]; exact .way hr
  | tup h hx =>
    rcases set_get h with ⟨h1, h⟩ | ⟨rfl, rfl⟩
    · exact .inl ⟨.tup h hx, nofun⟩
    · exact .inl ⟨.tup hr (ey ▸ hx), nofun⟩
theorem close_row {news n6 : Led} {lab lab6 : Addr → Lab} {σ5 : SS} {r : RW} {j : Nat} {x : WI} {wA rA : Addr} {nd : Int} {k1 k2 k3 : Tok} (rj : RW) (H6 : StL n6 lab6 σ5) (St6 : Step lab lab6 news n6) (hr : σ5.rows[j]? = some r)
    (hx : (x.ta, x.obj) ∈ n6) (lx : lab6 x.ta = .no) (fx : ∀ p ∈ news, p.1 < x.ta)
    (hw : (wA, listOf ((r.way.map fun (x : WI) => Value.ref x.ta) ++ [Value.ref x.ta]).toArray 0) ∈ n6) (lw : lab6 wA = .no) (fw : ∀ p ∈ news, p.1 < wA)
    (ha : (rA, listOf [Value.ref wA, .int nd k1, .int 0 k2, .int 0 k3].toArray 0) ∈ n6) (la : lab6 rA = .no) (fa : ∀ p ∈ news, p.1 < rA) (h1 : x.ta < wA) (h2 : wA < rA)
    (ea : rj.addr = r.addr) (ew : rj.wayA = r.wayA) (ey : rj.way = r.way) (en : rj.wayN = r.wayN) (ek : rj.n = r.n) :
    ∃ lab', StL (setL r.addr (listOf rj.items.toArray r.n) (setL σ5.rl (listOf ((σ5.rows.map fun (r : RW) => Value.ref r.addr) ++ [Value.ref rA]).toArray (σ5.nL + 1)) n6)) lab' ((σ5.addRow ⟨rA, wA, 0, 0, r.way ++ [x], nd, 0, 0, k1, k2, k3⟩).setRow j rj) ∧
      Step lab lab' news (setL r.addr (listOf rj.items.toArray r.n) (setL σ5.rl (listOf ((σ5.rows.map fun (r : RW) => Value.ref r.addr) ++ [Value.ref rA]).toArray (σ5.nL + 1)) n6)) := by
  have h3 : x.ta < rA := Nat.lt_trans h1 h2
  have ne : ∀ {a b : Addr}, a < b → a ≠ b := fun h e => absurd h (by rw [e]; exact Nat.lt_irrefl _)
  have A := H6.addRow (r := ⟨rA, wA, 0, 0, r.way ++ [x], nd, 0, 0, k1, k2, k3⟩) (x := x.ta) ha la (by rw [List.map_append]; exact hw) lw (ne h2) lx (ne h3) (ne h1) ⟨_, hx⟩ (fun y hy => by
    rcases List.mem_append.mp hy with hy | hy
    · have := H6.ent _ _ _ (.tup hr hy)
      exact ⟨this.1, .inl this.2⟩
    · rw [List.mem_singleton.mp hy]; exact ⟨hx, .inr rfl⟩)
  have S := St6.addRow (r := ⟨rA, wA, 0, 0, r.way ++ [x], nd, 0, 0, k1, k2, k3⟩) (x := x.ta) H6 (fun p hp => ne (fa p hp)) (fun p hp => ne (fw p hp)) (fun p hp => ne (fx p hp))
  have hr' : (σ5.addRow ⟨rA, wA, 0, 0, r.way ++ [x], nd, 0, 0, k1, k2, k3⟩).rows[j]? = some r := by
    show (σ5.rows ++ [_])[j]? = some r
    rw [List.getElem?_append_left (List.getElem?_eq_some_iff.mp hr).1]; exact hr
  obtain ⟨B, T⟩ := A.setRow hr' ea ew ey en ek
  exact ⟨_, B, S.trans T⟩
/-! the law's rows and the tree's nodes: what holds between deeds -/
noncomputable def RW.w (r : RW) : List (Int × Int) := r.way.map fun x => (x.x, x.y)
noncomputable def lstC (c : Bool) (d : TN) : List Int := if c then d.chI else d.atI
noncomputable def cntC (c : Bool) (r : RW) : Int := if c then r.nc else r.na
noncomputable def numC (c : Bool) : Int := if c then 1 else 0
noncomputable def nmOf (n : Nat) : Str := Str.ofString "n" ++ Str.ofString (toString ((n : Nat) : Int))
structure NodeOk (ns : List TN) (rows : List RW) (r : RW) (d : TN) : Prop where
  len : ∀ c, ((lstC c d).length : Int) = cntC c r
  kid : ∀ c (i : Nat) v, (lstC c d)[i]? = some v → r.node < v ∧ ∃ r' ∈ rows, r'.w = r.w ++ [(numC c, (i : Int))] ∧ r'.node = v
  noAt : d.kind ≠ Str.ofString "element" → d.atI = []
  noCh : d.kind = Str.ofString "attribute" → d.chI = []
structure LInv (ns : List TN) (rows : List RW) : Prop where
  node : ∀ r ∈ rows, 0 ≤ r.node ∧ ∃ d, ns[r.node.toNat]? = some d ∧ NodeOk ns rows r d
  par : ∀ r ∈ rows, (∃ k, r.w = [(k, 0)] ∧ (k = 0 ∨ k = 1)) ∨ ∃ p ∈ rows, ∃ (c : Bool) (i : Int), r.w = p.w ++ [(numC c, i)] ∧ 0 ≤ i ∧ i < cntC c p
  att : ∀ r ∈ rows, ∀ p ∈ rows, ∀ i, r.w = p.w ++ [(0, i)] → ∀ d, ns[r.node.toNat]? = some d → d.kind = Str.ofString "attribute"
  uw : ∀ (i j : Nat) (r r' : RW), rows[i]? = some r → rows[j]? = some r' → r.w = r'.w → i = j
  un : ∀ (i j : Nat) (r r' : RW), rows[i]? = some r → rows[j]? = some r' → r.node = r'.node → i = j
  nm : ∀ d ∈ ns, ∀ j ∈ d.atI, 0 ≤ j ∧ ∃ dj, ns[j.toNat]? = some dj ∧ (dj.loc = Str.ofString "k" ∨ ∃ n, n < rows.length ∧ dj.loc = nmOf n)
  nso : ∀ d ∈ ns, ∀ j ∈ d.nsI, 0 ≤ j ∧ j < (ns.length : Int)
  wl : ∀ r ∈ rows, r.way.length ≤ rows.length
theorem numC_inj {c c' : Bool} (h : numC c = numC c') : c = c' := by
  cases c <;> cases c' <;> first | rfl | (exact absurd h (by decide))
theorem LInv.push {ns : List TN} {rows : List RW} {j : Nat} {r r' rj : RW} {d d' p' : TN} (c : Bool) (I : LInv ns rows) (hr : rows[j]? = some r) (hd : ns[r.node.toNat]? = some d) (he : d.kind = Str.ofString "element")
    (pk : p'.kind = d.kind) (pl : p'.loc = d.loc) (pn : p'.nsI = d.nsI) (p1 : lstC c p' = lstC c d ++ [(ns.length : Int)]) (p2 : lstC (!c) p' = lstC (!c) d)
    (d1 : d'.chI = [] ∧ d'.atI = [] ∧ d'.nsI = []) (d2 : c = false → d'.kind = Str.ofString "attribute" ∧ d'.loc = nmOf rows.length)
    (r1 : r'.w = r.w ++ [(numC c, cntC c r)]) (r2 : r'.node = (ns.length : Int)) (r3 : r'.na = 0 ∧ r'.nc = 0) (r4 : r'.way.length = r.way.length + 1)
    (j1 : rj.way = r.way) (j2 : rj.node = r.node) (j3 : cntC c rj = cntC c r + 1) (j4 : cntC (!c) rj = cntC (!c) r) :
    LInv ((ns ++ [d']).set r.node.toNat p') ((rows ++ [r']).set j rj) := by
  have hrm := List.mem_of_getElem? hr
  obtain ⟨hr0, d9, hd9, ok⟩ := I.node r hrm
  rw [hd] at hd9
  cases hd9
  have hnl := (List.getElem?_eq_some_iff.mp hd).1
  have hjl := (List.getElem?_eq_some_iff.mp hr).1
  have jw : rj.w = r.w := by unfold RW.w; rw [j1]
  -- nodes
  have nOld : ∀ (i : Nat) (e : TN), ns[i]? = some e → i ≠ r.node.toNat → ((ns ++ [d']).set r.node.toNat p')[i]? = some e := fun i e h hn => by
    rw [List.getElem?_set_ne (Ne.symm hn), List.getElem?_append_left (List.getElem?_eq_some_iff.mp h).1]; exact h
  have nNew : ((ns ++ [d']).set r.node.toNat p')[ns.length]? = some d' := by
    rw [List.getElem?_set_ne (by omega), List.getElem?_append_right (Nat.le_refl _), Nat.sub_self]; rfl
  have nP : ((ns ++ [d']).set r.node.toNat p')[r.node.toNat]? = some p' := by
    rw [List.getElem?_set_self (by rw [List.length_append]; omega)]
  have nInv : ∀ (i : Nat) (e : TN), ((ns ++ [d']).set r.node.toNat p')[i]? = some e → (i ≠ r.node.toNat ∧ ns[i]? = some e) ∨ (i = ns.length ∧ e = d') ∨ (i = r.node.toNat ∧ e = p') := fun i e h => by
    rcases set_get h with ⟨h1, h⟩ | h
    · rcases snoc_get h with h | h
      · exact .inl ⟨h1, h⟩
      · exact .inr (.inl h)
    · exact .inr (.inr h)
  have nKeep : ∀ (i : Nat) (e : TN), ns[i]? = some e → ∃ e', ((ns ++ [d']).set r.node.toNat p')[i]? = some e' ∧ e'.kind = e.kind ∧ e'.loc = e.loc ∧ e'.nsI = e.nsI := fun i e h => by
    by_cases q : i = r.node.toNat
    · subst q
      rw [hd] at h; cases h
      exact ⟨p', nP, pk, pl, pn⟩
    · exact ⟨e, nOld i e h q, rfl, rfl, rfl⟩
  have nLen : ((ns ++ [d']).set r.node.toNat p').length = ns.length + 1 := by rw [List.length_set, List.length_append]; rfl
  -- rows
  have rOld : ∀ (i : Nat) (q : RW), rows[i]? = some q → i ≠ j → ((rows ++ [r']).set j rj)[i]? = some q := fun i e h hn => by
    rw [List.getElem?_set_ne (Ne.symm hn), List.getElem?_append_left (List.getElem?_eq_some_iff.mp h).1]; exact h
  have rNew : ((rows ++ [r']).set j rj)[rows.length]? = some r' := by
    rw [List.getElem?_set_ne (by omega), List.getElem?_append_right (Nat.le_refl _), Nat.sub_self]; rfl
  have rJ : ((rows ++ [r']).set j rj)[j]? = some rj := by
    rw [List.getElem?_set_self (by rw [List.length_append]; omega)]
  have rInv : ∀ (i : Nat) (q : RW), ((rows ++ [r']).set j rj)[i]? = some q → (i ≠ j ∧ rows[i]? = some q) ∨ (i = rows.length ∧ q = r') ∨ (i = j ∧ q = rj) := fun i e h => by
    rcases set_get h with ⟨h1, h⟩ | h
    · rcases snoc_get h with h | h
      · exact .inl ⟨h1, h⟩
      · exact .inr (.inl h)
    · exact .inr (.inr h)
  have rLen : ((rows ++ [r']).set j rj).length = rows.length + 1 := by rw [List.length_set, List.length_append]; rfl
  have rUp : ∀ (i : Nat) (q : RW), rows[i]? = some q → ∃ q', ((rows ++ [r']).set j rj)[i]? = some q' ∧ q'.w = q.w ∧ q'.node = q.node ∧ ∀ c', cntC c' q ≤ cntC c' q' := fun i q h => by
    by_cases z : i = j
    · subst z
      rw [hr] at h; cases h
      refine ⟨rj, rJ, jw, j2, fun c' => ?_⟩
      cases c <;> cases c' <;> simp only [Bool.not_false, Bool.not_true] at j3 j4 <;> omega
    · exact ⟨q, rOld i q h z, rfl, rfl, fun _ => Int.le_refl _⟩
  have rMem : ∀ q ∈ rows, ∃ q' ∈ (rows ++ [r']).set j rj, q'.w = q.w ∧ q'.node = q.node ∧ ∀ c', cntC c' q ≤ cntC c' q' := fun q h => by
    obtain ⟨i, hi⟩ := List.mem_iff_getElem?.mp h
    obtain ⟨q', h1, h2⟩ := rUp i q hi
    exact ⟨q', List.mem_of_getElem? h1, h2⟩
  have rCase : ∀ q ∈ (rows ++ [r']).set j rj, (∃ i, i ≠ j ∧ rows[i]? = some q) ∨ q = r' ∨ q = rj := fun q h => by
    obtain ⟨i, hi⟩ := List.mem_iff_getElem?.mp h
    rcases rInv i q hi with ⟨h1, h2⟩ | ⟨_, h⟩ | ⟨_, h⟩
    · exact .inl ⟨i, h1, h2⟩
    · exact .inr (.inl h)
    · exact .inr (.inr h)
  have rBack : ∀ q ∈ (rows ++ [r']).set j rj, q = r' ∨ ∃ q0 ∈ rows, q.w = q0.w ∧ q.node = q0.node := fun q h => by
    rcases rCase q h with ⟨i, _, h⟩ | h | h
    · exact .inr ⟨q, List.mem_of_getElem? h, rfl, rfl⟩
    · exact .inl h
    · exact .inr ⟨r, hrm, by rw [h]; exact jw, by rw [h]; exact j2⟩
  have small : ∀ q ∈ rows, 0 ≤ q.node ∧ q.node < (ns.length : Int) := fun q h => by
    obtain ⟨h0, e, he, _⟩ := I.node q h
    have := (List.getElem?_eq_some_iff.mp he).1
    exact ⟨h0, by omega⟩
  have newW : ∀ q ∈ rows, q.w ≠ r'.w := fun q h e => by
    rw [r1] at e
    rcases I.par q h with ⟨k, hk, _⟩ | ⟨p, hp, c1, i, hq, h1, h2⟩
    · rw [hk] at e
      have hl := congrArg List.length e
      rw [List.length_append] at hl
      have h0 : r.w = [] := List.length_eq_zero_iff.mp (by simpa using hl)
      rcases I.par r hrm with ⟨k, hk, _⟩ | ⟨p, hp, c1, i, hq, h1, h2⟩
      · rw [h0] at hk; cases hk
      · rw [h0] at hq; exact absurd hq.symm (by simp)
    · rw [hq] at e
      obtain ⟨e1, e2⟩ := List.append_inj' e rfl
      have e3 := List.singleton_inj.mp e2
      injection e3 with e4 e5
      have hc := numC_inj e4
      obtain ⟨i1, h1'⟩ := List.mem_iff_getElem?.mp hp
      have := I.uw i1 j p r h1' hr e1
      subst this
      rw [hr] at h1'
      cases h1'
      rw [e5, hc] at h2
      exact absurd h2 (Int.lt_irrefl _)
  refine ⟨fun q hq => ?_, fun q hq => ?_, fun q hq p hp i e dq hdq => ?_, fun i k q q' hi hk e => ?_, fun i k q q' hi hk e => ?_, fun e he i hi => ?_, fun e he i hi => ?_, fun q hq => ?_⟩
  · rcases rCase q hq with ⟨i, hij, hi⟩ | rfl | rfl
    · obtain ⟨h0, e, he', o⟩ := I.node q (List.mem_of_getElem? hi)
      have hne : q.node.toNat ≠ r.node.toNat := fun z => hij (I.un i j q r hi hr (by omega))
      refine ⟨h0, e, nOld _ _ he' hne, o.len, fun c' i' v hv => ?_, o.noAt, o.noCh⟩
      obtain ⟨h1, q1, h2, h3, h4⟩ := o.kid c' i' v hv
      obtain ⟨q2, h5, h6, h7, _⟩ := rMem q1 h2
      exact ⟨h1, q2, h5, h6.trans h3, h7.trans h4⟩
    · refine ⟨by rw [r2]; exact Int.natCast_nonneg _, d', by rw [r2, Int.toNat_natCast]; exact nNew, fun c' => ?_, fun c' i' v hv => ?_, fun _ => d1.2.1, fun _ => d1.1⟩
      · cases c'
        · show ((d'.atI).length : Int) = q.na; rw [d1.2.1, r3.1]; rfl
        · show ((d'.chI).length : Int) = q.nc; rw [d1.1, r3.2]; rfl
      · cases c'
        · rw [show lstC false d' = d'.atI from rfl, d1.2.1] at hv; simp at hv
        · rw [show lstC true d' = d'.chI from rfl, d1.1] at hv; simp at hv
    · refine ⟨by rw [j2]; exact hr0, p', by rw [j2]; exact nP, fun c' => ?_, fun c' i' v hv => ?_, fun h => absurd (pk.trans he) h, fun h => ?_⟩
      · by_cases hc : c' = c
        · subst hc
          rw [p1, j3, List.length_append, ← ok.len c']; simp
        · have hc' : c' = !c := by cases c <;> cases c' <;> simp_all
          subst hc'
          rw [p2, j4, ← ok.len]
      · by_cases hc : c' = c
        · subst hc
          rw [p1] at hv
          rcases snoc_get hv with hv | ⟨e1, e2⟩
          · obtain ⟨h1, q1, h2, h3, h4⟩ := ok.kid c' i' v hv
            obtain ⟨q2, h5, h6, h7, _⟩ := rMem q1 h2
            exact ⟨by rw [j2]; exact h1, q2, h5, by rw [jw]; exact h6.trans h3, h7.trans h4⟩
          · subst e2
            refine ⟨by rw [j2]; exact (small r hrm).2, r', List.mem_of_getElem? rNew, ?_, r2⟩
            rw [r1, jw, ← ok.len c', e1]
        · have hc' : c' = !c := by cases c <;> cases c' <;> simp_all
          subst hc'
          rw [p2] at hv
          obtain ⟨h1, q1, h2, h3, h4⟩ := ok.kid _ i' v hv
          obtain ⟨q2, h5, h6, h7, _⟩ := rMem q1 h2
          exact ⟨by rw [j2]; exact h1, q2, h5, by rw [jw]; exact h6.trans h3, h7.trans h4⟩
      · rw [pk, he] at h; exact absurd h (by decide)
  · rcases rBack q hq with rfl | ⟨q0, h0, h1, _⟩
    · refine .inr ⟨rj, List.mem_of_getElem? rJ, c, cntC c r, by rw [r1, jw], ?_, by rw [j3]; omega⟩
      rw [← ok.len c]; exact Int.natCast_nonneg _
    · rcases I.par q0 h0 with ⟨k, hk⟩ | ⟨p, hp, c1, i, hq', h3, h4⟩
      · exact .inl ⟨k, by rw [h1]; exact hk⟩
      · obtain ⟨p2, h5, h6, _, h7⟩ := rMem p hp
        exact .inr ⟨p2, h5, c1, i, by rw [h1, h6]; exact hq', h3, Int.lt_of_lt_of_le h4 (h7 c1)⟩
  · rcases rBack q hq with rfl | ⟨q0, h0, h1, h1'⟩
    · rw [r1] at e
      have e2 := (List.append_inj' e rfl).2
      have e3 := List.singleton_inj.mp e2
      injection e3 with e4 e5
      have hc : c = false := numC_inj (c' := false) e4
      rw [r2, Int.toNat_natCast, nNew] at hdq
      cases hdq
      exact (d2 hc).1
    · rcases rBack p hp with rfl | ⟨p0, h2, h3, _⟩
      · -- a way below the new row: no
        rw [h1] at e
        rcases I.par q0 h0 with ⟨k, hk, _⟩ | ⟨p2, hp2, c1, i2, hq2, h4, h5⟩
        · rw [hk, r1] at e
          have hl := congrArg List.length e
          simp at hl
        · rw [hq2] at e
          exact absurd (List.append_inj' e rfl).1 (newW p2 hp2)
      · have hk := I.att q0 h0 p0 h2 i (by rw [← h1, ← h3]; exact e)
        obtain ⟨h6, e6, he6, _⟩ := I.node q0 h0
        obtain ⟨e7, he7, hk7, _⟩ := nKeep _ _ he6
        rw [h1', he7] at hdq
        cases hdq
        rw [hk7]; exact hk _ he6
  · rcases rInv i q hi with ⟨_, hi1⟩ | ⟨rfl, rfl⟩ | ⟨rfl, rfl⟩ <;> rcases rInv k q' hk with ⟨_, hk1⟩ | ⟨rfl, rfl⟩ | ⟨rfl, rfl⟩
    · exact I.uw i k q q' hi1 hk1 e
    · exact absurd e (newW q (List.mem_of_getElem? hi1))
    · exact I.uw i k q r hi1 hr (e.trans jw)
    · exact absurd e.symm (newW q' (List.mem_of_getElem? hk1))
    · rfl
    · exact absurd (jw.symm.trans e.symm) (newW r hrm)
    · exact I.uw i k r q' hr hk1 (jw.symm.trans e)
    · exact absurd (jw.symm.trans e) (newW r hrm)
    · rfl
  · rcases rInv i q hi with ⟨_, hi1⟩ | ⟨rfl, rfl⟩ | ⟨rfl, rfl⟩ <;> rcases rInv k q' hk with ⟨_, hk1⟩ | ⟨rfl, rfl⟩ | ⟨rfl, rfl⟩
    · exact I.un i k q q' hi1 hk1 e
    · have := small q (List.mem_of_getElem? hi1); omega
    · exact I.un i k q r hi1 hr (e.trans j2)
    · have := small q' (List.mem_of_getElem? hk1); omega
    · rfl
    · have := small r hrm; omega
    · exact I.un i k r q' hr hk1 (j2.symm.trans e)
    · have := small r hrm; omega
    · rfl
  · have nm' : ∀ i : Int, (0 ≤ i ∧ ∃ dj : TN, ns[i.toNat]? = some dj ∧ (dj.loc = Str.ofString "k" ∨ ∃ n, n < rows.length ∧ dj.loc = nmOf n)) → (0 ≤ i ∧ ∃ dj : TN, ((ns ++ [d']).set r.node.toNat p')[i.toNat]? = some dj ∧ (dj.loc = Str.ofString "k" ∨ ∃ n, n < ((rows ++ [r']).set j rj).length ∧ dj.loc = nmOf n)) := by
      rintro i ⟨h0, dj, h1, h2⟩
      obtain ⟨e', h3, _, h4, _⟩ := nKeep _ _ h1
      refine ⟨h0, e', h3, ?_⟩
      rw [h4]
      rcases h2 with h2 | ⟨n, h5, h6⟩
      · exact .inl h2
      · exact .inr ⟨n, by rw [rLen]; omega, h6⟩
    obtain ⟨k, hk⟩ := List.mem_iff_getElem?.mp he
    rcases nInv k e hk with ⟨_, hk⟩ | ⟨_, rfl⟩ | ⟨_, rfl⟩
    · exact nm' i (I.nm e (List.mem_of_getElem? hk) i hi)
    · rw [d1.2.1] at hi; cases hi
    · cases c with
      | true =>
        have hp2 : e.atI = d.atI := p2
        rw [hp2] at hi
        exact nm' i (I.nm d (List.mem_of_getElem? hd) i hi)
      | false =>
        have hp1 : e.atI = d.atI ++ [(ns.length : Int)] := p1
        rw [hp1] at hi
        rcases List.mem_append.mp hi with hi | hi
        · exact nm' i (I.nm d (List.mem_of_getElem? hd) i hi)
        · rw [List.mem_singleton.mp hi]
          refine ⟨Int.natCast_nonneg _, d', by rw [Int.toNat_natCast]; exact nNew, .inr ⟨rows.length, by rw [rLen]; exact Nat.lt_succ_self _, (d2 rfl).2⟩⟩
  · have up : ∀ i : Int, (0 ≤ i ∧ i < (ns.length : Int)) → 0 ≤ i ∧ i < (((ns ++ [d']).set r.node.toNat p').length : Int) := by
      rintro i ⟨h0, h1⟩; rw [nLen]; omega
    obtain ⟨k, hk⟩ := List.mem_iff_getElem?.mp he
    rcases nInv k e hk with ⟨_, hk⟩ | ⟨_, rfl⟩ | ⟨_, rfl⟩
    · exact up i (I.nso e (List.mem_of_getElem? hk) i hi)
    · rw [d1.2.2] at hi; cases hi
    · rw [pn] at hi; exact up i (I.nso d (List.mem_of_getElem? hd) i hi)
  · rw [rLen]
    rcases rCase q hq with ⟨i, _, hi⟩ | rfl | rfl
    · have := I.wl q (List.mem_of_getElem? hi); omega
    · have := I.wl r hrm; omega
    · have := I.wl r hrm; rw [j1]; omega
theorem LInv.ext {ns ns' : List TN} {rows : List RW} (I : LInv ns rows) (h : ∀ (i : Nat) (d : TN), ns[i]? = some d → ∃ d', ns'[i]? = some d' ∧ d'.kind = d.kind ∧ d'.loc = d.loc ∧ d'.chI = d.chI ∧ d'.atI = d.atI)
    (hb : ∀ d' ∈ ns', d'.atI = [] ∨ ∃ d ∈ ns, d'.atI = d.atI) (hn : ∀ d ∈ ns', ∀ j ∈ d.nsI, 0 ≤ j ∧ j < (ns'.length : Int)) : LInv ns' rows := by
  refine ⟨fun r hr => ?_, I.par, fun r hr p hp i e d hd => ?_, I.uw, I.un, fun e he i hi => ?_, hn, I.wl⟩
  · obtain ⟨h0, d, hd, o⟩ := I.node r hr
    obtain ⟨d', h1, h2, h3, h4, h5⟩ := h _ _ hd
    have hl : ∀ c, lstC c d' = lstC c d := fun c => by cases c; exact h5; exact h4
    exact ⟨h0, d', h1, fun c => by rw [hl]; exact o.len c, fun c i v hv => o.kid c i v (by rw [← hl]; exact hv), fun q => by rw [h5]; exact o.noAt (by rw [← h2]; exact q), fun q => by rw [h4]; exact o.noCh (by rw [← h2]; exact q)⟩
  · obtain ⟨h0, d0, hd0, _⟩ := I.node r hr
    obtain ⟨d', h1, h2, _⟩ := h _ _ hd0
    rw [hd] at h1; cases h1
    rw [h2]; exact I.att r hr p hp i e _ hd0
  · rcases hb e he with h1 | ⟨d, hd, h1⟩
    · rw [h1] at hi; cases hi
    · rw [h1] at hi
      obtain ⟨h0, dj, h2, h3⟩ := I.nm d hd i hi
      obtain ⟨d', h4, _, h5, _⟩ := h _ _ h2
      exact ⟨h0, d', h4, by rw [h5]; exact h3⟩
theorem nmOf_inj : ∀ m < 24, ∀ n < 24, nmOf m = nmOf n → m = n := by decide +kernel
theorem nmOf_k : ∀ m < 24, Str.ofString "k" ≠ nmOf m := by decide +kernel
theorem LInv.hat {ns : List TN} {rows : List RW} {d : TN} (I : LInv ns rows) (hd : d ∈ ns) (hz : rows.length < 24) : ∀ j ∈ d.atI, 0 ≤ j ∧ ∃ dj, ns[j.toNat]? = some dj ∧ dj.loc ≠ nmOf rows.length := fun j hj => by
  obtain ⟨h0, dj, h1, h2⟩ := I.nm d hd j hj
  refine ⟨h0, dj, h1, fun e => ?_⟩
  rcases h2 with h2 | ⟨n, h3, h4⟩
  · exact nmOf_k _ hz (h2.symm.trans e)
  · have := nmOf_inj n (by omega) _ hz (h4.symm.trans e); omega
theorem comp_J {prog : Program} {w : World} {A : Around} {s : Shared} {h₀ : Heap} {L : Addr} {m : Str → Option Value} {env : Env} {ct elt : PySem.Expr} {x : Str} {scope : Scope} {cl : List (Str × Addr)} {S : Led → Prop} {P : Nat → Value → Prop} {Fin : List Value → Led → Prop} {n : Nat}
    (J : Nat → List Value → Led → Prop)
    (turn : ∀ i ys news v I oI C oC D m₂ h tk (E' : Value → Shared → Prop), i < n → J i ys news → S news → P i v → LCg.NsObj oC m₂ → m₂ x = some v → Fr h₀ L h m → News h₀ L h ((I, oI) :: (C, oC) :: (D, LCg.lst ys) :: news) → LCg.Off3 I C D news → ((@Ne Nat I C) ∧ (@Ne Nat I D) ∧ (@Ne Nat C D)) →
      wpAny (model prog w) A (isTrue ct (compEnvC scope cl C env) (eval ct (compEnvC scope cl C env))) (fun ok s' => if ok = true then
        wpAny (model prog w) A (eval elt (compEnvC scope cl C env)) (LCg.CompEnd h₀ L m { s with heap := h, toks := tk } I oI C oC D (LCg.lst ys) S (fun y news' => J (i + 1) (ys ++ [y]) news')) E' s'
        else LCg.CompEnd h₀ L m { s with heap := h, toks := tk } I oI C oC D (LCg.lst ys) S (fun _ news' => J (i + 1) ys news') Value.none s') E' { s with heap := h, toks := tk })
    (fin : ∀ ys news, J n ys news → Fin ys news) :
    ∀ (k i : Nat) ys news, i + k = n → J i ys news → S news → LCt.CompRestT prog w A h₀ L m env ct elt x scope cl s S P Fin k i ys news
  | 0, i, ys, news, e, hJ, _ => LCt.CompRestT.zero (fin ys news (by have : i = n := by omega
                                                                    rw [← this]; exact hJ))
  | k + 1, i, ys, news, e, hJ, hS => by
    refine LCt.CompRestT.succ fun v I oI C oC D m₂ h tk E' hP hC hx F N off ne => ?_
    refine wpAny_mono (turn i ys news v I oI C oC D m₂ h tk E' (by omega) hJ hS hP hC hx F N off ne) (fun ok s' hq => ?_) fun _ _ e => e
    cases ok with
    | true =>
      simp only [if_true] at hq ⊢
      refine wpAny_mono hq (fun y s'' hq => ?_) fun _ _ e => e
      obtain ⟨h', tk', news', e1, F', N', o', S', r⟩ := hq
      exact ⟨h', tk', news', e1, F', N', o', S', comp_J J turn fin k (i + 1) _ _ (by omega) r S'⟩
    | false =>
      simp only [Bool.false_eq_true, if_false] at hq ⊢
      obtain ⟨h', tk', news', e1, F', N', o', S', r⟩ := hq
      exact ⟨h', tk', news', e1, F', N', o', S', comp_J J turn fin k (i + 1) _ _ (by omega) r S'⟩
noncomputable def isEl (ns : List TN) (r : RW) : Bool := match ns[r.node.toNat]? with
  | some d => d.kind == Str.ofString "element"
  | none => false
theorem off1_mem {D : Addr} : ∀ {l : Led}, LCg.Off1 D l → ∀ p ∈ l, p.1 ≠ D
  | [], _, _, h => nomatch h
  | _ :: _, x, p, h => by
    rcases List.mem_cons.mp h with rfl | h
    · exact x.1
    · exact off1_mem x.2 p h
theorem isEl_of {ns : List TN} {r : RW} {d : TN} (h : ns[r.node.toNat]? = some d) : isEl ns r = (d.kind == Str.ofString "element") := by unfold isEl; rw [h]
theorem filt_succ {α : Type} {f : α → Bool} {l : List α} {i : Nat} {x : α} (h : l[i]? = some x) : (l.take (i + 1)).filter f = if f x = true then (l.take i).filter f ++ [x] else (l.take i).filter f := by
  rw [List.take_add_one, h, List.filter_append]
  show _ ++ List.filter f [x] = _
  cases e : f x with
  | true => simp [e]
  | false => simp [e]
/-- rows that live on -/
noncomputable def RKeep (ns : List TN) (rows : List RW) (ns' : List TN) (rows' : List RW) : Prop := ∀ q ∈ rows, ∃ q' ∈ rows', q'.w = q.w ∧ q'.node = q.node ∧ isEl ns' q' = isEl ns q
theorem RKeep.refl {ns : List TN} {rows : List RW} : RKeep ns rows ns rows := fun q h => ⟨q, h, rfl, rfl, rfl⟩
theorem RKeep.trans {ns ns' ns'' : List TN} {rows rows' rows'' : List RW} (h : RKeep ns rows ns' rows') (k : RKeep ns' rows' ns'' rows'') : RKeep ns rows ns'' rows'' := fun q hq => by
  obtain ⟨q1, h1, h2, h3, h4⟩ := h q hq
  obtain ⟨q2, k1, k2, k3, k4⟩ := k q1 h1
  exact ⟨q2, k1, k2.trans h2, k3.trans h3, k4.trans h4⟩
theorem isEl_keep {ns ns' : List TN} {q q' : RW} {d d' : TN} (e : q'.node = q.node) (h : ns[q.node.toNat]? = some d) (h' : ns'[q.node.toNat]? = some d') (k : d'.kind = d.kind) : isEl ns' q' = isEl ns q := by
  rw [isEl_of h, isEl_of (d := d') (by rw [e]; exact h'), k]
theorem rkeep_ext {ns ns' : List TN} {rows : List RW} (I : LInv ns rows) (h : ∀ (i : Nat) (d : TN), ns[i]? = some d → ∃ d', ns'[i]? = some d' ∧ d'.kind = d.kind ∧ d'.loc = d.loc ∧ d'.chI = d.chI ∧ d'.atI = d.atI) : RKeep ns rows ns' rows := fun q hq => by
  obtain ⟨h0, d, hd, _⟩ := I.node q hq
  obtain ⟨d', h1, h2, _⟩ := h _ _ hd
  exact ⟨q, hq, rfl, rfl, isEl_keep rfl hd h1 h2⟩
theorem rkeep_push {ns : List TN} {rows : List RW} {j : Nat} {r r' rj : RW} {d d' p' : TN} (I : LInv ns rows) (hr : rows[j]? = some r) (hd : ns[r.node.toNat]? = some d) (pk : p'.kind = d.kind) (j1 : rj.way = r.way) (j2 : rj.node = r.node) :
    RKeep ns rows ((ns ++ [d']).set r.node.toNat p') ((rows ++ [r']).set j rj) := fun q hq => by
  obtain ⟨i, hi⟩ := List.mem_iff_getElem?.mp hq
  obtain ⟨h0, e, he, _⟩ := I.node q hq
  have hnl := (List.getElem?_eq_some_iff.mp hd).1
  have hjl := (List.getElem?_eq_some_iff.mp hr).1
  have rJ : ((rows ++ [r']).set j rj)[j]? = some rj := by
    rw [List.getElem?_set_self (by rw [List.length_append]; omega)]
  have nP : ((ns ++ [d']).set r.node.toNat p')[r.node.toNat]? = some p' := by
    rw [List.getElem?_set_self (by rw [List.length_append]; omega)]
  by_cases z : i = j
  · subst z
    rw [hr] at hi; cases hi
    exact ⟨rj, List.mem_of_getElem? rJ, by unfold RW.w; rw [j1], j2, isEl_keep j2 hd nP pk⟩
  · refine ⟨q, List.mem_of_getElem? (i := i) ?_, rfl, rfl, ?_⟩
    · rw [List.getElem?_set_ne (Ne.symm z), List.getElem?_append_left (List.getElem?_eq_some_iff.mp hi).1]; exact hi
    · have hne : q.node.toNat ≠ r.node.toNat := fun y => z (I.un i j q r hi hr (by have := (I.node r (List.mem_of_getElem? hr)).1; omega))
      refine isEl_keep rfl he (d' := e) ?_ rfl
      rw [List.getElem?_set_ne (Ne.symm hne), List.getElem?_append_left (List.getElem?_eq_some_iff.mp he).1]; exact he
theorem ext_set {ns : List TN} {j : Nat} {dj x : TN} (hj : ns[j]? = some dj) (k : x.kind = dj.kind) (l : x.loc = dj.loc) (c : x.chI = dj.chI) (a : x.atI = dj.atI) : ∀ (i : Nat) (d : TN), ns[i]? = some d → ∃ d', (ns.set j x)[i]? = some d' ∧ d'.kind = d.kind ∧ d'.loc = d.loc ∧ d'.chI = d.chI ∧ d'.atI = d.atI := fun i d h => by
  by_cases q : j = i
  · subst q
    rw [hj] at h; cases h
    exact ⟨x, by rw [List.getElem?_set_self (List.getElem?_eq_some_iff.mp hj).1], k, l, c, a⟩
  · exact ⟨d, by rw [List.getElem?_set_ne q]; exact h, rfl, rfl, rfl, rfl⟩
theorem ext_app {ns : List TN} {x : TN} : ∀ (i : Nat) (d : TN), ns[i]? = some d → ∃ d', (ns ++ [x])[i]? = some d' ∧ d'.kind = d.kind ∧ d'.loc = d.loc ∧ d'.chI = d.chI ∧ d'.atI = d.atI := fun i d h =>
  ⟨d, by rw [List.getElem?_append_left (List.getElem?_eq_some_iff.mp h).1]; exact h, rfl, rfl, rfl, rfl⟩
theorem ext_trans {ns ns' ns'' : List TN} (h : ∀ (i : Nat) (d : TN), ns[i]? = some d → ∃ d', ns'[i]? = some d' ∧ d'.kind = d.kind ∧ d'.loc = d.loc ∧ d'.chI = d.chI ∧ d'.atI = d.atI)
    (k : ∀ (i : Nat) (d : TN), ns'[i]? = some d → ∃ d', ns''[i]? = some d' ∧ d'.kind = d.kind ∧ d'.loc = d.loc ∧ d'.chI = d.chI ∧ d'.atI = d.atI) :
    ∀ (i : Nat) (d : TN), ns[i]? = some d → ∃ d', ns''[i]? = some d' ∧ d'.kind = d.kind ∧ d'.loc = d.loc ∧ d'.chI = d.chI ∧ d'.atI = d.atI := fun i d hd => by
  obtain ⟨d1, h0, h1, h2, h3, h4⟩ := h i d hd
  obtain ⟨d2, k0, k1, k2, k3, k4⟩ := k i d1 h0
  exact ⟨d2, k0, k1.trans h1, k2.trans h2, k3.trans h3, k4.trans h4⟩
noncomputable def DeedOk (σ : SS) (lab : Addr → Lab) (news : Led) (b : Nat) (σ' : SS) (lab' : Addr → Lab) (news' : Led) : Prop :=
  ND news' ∧ StL news' lab' σ' ∧ Step lab lab' news news' ∧ σ'.src = σ.src ∧ σ'.T.t = σ.T.t ∧ σ'.rl = σ.rl ∧ PureT (b + 2) σ'.T ∧ LInv σ'.T.ns σ'.rows ∧ σ'.rows.length ≤ σ.rows.length + 1 ∧ RKeep σ.T.ns σ.rows σ'.T.ns σ'.rows
section
variable {h₀ h' : Heap} {L : Addr} {m : Str → Option Value} {σ : SS} {lab lab5 : Addr → Lab} {news n2 n5 : Led} {b j : Nat} {d d5 : TN} {r : RW} {ta la wA rA up : Addr} {ob : Obj} {tk5 tk6 kt u1 u2 u3 : Tok}
theorem close_attr (H2 : StL n2 lab σ) (H5 : StL n5 lab5 ((σ.addNode d5).setNode r.node.toNat (d.pushAt (.int (σ.T.ns.length : Int) tk6) (σ.T.ns.length : Int))))
    (N8 : News h₀ L h' (setL r.addr (listOf [Value.ref r.wayA, .int r.node r.k1, .int (r.na + 1) kt, .int r.nc r.k3].toArray r.n) (setL σ.rl (listOf ((σ.rows.map fun (r : RW) => Value.ref r.addr) ++ [Value.ref rA]).toArray (σ.nL + 1)) ((rA, listOf [Value.ref wA, .int (σ.T.ns.length : Int) tk5, .int 0 u2, .int 0 u3].toArray 0) :: n5))))
    (St3 : Step lab lab news n2) (St5 : Step lab lab5 ((wA, listOf ((r.way.map fun (x : WI) => Value.ref x.ta) ++ [Value.ref ta]).toArray 0) :: (la, listOf [Value.ref ta].toArray 0) :: (ta, tupOf [.int 0 u1, .int r.na r.k2] 0) :: (up, ob) :: n2) n5)
    (hr : σ.rows[j]? = some r) (hd : σ.T.ns[r.node.toNat]? = some d) (hdk : d.kind = Str.ofString "element") (Iv : LInv σ.T.ns σ.rows)
    (l7 : ∀ p ∈ n5, p.1 < rA) (lw : ∀ p ∈ (la, listOf [Value.ref ta].toArray 0) :: (ta, tupOf [.int 0 u1, .int r.na r.k2] 0) :: (up, ob) :: n2, p.1 < wA) (lt : ∀ p ∈ (up, ob) :: n2, p.1 < ta)
    (nd5 : ND n5) (P5 : PureT (b + 2) ((σ.addNode d5).setNode r.node.toNat (d.pushAt (.int (σ.T.ns.length : Int) tk6) (σ.T.ns.length : Int))).T) (q5 : d5.kind = Str.ofString "attribute") (q6 : d5.loc = nmOf σ.rows.length) (q7 : d5.chI = [] ∧ d5.atI = [] ∧ d5.nsI = []) :
    ∃ σ' lab', DeedOk σ lab news b σ' lab' (setL r.addr (listOf [Value.ref r.wayA, .int r.node r.k1, .int (r.na + 1) kt, .int r.nc r.k3].toArray r.n) (setL σ.rl (listOf ((σ.rows.map fun (r : RW) => Value.ref r.addr) ++ [Value.ref rA]).toArray (σ.nL + 1)) ((rA, listOf [Value.ref wA, .int (σ.T.ns.length : Int) tk5, .int 0 u2, .int 0 u3].toArray 0) :: n5))) := by
  have ltn : ∀ p ∈ n2, p.1 < ta := fun p hp => lt p (.tail _ hp)
  have lwn : ∀ p ∈ n2, p.1 < wA := fun p hp => lw p (.tail _ (.tail _ (.tail _ hp)))
  have mw := St5.keep _ (.head _) (H2.fresh lwn)
  have mt := St5.keep _ (.tail _ (.tail _ (.head _))) (H2.fresh ltn)
  have S5 := (St3.trans (Step.of_sub (sub_cons (sub_cons (sub_cons (sub_cons fun _ h => h)))))).trans St5
  obtain ⟨lab7, H7, S7⟩ := close_row (x := ⟨ta, 0, r.na, u1, r.k2, 0⟩) { r with na := r.na + 1, k2 := kt } (H5.mono (sub_cons fun _ h => h)) (S5.trans (Step.of_sub (sub_cons fun _ h => h))) (r := r) (j := j) hr
    (.tail _ mt) ((St5.lb _ (.tail _ (.tail _ (.head _)))).trans (H2.fresh ltn)) (fresh_step St3 ltn)
    (.tail _ mw) ((St5.lb _ (.head _)).trans (H2.fresh lwn)) (fresh_step St3 lwn) (.head _) (H5.fresh l7) (fresh_step S5 l7) (lw _ (.tail _ (.head _))) (l7 _ mw) rfl rfl rfl rfl rfl
  refine ⟨_, lab7, (nd5.cons l7).set.set, H7, S7, rfl, rfl, rfl, P5, ?_, ?_, ?_⟩
  · exact Iv.push false hr hd hdk rfl rfl rfl rfl rfl q7 (fun _ => ⟨q5, q6⟩) (by unfold RW.w; rw [List.map_append]; rfl) rfl ⟨rfl, rfl⟩ (by rw [List.length_append]; rfl) rfl rfl rfl rfl
  · show ((σ.rows ++ [_]).set j _).length ≤ σ.rows.length + 1
    rw [List.length_set, List.length_append]; exact Nat.le_refl _
  · exact rkeep_push Iv hr hd rfl rfl rfl
theorem close_child (H5 : StL n5 lab5 ((σ.addNode d5).setNode r.node.toNat (d.pushCh (.int (σ.T.ns.length : Int) tk6) (σ.T.ns.length : Int))))
    (N8 : News h₀ L h' (setL r.addr (listOf [Value.ref r.wayA, .int r.node r.k1, .int r.na r.k2, .int (r.nc + 1) kt].toArray r.n) (setL σ.rl (listOf ((σ.rows.map fun (r : RW) => Value.ref r.addr) ++ [Value.ref rA]).toArray (σ.nL + 1)) ((rA, listOf [Value.ref wA, .int (σ.T.ns.length : Int) tk5, .int 0 u2, .int 0 u3].toArray 0) :: (wA, listOf ((r.way.map fun (x : WI) => Value.ref x.ta) ++ [Value.ref ta]).toArray 0) :: (la, listOf [Value.ref ta].toArray 0) :: (ta, tupOf [.int 1 u1, .int r.nc r.k3] 0) :: n5))))
    (S5 : Step lab lab5 news n5)
    (hr : σ.rows[j]? = some r) (hd : σ.T.ns[r.node.toNat]? = some d) (hdk : d.kind = Str.ofString "element") (Iv : LInv σ.T.ns σ.rows)
    (l7 : ∀ p ∈ (wA, listOf ((r.way.map fun (x : WI) => Value.ref x.ta) ++ [Value.ref ta]).toArray 0) :: (la, listOf [Value.ref ta].toArray 0) :: (ta, tupOf [.int 1 u1, .int r.nc r.k3] 0) :: n5, p.1 < rA) (lw : ∀ p ∈ (la, listOf [Value.ref ta].toArray 0) :: (ta, tupOf [.int 1 u1, .int r.nc r.k3] 0) :: n5, p.1 < wA) (ll : ∀ p ∈ (ta, tupOf [.int 1 u1, .int r.nc r.k3] 0) :: n5, p.1 < la) (lt : ∀ p ∈ n5, p.1 < ta)
    (nd5 : ND n5) (P5 : PureT (b + 2) ((σ.addNode d5).setNode r.node.toNat (d.pushCh (.int (σ.T.ns.length : Int) tk6) (σ.T.ns.length : Int))).T) (q7 : d5.chI = [] ∧ d5.atI = [] ∧ d5.nsI = []) :
    ∃ σ' lab', DeedOk σ lab news b σ' lab' (setL r.addr (listOf [Value.ref r.wayA, .int r.node r.k1, .int r.na r.k2, .int (r.nc + 1) kt].toArray r.n) (setL σ.rl (listOf ((σ.rows.map fun (r : RW) => Value.ref r.addr) ++ [Value.ref rA]).toArray (σ.nL + 1)) ((rA, listOf [Value.ref wA, .int (σ.T.ns.length : Int) tk5, .int 0 u2, .int 0 u3].toArray 0) :: (wA, listOf ((r.way.map fun (x : WI) => Value.ref x.ta) ++ [Value.ref ta]).toArray 0) :: (la, listOf [Value.ref ta].toArray 0) :: (ta, tupOf [.int 1 u1, .int r.nc r.k3] 0) :: n5))) := by
  have lwn : ∀ p ∈ n5, p.1 < wA := fun p hp => lw p (.tail _ (.tail _ hp))
  have l7n : ∀ p ∈ n5, p.1 < rA := fun p hp => l7 p (.tail _ (.tail _ (.tail _ hp)))
  obtain ⟨lab7, H7, S7⟩ := close_row (x := ⟨ta, 1, r.nc, u1, r.k3, 0⟩) { r with nc := r.nc + 1, k3 := kt } (H5.mono (sub_cons (sub_cons (sub_cons (sub_cons fun _ h => h))))) (S5.trans (Step.of_sub (sub_cons (sub_cons (sub_cons (sub_cons fun _ h => h)))))) (r := r) (j := j) hr
    (.tail _ (.tail _ (.tail _ (.head _)))) (H5.fresh lt) (fresh_step S5 lt)
    (.tail _ (.head _)) (H5.fresh lwn) (fresh_step S5 lwn) (.head _) (H5.fresh l7n) (fresh_step S5 l7n) (lw _ (.tail _ (.head _))) (l7 _ (.head _)) rfl rfl rfl rfl rfl
  refine ⟨_, lab7, ((((nd5.cons lt).cons ll).cons lw).cons l7).set.set, H7, S7, rfl, rfl, rfl, P5, ?_, ?_, ?_⟩
  · exact Iv.push true hr hd hdk rfl rfl rfl rfl rfl q7 nofun (by unfold RW.w; rw [List.map_append]; rfl) rfl ⟨rfl, rfl⟩ (by rw [List.length_append]; rfl) rfl rfl rfl rfl
  · show ((σ.rows ++ [_]).set j _).length ≤ σ.rows.length + 1
    rw [List.length_set, List.length_append]; exact Nat.le_refl _
  · exact rkeep_push Iv hr hd rfl rfl rfl
end
local macro_rules | `(tactic| walk_at "ph15") => `(tactic| fail_if_success (fail_if_success (have h9 : Ph 15 := by with_reducible assumption)))
local macro_rules | `(tactic| walk_at "CompSrcT") => `(tactic| (walk_at "ph15"; (k_here; k_dflt (refine' LCt.CompSrcT.ledger ?k1 ?k2 ?k3 ?k4 ?k5 ?_; (case k1 => exact rfl); (case k2 => k_asm); (case k3 => k_asm); (case k4 => k_mem); (case k5 => ((rw [sizeLine_eq, List.size_toArray]); (try simp only [List.length_map]); omega))); intro g'; refine Halt.mk ?_)))
section
variable {prog : Program} {w : World} {mean : ExcName → Option Value} {mg mb : Str → Option Value} {dp un : Nat} {gd : Option (List Code)} {cn : Str} {cs : Scope} {a : Addr} {ccd : Value} {cl : List (Str × Addr)} {outer : List Env} {A₀ : Around} {base h₀ : Heap} {L : Addr} {m : Str → Option Value} {news : Led} {s : Shared}
    {Q E : Value → Shared → Prop} {σ : SS} {lab : Addr → Lab} {b : Nat} {tk : Tok}
end
noncomputable def deed_st_S (K : Params → Frag) (V : PySem.Program) : Prop := ∀ {prog : Program} {w : World} {mean : ExcName → Option Value} {mg mb : Str → Option Value} {dp un : Nat} {gd : Option (List Code)} {cn : Str} {cs : Scope} {a : Addr} {ccd : Value} {cl : List (Str × Addr)} {outer : List Env} {A₀ : Around} {base h₀ : Heap} {L : Addr} {m : Str → Option Value} {news : Led} {s : Shared} {Q E : Value → Shared → Prop} {σ : SS} {lab : Addr → Lab} {b : Nat} (B : Below A₀ base outer h₀) (F : Fr h₀ L s.heap m) (X : (K w.params).In h₀) (N : News h₀ L s.heap news) (Tp : Top V (looseW V []) mean mg mb h₀) (hk : cs.kind = .function) (hdp : dp + 24 < recursionLimit) (hu : un + 400 < cLine) {src t rl : Addr} (q1 : σ.src = src) (q2 : σ.T.t = t) (q3 : σ.rl = rl) (nd : ND news) (H : StL news lab σ) (P : PureT b σ.T) (hb : b < 300) (hR : σ.rows.length < 24) (Iv : LInv σ.T.ns σ.rows) {r0 : RW} (hel : r0 ∈ σ.rows ∧ isEl σ.T.ns r0 = true) (hret : ∀ σ' lab' news' h' tk', Fr h₀ L h' m → News h₀ L h' news' → DeedOk σ lab news b σ' lab' news' →
      Q .none { s with heap := h', toks := tk' }),
    wpAny (model prog w) (ktrTop dp un gd cn cs L a ccd cl outer) (call (.ref 304) [.ref src, .ref t, .ref rl]) Q E s
theorem deed_st_use {K : Params → Frag} {V : PySem.Program} (Z : deed_st_S K V) : ∀ {prog : Program} {w : World} {mean : ExcName → Option Value} {mg mb : Str → Option Value} {dp un : Nat} {gd : Option (List Code)} {cn : Str} {cs : Scope} {a : Addr} {ccd : Value} {cl : List (Str × Addr)} {outer : List Env} {A₀ : Around} {base h₀ : Heap} {L : Addr} {m : Str → Option Value} {news : Led} {s : Shared} {Q E : Value → Shared → Prop} {σ : SS} {lab : Addr → Lab} {b : Nat} (B : Below A₀ base outer h₀) (F : Fr h₀ L s.heap m) (X : (K w.params).In h₀) (N : News h₀ L s.heap news) (Tp : Top V (looseW V []) mean mg mb h₀) (hk : cs.kind = .function) (hdp : dp + 24 < recursionLimit) (hu : un + 400 < cLine) {src t rl : Addr} (q1 : σ.src = src) (q2 : σ.T.t = t) (q3 : σ.rl = rl) (nd : ND news) (H : StL news lab σ) (P : PureT b σ.T) (hb : b < 300) (hR : σ.rows.length < 24) (Iv : LInv σ.T.ns σ.rows) {r0 : RW} (hel : r0 ∈ σ.rows ∧ isEl σ.T.ns r0 = true) (hret : ∀ σ' lab' news' h' tk', Fr h₀ L h' m → News h₀ L h' news' → DeedOk σ lab news b σ' lab' news' →
      Q .none { s with heap := h', toks := tk' }),
    wpAny (model prog w) (ktrTop dp un gd cn cs L a ccd cl outer) (call (.ref 304) [.ref src, .ref t, .ref rl]) Q E s := Z
local macro_rules | `(tactic| walk_at "ph16") => `(tactic| fail_if_success (fail_if_success (have h9 : Ph 16 := by with_reducible assumption)))
local macro_rules | `(tactic| kwd_less) => `(tactic| (walk_at "ph16"; first | assumption | (refine ND.set ?_; kwd_less) | (refine' ND.cons ?a ?b; (case a => kwd_less); (case b => assumption))))
local macro_rules | `(tactic| walk_at "binaryOp Add ref ref") => `(tactic| (walk_at "ph16"; (k_here; k_dflt (refine' W_add ?F ?N ?a ?b ?z ?_; (case F => k_asm); (case N => k_asm); (case a => k_mem); (case b => k_mem); (case z => ((simp only [List.length_map, List.length_cons, List.length_nil]); omega)); k_whole); intro D' h' F' N' l1)))
/-! loops by an invariant over the whole ledger: enumerate, range -/
section
variable {prog : Program} {w : World} {A : Around} {E : Value → Shared → Prop} {s : Shared} {env : Env} {h₀ : Heap} {x : Str} {body : List Stmt} {Q : Flow → Shared → Prop}
theorem range_J {r : Addr} {b₀ : Int} {t₀ u₀ v₀ : Tok} {n : Nat} {m₀ : Str → Option Value} {news : Led} (J : Nat → (Str → Option Value) → Led → Prop)
    (hh : A.handled = none) (hr : IsRange s.heap r 0 b₀ 1 t₀ u₀ v₀) (hsmall : Builtin.Range.small 0 b₀ 1 = true) (hsz : Builtin.Range.rangeSize 0 b₀ 1 = (n : Int)) (F : Fr h₀ env.locals s.heap m₀) (N : News h₀ env.locals s.heap news) (hj : J 0 m₀ news)
    (turn : ∀ (i : Nat) (v : Value) (m₁ : Str → Option Value) (nx : Led) (h : Heap) (tk : Nat) (own : Led), i < n → (∃ t, v = .int (i : Int) t) → OwnOff own (nx.map (·.1)) → J i m₁ nx → Fr h₀ env.locals h (fun y => if y = x then some v else m₁ y) → News h₀ env.locals h (nx ++ own) →
      wpAny (model prog w) A (execs body env) (InvPostG h₀ env.locals (J (i + 1)) own { s with heap := h, toks := tk } Q) E { s with heap := h, toks := tk })
    (done : ∀ (m₁ : Str → Option Value) (nx : Led) (h : Heap) (tk : Nat), J n m₁ nx → Fr h₀ env.locals h m₁ → News h₀ env.locals h nx → Q .next { s with heap := h, toks := tk }) :
    wpAny (model prog w) A (pyIter (.ref r)) (fun it s₂ => LoopAtV prog w A h₀ env x body Q E it s₂) E s := by
  refine wpAny_pyIter_range hr hsmall ?_
  have W : Walks prog w A s.heap.objs.size [s.heap.objs.size] [s.heap.objs.size] n (fun i v => i < n ∧ ∃ t, v = .int (0 + i * 1) t)
      (fun i h => IsRangeIter h s.heap.objs.size (0 + (i : Nat) * 1) ((n : Int) - (i : Nat)) 1) := (Walks.range hh _ 0 1 n).bound
  refine kdr_loop J W (fun _ h => h) (fun _ h => h) ?_ ?_ ?_ ?_ (by show IsRangeIter _ _ _ _ _; rw [hsz]; simpa using Heap.get?_push_size _ rfl) (F.push _) (fun p hp => ⟨Heap.get?_push_of_some _ (N p hp).1, (N p hp).2⟩) hj ?_ ?_
  · intro i h hi b hb
    rw [List.mem_singleton.mp hb]
    exact ⟨_, hi⟩
  · intro hm
    exact absurd F.ns.lt ((List.mem_singleton.mp hm) ▸ Nat.lt_irrefl _)
  · intro b hb
    rw [List.mem_singleton.mp hb]
    exact next_is_new F
  · intro p hp hI
    exact absurd (Heap.lt_size (N p hp).1) ((List.mem_singleton.mp hI) ▸ Nat.lt_irrefl _)
  · rintro i v m₁ nx h tk own hi ⟨_, t, rfl⟩ hoff hj' F₁ N₁
    exact turn i _ m₁ nx h tk own hi ⟨t, by congr 1; omega⟩ hoff hj' F₁ N₁
  · rintro m₁ nx h tk hj' F₁ N₁
    exact done m₁ nx h tk hj' F₁ N₁
theorem enum_rest {elts : List PySem.Expr} {k : Nat} {pos : Pos} {l : Addr} {vs : List Value} {nn : Nat} {I : Addr} (J : Nat → (Str → Option Value) → Led → Prop)
    (turn : ∀ (i : Nat) (v : Value) (T : Addr) (t : Tok) (m₁ : Str → Option Value) (nx : Led) (h : Heap) (tk : Nat) (own : Led), vs[i]? = some v → OwnOff own (nx.map (·.1)) → (l, listOf vs.toArray nn) ∈ nx → J i m₁ nx → IsTup h T #[.int (i : Int) t, v] → Fr h₀ env.locals h m₁ → News h₀ env.locals h (nx ++ own) →
      wpAny (model prog w) A (assign (.Tuple elts k pos) env (.ref T)) (fun _ s₂ => wpAny (model prog w) A (execs body env) (InvPostG h₀ env.locals (fun m' nx => (l, listOf vs.toArray nn) ∈ nx ∧ J (i + 1) m' nx) own { s with heap := h, toks := tk } Q) E s₂) E { s with heap := h, toks := tk })
    (done : ∀ (m₁ : Str → Option Value) (nx : Led) (h : Heap) (tk : Nat), J vs.length m₁ nx → Fr h₀ env.locals h m₁ → News h₀ env.locals h nx → Q .next { s with heap := h, toks := tk }) :
    ∀ (c i : Nat) (m₁ : Str → Option Value) (nx : Led), i + c = vs.length → (∀ p ∈ nx, p.1 ≠ I + 1 ∧ p.1 ≠ I) → (l, listOf vs.toArray nn) ∈ nx → J i m₁ nx →
      ItemsRest prog w A E h₀ env (.Tuple elts k pos) body Q s [(I + 1, "enumerate"), (I, "list_iterator")] [(l, listOf vs.toArray nn)] (enumItems i (vs.drop i)) m₁ nx
  | 0, i, m₁, nx, e, ho, hl, hj => by
    have e1 : vs.drop i = [] := List.drop_eq_nil_of_le (by omega)
    have e2 : i = vs.length := by omega
    rw [e1]
    subst e2
    exact ItemsRest.zero fun h tk F N => done m₁ nx h tk hj F N
  | c + 1, i, m₁, nx, e, ho, hl, hj => by
    have hi : i < vs.length := by omega
    obtain ⟨v, hv⟩ : ∃ v, vs[i]? = some v := ⟨_, List.getElem?_eq_getElem hi⟩
    have e1 : vs.drop i = v :: vs.drop (i + 1) := by
      rw [List.drop_eq_getElem_cons hi]
      rw [List.getElem?_eq_getElem hi] at hv
      rw [Option.some.inj hv]
    rw [e1]
    refine ItemsRest.pair fun T t h tk hT F => ?_
    refine AllObj.cons fun o1 c1 => AllObj.cons fun o2 c2 => AllObj.nil fun N => ?_
    have hoff : OwnOff [(I + 1, o1), (I, o2)] (nx.map (·.1)) := by
      intro p hp b hb q
      obtain ⟨z, hz, rfl⟩ := List.mem_map.mp hb
      have := ho z hz
      rcases List.mem_cons.mp hp with rfl | hp
      · exact this.1 q.symm
      · rw [List.mem_singleton.mp hp] at q; exact this.2 q.symm
    have N2 : News h₀ env.locals h (nx ++ [(I + 1, o1), (I, o2)]) := fun p hp => N p ((List.mem_append.mp hp).elim (fun z => List.mem_append_right _ z) fun z => List.mem_append_left _ z)
    refine wpAny_mono (turn i v T t m₁ nx h tk _ hv hoff hl hj hT F N2) (fun _ s₂ h₂ => wpAny_mono h₂ (fun f s₃ p => ?_) fun _ _ e => e) fun _ _ e => e
    have fin : InvEndG h₀ env.locals (fun m' nx => (l, listOf vs.toArray nn) ∈ nx ∧ J (i + 1) m' nx) [(I + 1, o1), (I, o2)] { s with heap := h, toks := tk } s₃ →
        UnrEndW h₀ env.locals { s with heap := h, toks := tk } [(I + 1, o1), (I, o2)] (fun m' n' => SubL [(l, listOf vs.toArray nn)] n' ∧ ItemsRest prog w A E h₀ env (.Tuple elts k pos) body Q s [(I + 1, "enumerate"), (I, "list_iterator")] [(l, listOf vs.toArray nn)] (enumItems (i + 1) (vs.drop (i + 1))) m' n') s₃ := by
      rintro ⟨h', tk', m', news', nx', q, F', N', hn, ho', ha, hl', hj'⟩
      refine ⟨h', tk', m', nx', q, F', fun p hp => N' p ((List.mem_append.mp hp).elim (ho' p) (hn p)), fun p hp z hz y => ha z hz p.1 (List.mem_map.mpr ⟨p, hp, rfl⟩) y.symm, ⟨hl', trivial⟩, enum_rest J turn done c (i + 1) m' nx' (by omega) (fun p hp => ⟨fun y => ha _ (.head _) p.1 (List.mem_map.mpr ⟨p, hp, rfl⟩) y.symm, fun y => ha _ (.tail _ (.head _)) p.1 (List.mem_map.mpr ⟨p, hp, rfl⟩) y.symm⟩) hl' hj'⟩
    cases f with
    | ret v => exact p
    | brk => exact p
    | next => exact fin p
    | cont => exact fin p
theorem enum_J {elts : List PySem.Expr} {k : Nat} {pos : Pos} {l : Addr} {vs : List Value} {nn : Nat} {m₀ : Str → Option Value} {news : Led} (J : Nat → (Str → Option Value) → Led → Prop)
    (hh : A.handled = none) (F : Fr h₀ env.locals s.heap m₀) (N : News h₀ env.locals s.heap news) (hl : (l, listOf vs.toArray nn) ∈ news) (hj : J 0 m₀ news)
    (turn : ∀ (i : Nat) (v : Value) (T : Addr) (t : Tok) (m₁ : Str → Option Value) (nx : Led) (h : Heap) (tk : Nat) (own : Led), vs[i]? = some v → OwnOff own (nx.map (·.1)) → (l, listOf vs.toArray nn) ∈ nx → J i m₁ nx → IsTup h T #[.int (i : Int) t, v] → Fr h₀ env.locals h m₁ → News h₀ env.locals h (nx ++ own) →
      wpAny (model prog w) A (assign (.Tuple elts k pos) env (.ref T)) (fun _ s₂ => wpAny (model prog w) A (execs body env) (InvPostG h₀ env.locals (fun m' nx => (l, listOf vs.toArray nn) ∈ nx ∧ J (i + 1) m' nx) own { s with heap := h, toks := tk } Q) E s₂) E { s with heap := h, toks := tk })
    (done : ∀ (m₁ : Str → Option Value) (nx : Led) (h : Heap) (tk : Nat), J vs.length m₁ nx → Fr h₀ env.locals h m₁ → News h₀ env.locals h nx → Q .next { s with heap := h, toks := tk }) :
    wpAny (model prog w) A (call (.type "enumerate") [.ref l]) (fun xv s₁ => wpAny (model prog w) A (pyIter xv) (fun it s₂ => TurnsAt prog w A h₀ env (.Tuple elts k pos) body Q E it s₂) E s₁) E s :=
  ktu_enum (lo := listOf vs.toArray nn) (vs := vs) (xs := enumItems 0 vs) hh F N hl rfl rfl rfl fun I hI =>
    enum_rest J turn done vs.length 0 m₀ news (Nat.zero_add _) (fun p hp => ⟨Nat.ne_of_lt (Nat.lt_succ_of_lt (hI p hp)), Nat.ne_of_lt (hI p hp)⟩) hl hj
end
/-- a ledger without some places -/
noncomputable def offL (own : Led) (l : Led) : Led := l.filter fun p => !(own.map (·.1)).contains p.1
theorem offL_mem {own l : Led} {p : Addr × Obj} : p ∈ offL own l ↔ p ∈ l ∧ ∀ q ∈ own, q.1 ≠ p.1 := by
  unfold offL
  rw [List.mem_filter]
  refine and_congr_right fun _ => ?_
  rw [Bool.not_eq_true', ← Bool.not_eq_true, List.contains_iff_mem]
  exact ⟨fun h q hq e => h (List.mem_map.mpr ⟨q, hq, e⟩), fun h hm => by obtain ⟨q, hq, e⟩ := List.mem_map.mp hm; exact h q hq e⟩
theorem offL_off {own l : Led} : OwnOff own ((offL own l).map (·.1)) := by
  intro p hp b hb e
  obtain ⟨q, hq, rfl⟩ := List.mem_map.mp hb
  exact (offL_mem.mp hq).2 p hp e
theorem offL_nd {own l : Led} (h : ND l) : ND (offL own l) := by
  unfold ND at *
  exact h.sublist (List.Sublist.map _ List.filter_sublist)
theorem StL.off {news own : Led} {lab : Addr → Lab} {σ : SS} (H : StL news lab σ) (ho : ∀ q ∈ own, lab q.1 = .no) : StL (offL own news) lab σ := by
  refine ⟨fun ℓ a o e => ?_, fun a ha => ?_⟩
  · obtain ⟨m, l⟩ := H.ent ℓ a o e
    refine ⟨offL_mem.mpr ⟨m, fun q hq z => ?_⟩, l⟩
    have h1 := ho q hq
    rw [z, l] at h1
    subst h1
    cases e
  · obtain ⟨o, m⟩ := H.sup a ha
    exact ⟨o, offL_mem.mpr ⟨m, fun q hq z => ha (by have z' : q.1 = a := z; rw [← z']; exact ho q hq)⟩⟩
theorem StL.own {nx own : Led} {lab : Addr → Lab} {σ : SS} (H : StL nx lab σ) (ho : OwnOff own (nx.map (·.1))) : ∀ q ∈ own, lab q.1 = .no := fun q hq => by
  cases e : lab q.1 <;> first | rfl | (exact absurd (H.sup q.1 (by rw [e]; intro z; cases z)) (fun ⟨o, h⟩ => ho q hq q.1 (List.mem_map.mpr ⟨_, h, rfl⟩) rfl))
/-! the sort on plain answers -/
noncomputable def askOk (n : Nat) (lt : Nat → Nat → Bool) {α : Type} : KasT α → (α → Prop) → Prop
  | .ret a, Q => Q a
  | .ask i j k, Q => i < n ∧ j < n ∧ i ≠ j ∧ askOk n lt (k (lt i j)) Q
theorem askOk_bind {n : Nat} {lt : Nat → Nat → Bool} {α β : Type} {f : α → KasT β} {Q : β → Prop} : ∀ (t : KasT α), askOk n lt t (fun a => askOk n lt (f a) Q) → askOk n lt (t.bind f) Q
  | .ret _, h => h
  | .ask _ _ k, ⟨h1, h2, h3, h4⟩ => ⟨h1, h2, h3, askOk_bind (k _) h4⟩
theorem askOk_mono {n : Nat} {lt : Nat → Nat → Bool} {α : Type} {Q Q' : α → Prop} (hq : ∀ a, Q a → Q' a) : ∀ (t : KasT α), askOk n lt t Q → askOk n lt t Q'
  | .ret _, h => hq _ h
  | .ask _ _ k, ⟨h1, h2, h3, h4⟩ => ⟨h1, h2, h3, askOk_mono hq (k _) h4⟩
theorem askOk_wp {n : Nat} {lt : Nat → Nat → Bool} {cmp : Nat → Nat → (Bool → Shared → Prop) → Shared → Prop} {s : Shared} (hc : ∀ i j C, i < n → j < n → i ≠ j → C (lt i j) s → cmp i j C s) {α : Type} {P : α → Prop} {Q : α → Shared → Prop} (hq : ∀ a, P a → Q a s) :
    ∀ (t : KasT α), askOk n lt t P → t.kasWp cmp Q s
  | .ret a, h => hq a h
  | .ask i j k, ⟨h1, h2, h3, h4⟩ => hc i j _ h1 h2 h3 (askOk_wp hc hq (k _) h4)
structure StrictOrd (n : Nat) (lt : Nat → Nat → Bool) : Prop where
  tot : ∀ i j, i < n → j < n → i ≠ j → lt i j = !lt j i
  tr : ∀ i j k, i < n → j < n → k < n → lt i j = true → lt j k = true → lt i k = true
noncomputable def PermN (n : Nat) (p : Array Nat) : Prop := p.toList.Perm (List.range n)
theorem PermN.size {n : Nat} {p : Array Nat} (h : PermN n p) : p.size = n := by
  have := h.length_eq
  simpa using this
theorem PermN.get {n : Nat} {p : Array Nat} (h : PermN n p) {i : Nat} (hi : i < n) : p.getD i 0 < n := by
  have hs := h.size
  have hm : p.getD i 0 ∈ p.toList := by
    have : i < p.size := by omega
    simp [Array.getD, this]
  have := h.mem_iff.mp hm
  simpa using this
theorem PermN.ne {n : Nat} {p : Array Nat} (h : PermN n p) {i j : Nat} (hi : i < n) (hj : j < n) (hij : i ≠ j) : p.getD i 0 ≠ p.getD j 0 := by
  have hs := h.size
  have hn : p.toList.Nodup := (h.nodup_iff).mpr List.nodup_range
  have h1 : i < p.size := by omega
  have h2 : j < p.size := by omega
  intro e
  have e' : p.toList[i]'(by simpa using h1) = p.toList[j]'(by simpa using h2) := by
    simpa [Array.getD, h1, h2] using e
  have hne := List.pairwise_iff_getElem.mp hn
  rcases Nat.lt_or_gt_of_ne hij with z | z
  · exact hne i j (by simpa using h1) (by simpa using h2) z e'
  · exact hne j i (by simpa using h2) (by simpa using h1) z e'.symm
theorem PermN.start (n : Nat) : PermN n (List.toArray (List.range n)) := by
  show (List.toArray (List.range n)).toList.Perm _
  simp
theorem getD_mirror {p : Array Nat} {m i : Nat} (hm : m ≤ p.size) : (kas_rev p 0 m).getD i 0 = if i < m then p.getD (m - 1 - i) 0 else p.getD i 0 := by
  have h := getElem?_mirror_all (xs := p) (i := 0) (j := m) hm i
  have g : ∀ (q : Array Nat) (k : Nat), q.getD k 0 = (q[k]?).getD 0 := fun q k => by simp [Array.getD]; split <;> simp [*]
  unfold kas_rev
  rw [g, h]
  by_cases hi : i < m
  · rw [if_pos ⟨Nat.zero_le _, hi⟩, if_pos hi, g]
    congr 2; omega
  · rw [if_neg (fun z => hi z.2), if_neg hi, g]
theorem getD_bubble {p : Array Nat} {k d i : Nat} (hk : k < p.size) (hd : d ≤ k) : (bubble p k d).getD i 0 = if i = k - d then p.getD k 0 else if k - d < i ∧ i ≤ k then p.getD (i - 1) 0 else p.getD i 0 := by
  have h := getElem?_bubble (xs := p) hk d hd i
  have g : ∀ (q : Array Nat) (k : Nat), q.getD k 0 = (q[k]?).getD 0 := fun q k => by simp [Array.getD]; split <;> simp [*]
  rw [g, g p k, g p (i - 1), g p i, h]
  repeat' split
  all_goals rfl
theorem PermN.rev {n m : Nat} {p : Array Nat} (h : PermN n p) : PermN n (kas_rev p 0 m) := (Array.perm_iff_toList_perm.mp (mirror_perm p 0 m _)).trans h
theorem PermN.bub {n k d : Nat} {p : Array Nat} (h : PermN n p) : PermN n (bubble p k d) := (Array.perm_iff_toList_perm.mp (bubble_perm p k d)).trans h
noncomputable def UpTo (lt : Nat → Nat → Bool) (p : Array Nat) (m : Nat) : Prop := ∀ i j, i < j → j < m → lt (p.getD i 0) (p.getD j 0) = true
noncomputable def DnTo (lt : Nat → Nat → Bool) (p : Array Nat) (m : Nat) : Prop := ∀ i j, i < j → j < m → lt (p.getD j 0) (p.getD i 0) = true
section
variable {n : Nat} {lt : Nat → Nat → Bool} (O : StrictOrd n lt)
theorem StrictOrd.no {n : Nat} {lt : Nat → Nat → Bool} (O : StrictOrd n lt) {i j : Nat} (hi : i < n) (hj : j < n) (h : i ≠ j) (e : lt i j = false) : lt j i = true := by
  have := O.tot i j hi hj h
  rw [e] at this
  simpa using this.symm
include O
theorem asc_ok {p : Array Nat} (hp : PermN n p) {N : Nat} (hN : N ≤ n) : ∀ (f m : Nat), 1 ≤ m → m + f = N → UpTo lt p m →
    askOk n lt (kas_asc p f m) fun r => m ≤ r ∧ r ≤ N ∧ UpTo lt p r ∧ (r = N ∨ lt (p.getD r 0) (p.getD (r - 1) 0) = true)
  | 0, m, _, e, h => ⟨Nat.le_refl _, by omega, h, .inl (by omega)⟩
  | f + 1, m, h1, e, h => by
    have b1 := hp.get (i := m) (by omega)
    have b2 := hp.get (i := m - 1) (by omega)
    have b3 := hp.ne (i := m) (j := m - 1) (by omega) (by omega) (by omega)
    refine ⟨b1, b2, b3, ?_⟩
    cases q : lt (p.getD m 0) (p.getD (m - 1) 0) with
    | true => exact ⟨Nat.le_refl _, by omega, h, .inr q⟩
    | false =>
      have q' := O.no b1 b2 b3 q
      refine askOk_mono (fun r hr => ⟨by omega, hr.2⟩) _ (asc_ok hp hN f (m + 1) (by omega) (by omega) fun i j hij hj => ?_)
      by_cases z : j < m
      · exact h i j hij z
      · obtain rfl : j = m := by omega
        by_cases y : i = j - 1
        · rw [y]; exact q'
        · exact O.tr _ _ _ (hp.get (by omega)) b2 b1 (h i (j - 1) (by omega) (by omega)) q'
theorem desc_ok {p : Array Nat} (hp : PermN n p) {N : Nat} (hN : N ≤ n) : ∀ (f m : Nat), 1 ≤ m → m + f = N → DnTo lt p m →
    askOk n lt (kas_desc f p m 0) fun r => r.1 = p ∧ m ≤ r.2.1 ∧ r.2.1 ≤ N ∧ r.2.2 = 0 ∧ DnTo lt p r.2.1
  | 0, m, _, e, h => ⟨rfl, Nat.le_refl _, by show m ≤ N; omega, rfl, h⟩
  | f + 1, m, h1, e, h => by
    have b1 := hp.get (i := m) (by omega)
    have b2 := hp.get (i := m - 1) (by omega)
    have b3 := hp.ne (i := m) (j := m - 1) (by omega) (by omega) (by omega)
    refine ⟨b1, b2, b3, ?_⟩
    cases q : lt (p.getD m 0) (p.getD (m - 1) 0) with
    | true =>
      show askOk n lt (if 0 > 0 then kas_desc f (kas_rev p (m - (0 + 1)) m) (m + 1) 0 else kas_desc f p (m + 1) 0) _
      rw [if_neg (Nat.lt_irrefl 0)]
      refine askOk_mono (fun r hr => ⟨hr.1, by omega, hr.2.2⟩) (kas_desc f p (m + 1) 0) (desc_ok hp hN f (m + 1) (by omega) (by omega) fun i j hij hj => ?_)
      by_cases z : j < m
      · exact h i j hij z
      · obtain rfl : j = m := by omega
        by_cases y : i = j - 1
        · rw [y]; exact q
        · exact O.tr _ _ _ b1 b2 (hp.get (by omega)) q (h i (j - 1) (by omega) (by omega))
    | false =>
      refine ⟨b2, b1, b3.symm, ?_⟩
      rw [O.no b1 b2 b3 q]
      exact ⟨rfl, Nat.le_refl _, by show m ≤ N; omega, rfl, h⟩
theorem tail_ok {p : Array Nat} (hp : PermN n p) {m N : Nat} (h1 : 1 ≤ m) (hm : m ≤ N) (hN : N ≤ n) (h : DnTo lt p m) :
    askOk n lt (kas_tail3 m N p) fun r => 1 ≤ r.1 ∧ r.1 ≤ N ∧ PermN n r.2 ∧ UpTo lt r.2 r.1 := by
  have hs := hp.size
  unfold kas_tail3
  refine askOk_bind _ (askOk_mono (fun r hr => ?_) _ (asc_ok O (hp.rev (m := m)) hN (N - m) m h1 (by omega) fun i j hij hj => ?_))
  · exact ⟨by show 1 ≤ r; omega, hr.2.1, hp.rev, hr.2.2.1⟩
  · rw [getD_mirror (by omega), getD_mirror (by omega), if_pos (by omega), if_pos hj]
    exact h _ _ (by omega) (by omega)
theorem count_ok {p : Array Nat} (hp : PermN n p) {N : Nat} (h1 : 1 ≤ N) (hN : N ≤ n) :
    askOk n lt (kas_count N p) fun r => 1 ≤ r.1 ∧ r.1 ≤ N ∧ PermN n r.2 ∧ UpTo lt r.2 r.1 := by
  unfold kas_count
  refine askOk_bind _ (askOk_mono (fun m hm => ?_) _ (asc_ok O hp hN (N - 1) 1 (Nat.le_refl 1) (by omega) fun i j hij hj => by omega))
  obtain ⟨a1, a2, a3, a4⟩ := hm
  by_cases e : (m == N) = true
  · rw [if_pos e]; exact ⟨a1, a2, hp, a3⟩
  · rw [if_neg e]
    have hlt : m < N := by
      have : m ≠ N := fun q => e (by rw [q]; exact beq_self_eq_true _)
      omega
    have a4' : lt (p.getD m 0) (p.getD (m - 1) 0) = true := a4.resolve_left (by omega)
    by_cases g : m > 1
    · rw [if_pos g]
      refine ⟨hp.get (by omega), hp.get (by omega), hp.ne (by omega) (by omega) (by omega), ?_⟩
      rw [a3 0 (m - 1) (by omega) (by omega)]
      exact ⟨a1, a2, hp, a3⟩
    · rw [if_neg g]
      obtain rfl : m = 1 := by omega
      unfold kas_descPart
      refine askOk_bind _ (askOk_mono (fun r hr => ?_) _ (desc_ok O hp hN (N - (1 + 1)) (1 + 1) (by omega) (by omega) fun i j hij hj => ?_))
      · obtain ⟨b1, b2, b3, b4, b5⟩ := hr
        rw [b4, if_neg (Nat.lt_irrefl 0), b1]
        exact tail_ok O hp (by omega) b3 hN b5
      · obtain rfl : j = 1 := by omega
        obtain rfl : i = 0 := by omega
        exact a4'
theorem place_ok {p : Array Nat} (hp : PermN n p) {k : Nat} (hk : k < n) (hs : UpTo lt p k) : ∀ (f l r : Nat), l ≤ r → r ≤ k → r - l ≤ f → (∀ i, i < l → lt (p.getD i 0) (p.getD k 0) = true) → (∀ i, r ≤ i → i < k → lt (p.getD k 0) (p.getD i 0) = true) →
    askOk n lt (kas_place p k f l r) fun x => x ≤ k ∧ (∀ i, i < x → lt (p.getD i 0) (p.getD k 0) = true) ∧ (∀ i, x ≤ i → i < k → lt (p.getD k 0) (p.getD i 0) = true)
  | 0, l, r, h1, h2, h3, h4, h5 => ⟨by omega, h4, fun i hi => h5 i (by omega)⟩
  | f + 1, l, r, h1, h2, h3, h4, h5 => by
    unfold kas_place
    by_cases g : l ≥ r
    · rw [if_pos g]; exact ⟨by omega, h4, fun i hi => h5 i (by omega)⟩
    · rw [if_neg g]
      have hm : (l + r) / 2 < k := by omega
      have b1 := hp.get hk
      have b2 := hp.get (i := (l + r) / 2) (by omega)
      have b3 := hp.ne hk (j := (l + r) / 2) (by omega) (by omega)
      refine ⟨b1, b2, b3, ?_⟩
      cases q : lt (p.getD k 0) (p.getD ((l + r) / 2) 0) with
      | true =>
        refine place_ok hp hk hs f l ((l + r) / 2) (by omega) (by omega) (by omega) h4 fun i hi hik => ?_
        by_cases z : i = (l + r) / 2
        · rw [z]; exact q
        · exact O.tr _ _ _ b1 b2 (hp.get (by omega)) q (hs _ _ (by omega) hik)
      | false =>
        have q' := O.no b1 b2 b3 q
        refine place_ok hp hk hs f ((l + r) / 2 + 1) r (by omega) h2 (by omega) (fun i hi => ?_) h5
        by_cases z : i = (l + r) / 2
        · rw [z]; exact q'
        · exact O.tr _ _ _ (hp.get (by omega)) b2 b1 (hs _ _ (by omega) hm) q'
theorem bin_ok : ∀ (f : Nat) (p : Array Nat) (k : Nat), PermN n p → k + f = n → UpTo lt p k → askOk n lt (kas_bin f p k) fun p' => PermN n p' ∧ UpTo lt p' n
  | 0, p, k, hp, e, h => ⟨hp, by obtain rfl : k = n := by omega
                                 exact h⟩
  | f + 1, p, k, hp, e, h => by
    have hs := hp.size
    refine askOk_bind _ (askOk_mono (fun l hl => ?_) _ (place_ok O hp (k := k) (by omega) h k 0 k (by omega) (by omega) (by omega) (fun i hi => by omega) (fun i h1 h2 => by omega)))
    obtain ⟨hlk, hlo, hhi⟩ := hl
    refine bin_ok f _ (k + 1) hp.bub (by omega) fun i j hij hj => ?_
    rw [getD_bubble (by omega) (by omega), getD_bubble (by omega) (by omega), show k - (k - l) = l by omega]
    repeat' split
    all_goals first
      | (exfalso; omega)
      | exact hlo _ (by omega)
      | exact hhi _ (by omega) (by omega)
      | exact h _ _ (by omega) (by omega)
theorem sort_ok : askOk n lt (kas_sort n) fun p => PermN n p ∧ UpTo lt p n := by
  by_cases h0 : n = 0
  · subst h0
    unfold kas_sort
    exact ⟨PermN.start 0, fun i j _ hj => absurd hj (Nat.not_lt_zero _)⟩
  · unfold kas_sort
    refine askOk_bind _ (askOk_mono (fun r hr => ?_) _ (count_ok O (PermN.start n) (by omega) (Nat.le_refl n)))
    obtain ⟨a1, a2, a3, a4⟩ := hr
    by_cases g : r.1 < n
    · rw [if_pos g, show max r.1 1 = r.1 by omega]
      exact bin_ok O (n - r.1) r.2 r.1 a3 (by omega) a4
    · rw [if_neg g]
      have e : r.1 = n := by omega
      rw [e] at a4
      exact ⟨a3, a4⟩
end
/-! list < list, tuple < tuple: by the first items that differ -/
open PySem.SeqAt in
noncomputable def LtAt (A : Around) (s : Shared) (y x : Value) (b : Bool) : Prop :=
  ∀ (prog : Program) (w : World) (E : Value → Shared → Prop) (Q : Value → Shared → Prop), Q (.bool b) s → wpAny (model prog w) A (richCompare .Lt y x) Q E s
inductive LexAt (A : Around) (s : Shared) : List Value → List Value → Bool → Prop
  | nil (ys : List Value) : LexAt A s [] ys (decide (0 < ys.length))
  | nilr (x : Value) (xs : List Value) : LexAt A s (x :: xs) [] false
  | eq {x y : Value} {xs ys : List Value} {b : Bool} (h : SeqAt.EqAt A s x y true) (r : LexAt A s xs ys b) : LexAt A s (x :: xs) (y :: ys) b
  | ne {x y : Value} {xs ys : List Value} {b : Bool} (h : SeqAt.EqAt A s x y false) (r : LtAt A s x y b) : LexAt A s (x :: xs) (y :: ys) b
section
open PySem.SeqAt
open AutoSeq1 (wpAny_loadPart')
open MeetsSeq MeetsSeq2 MeetsSeq3 SeqRoads2
theorem tuple_ltAt (l b : Addr) (items items2 : Array Value) (n n2 : Nat) (dd dd2 : Option Addr) (sl sl2 : Array (Option Value)) (r : Bool) :
    Meets (Builtin.«tuple.__lt__» ⟨[.ref l, .ref b], []⟩)
      (fun A R s => s.heap.get? l = some { cls := .type "tuple", dict := dd, data := .seq items n, slots := sl } ∧ s.heap.get? b = some { cls := .type "tuple", dict := dd2, data := .seq items2 n2, slots := sl2 } ∧
        LexAt A.in1 s items.toList items2.toList r ∧ R (.ok (.ret (.bool r))) s) :=
  .of_wp fun prog w A R s h => by
    obtain ⟨hp, g, d, tk, os⟩ := s; obtain ⟨hl, hb, he, hR⟩ := h
    have f2 := AutoSeq1.sub_tuple_tuple
    wp_walk using wpAny_loadPart' hl, wpAny_loadPart' hb, wpAny_forIn_list _ (fun rest b s' => b.1 = none ∧ s' = ⟨hp, g, d, tk, os⟩ ∧ ∃ xs ys k, rest = xs.zip ys ∧ LexAt A.in1 ⟨hp, g, d, tk, os⟩ xs ys r ∧ xs.length + k = items.size ∧ ys.length + k = items2.size) _
    case turn =>
      rintro ⟨y, x⟩ rest b s' ⟨hb', rfl, xs, ys, k, hz, hL, e1, e2⟩
      cases hL with
      | nil ys => simp at hz
      | nilr x xs => simp at hz
      | @eq x1 y1 xs ys _ h r =>
        rw [List.zip_cons_cons] at hz
        injection hz with h1 h2
        injection h1 with h3 h4
        subst h3 h4
        refine wpAny_bind (h prog w _ _ ?_)
        wp_walk
        exact ⟨rfl, rfl, xs, ys, k + 1, h2, r, by simp only [List.length_cons] at e1; omega, by simp only [List.length_cons] at e2; omega⟩
      | @ne x1 y1 xs ys _ h r =>
        rw [List.zip_cons_cons] at hz
        injection hz with h1 h2
        injection h1 with h3 h4
        subst h3 h4
        have r' := fun E Q => r prog w E Q
        refine wpAny_bind (h prog w _ _ ?_)
        wp_walk using r'
        exact ⟨_, rfl, hR⟩
    case fin =>
      rintro ⟨b1, b2⟩ s' ⟨hb', rfl, xs, ys, k, hz, hL, e1, e2⟩
      simp only at hb'
      subst hb'
      have hr : r = decide (items.size < items2.size) := by
        cases hL with
        | nil ys =>
          simp only [List.length_nil] at e1
          by_cases q : 0 < ys.length
          · rw [decide_eq_true q, decide_eq_true (by omega)]
          · rw [decide_eq_false q, decide_eq_false (by omega)]
        | nilr x xs =>
          simp only [List.length_nil, List.length_cons] at e1 e2
          rw [decide_eq_false (by omega)]
        | eq h r => simp at hz
        | ne h r => simp at hz
      wp_walk
      exact ⟨_, rfl, by rw [hr] at hR; exact hR⟩
    case h =>
      exact ⟨rfl, rfl, items.toList, items2.toList, 0, rfl, he, by simp, by simp⟩
theorem lt_loopAt (l b : Addr) (items items2 : Array Value) (n n2 : Nat) (dd dd2 : Option Addr) (sl sl2 : Array (Option Value)) (r : Bool) (k : Nat) :
    ∀ i : Nat, items.size - i = k → i ≤ items.size → i ≤ items2.size → Meets (Builtin.«list.__eq__.loop» ⟨[.ref l, .ref b, rawInt i, rawInt 0], []⟩)
      (fun A R s => s.heap.get? l = some { cls := .type "list", dict := dd, data := .seq items n, slots := sl } ∧ s.heap.get? b = some { cls := .type "list", dict := dd2, data := .seq items2 n2, slots := sl2 } ∧
        LexAt A.in1 s (items.toList.drop i) (items2.toList.drop i) r ∧ R (.ok (.ret (.bool r))) s) := by
  induction k with
  | zero =>
    intro i hk h1 h2 prog w A R s h
    obtain ⟨hp, g, d, tk, os⟩ := s; obtain ⟨hl, hb, he, hR⟩ := h
    wp_walk using wpAny_loadPart' hl, wpAny_loadPart' hb
    have hi1 : items[((i : Nat) : Int).toNat]? = none := by simp; omega
    rw [hi1]
    wp_walk using wpAny_loadPart' hl, wpAny_loadPart' hb
    show R (.ok (.ret (.bool (decide (items.size < items2.size))))) _
    have e1 : items.toList.drop i = [] := List.drop_eq_nil_of_le (by simp; omega)
    rw [e1] at he
    cases he
    rw [List.length_drop, Array.length_toList] at hR
    by_cases q : items.size < items2.size
    · rw [decide_eq_true q]; rw [decide_eq_true (by omega)] at hR; exact hR
    · rw [decide_eq_false q]; rw [decide_eq_false (by omega)] at hR; exact hR
  | succ k ih =>
    intro i hk h1 h2 prog w A R s h
    obtain ⟨hp, g, d, tk, os⟩ := s; obtain ⟨hl, hb, he, hR⟩ := h
    have hlt : i < items.size := by omega
    have hc : ((i : Int) + 1) = ((i + 1 : Nat) : Int) := by push_cast; rfl
    have hi1 : items[((i : Nat) : Int).toNat]? = some items[i] := by simp [hlt]
    have hd1 : items.toList.drop i = items[i] :: items.toList.drop (i + 1) := by simp [List.drop_eq_getElem_cons, hlt]
    wp_walk using wpAny_loadPart' hl, wpAny_loadPart' hb
    rw [hd1] at he
    by_cases hlt2 : i < items2.size
    · have hi2 : items2[((i : Nat) : Int).toNat]? = some items2[i] := by simp [hlt2]
      have hd2 : items2.toList.drop i = items2[i] :: items2.toList.drop (i + 1) := by simp [List.drop_eq_getElem_cons, hlt2]
      rw [hd2] at he
      rw [hi1, hi2]
      cases he with
      | eq h r =>
        refine wpAny_bind (h prog w _ _ ?_)
        wp_walk
        rw [hc]
        exact ⟨plainId_quiet plain_eq_loop _, codeAny_builtin entry_eq_loop (by
          rw [Around.under_plainId plain_eq_loop _]
          exact ih (i + 1) (by omega) (by omega) (by omega) prog w A R _ ⟨hl, hb, r, hR⟩)⟩
      | ne h r =>
        refine wpAny_bind (h prog w _ _ ?_)
        wp_walk using wpAny_loadPart' hl, wpAny_loadPart' hb
        rw [hi1, hi2]
        refine wpAny_bind (r prog w _ _ ?_)
        wp_walk
        exact hR
    · have hi2 : items2[((i : Nat) : Int).toNat]? = none := by simp; omega
      have hd2 : items2.toList.drop i = [] := List.drop_eq_nil_of_le (by simp; omega)
      rw [hd2] at he
      rw [hi1, hi2]
      wp_walk using wpAny_loadPart' hl, wpAny_loadPart' hb
      show R (.ok (.ret (.bool (decide (items.size < items2.size))))) _
      cases he
      rw [decide_eq_false (by omega)]
      exact hR
theorem list_ltAt (l b : Addr) (items items2 : Array Value) (n n2 : Nat) (dd dd2 : Option Addr) (sl sl2 : Array (Option Value)) (r : Bool) :
    Meets (Builtin.«list.__lt__» ⟨[.ref l, .ref b], []⟩)
      (fun A R s => s.heap.get? l = some { cls := .type "list", dict := dd, data := .seq items n, slots := sl } ∧ s.heap.get? b = some { cls := .type "list", dict := dd2, data := .seq items2 n2, slots := sl2 } ∧
        LexAt A.in1 s items.toList items2.toList r ∧ R (.ok (.ret (.bool r))) s) := by
  intro prog w A R s h
  obtain ⟨hp, g, d, tk, os⟩ := s; obtain ⟨hl, hb, he, hR⟩ := h
  have f3 := AutoSeq1.sub_list_list
  wp_walk using wpAny_loadPart' hl, wpAny_loadPart' hb
  exact ⟨plainId_quiet plain_eq_loop _, codeAny_builtin entry_eq_loop (by
    rw [Around.under_plainId plain_eq_loop _]
    exact lt_loopAt l b items items2 n n2 dd dd2 sl sl2 r _ 0 rfl (Nat.zero_le _) (Nat.zero_le _) prog w A R _ ⟨hl, hb, he, hR⟩)⟩
end
/-! ways: their order, plain and by the machine -/
abbrev Way := List (Int × Int)
noncomputable def plt (a b : Int × Int) : Bool := if a.1 = b.1 then decide (a.2 < b.2) else decide (a.1 < b.1)
noncomputable def wlt : Way → Way → Bool
  | [], y => decide (0 < y.length)
  | _ :: _, [] => false
  | a :: x, b :: y => if a = b then wlt x y else plt a b
theorem plt_no {a b : Int × Int} (h : a ≠ b) : plt a b = !plt b a := by
  unfold plt
  by_cases h1 : a.1 = b.1
  · have h2 : a.2 ≠ b.2 := fun e => h (Prod.ext h1 e)
    rw [if_pos h1, if_pos h1.symm]
    by_cases h3 : a.2 < b.2
    · rw [decide_eq_true h3, decide_eq_false (by omega)]; rfl
    · rw [decide_eq_false h3, decide_eq_true (by omega)]; rfl
  · rw [if_neg h1, if_neg (Ne.symm h1)]
    by_cases h3 : a.1 < b.1
    · rw [decide_eq_true h3, decide_eq_false (by omega)]; rfl
    · rw [decide_eq_false h3, decide_eq_true (by omega)]; rfl
theorem plt_ne {a b : Int × Int} (h : plt a b = true) : a ≠ b := by
  rintro rfl
  unfold plt at h
  rw [if_pos rfl] at h
  simp at h
theorem plt_tr {a b c : Int × Int} (h : plt a b = true) (k : plt b c = true) : plt a c = true := by
  unfold plt at *
  by_cases h1 : a.1 = b.1
  · rw [if_pos h1] at h
    by_cases h2 : b.1 = c.1
    · rw [if_pos h2] at k
      rw [if_pos (h1.trans h2)]
      simp only [decide_eq_true_eq] at *
      omega
    · rw [if_neg h2] at k
      rw [if_neg (by rw [h1]; exact h2)]
      simp only [decide_eq_true_eq] at *
      omega
  · rw [if_neg h1] at h
    by_cases h2 : b.1 = c.1
    · rw [if_neg (by rw [← h2]; exact h1)]
      simp only [decide_eq_true_eq] at *
      omega
    · rw [if_neg h2] at k
      simp only [decide_eq_true_eq] at *
      rw [if_neg (by omega)]
      simp only [decide_eq_true_eq] at *
      omega
theorem wlt_irr : ∀ x : Way, wlt x x = false
  | [] => by simp [wlt]
  | a :: x => by
    show (if a = a then wlt x x else plt a a) = false
    rw [if_pos rfl]; exact wlt_irr x
theorem wlt_tot : ∀ {x y : Way}, x ≠ y → wlt x y = !wlt y x
  | [], [], h => absurd rfl h
  | [], b :: y, _ => by simp [wlt]
  | a :: x, [], _ => by simp [wlt]
  | a :: x, b :: y, h => by
    show (if a = b then wlt x y else plt a b) = !(if b = a then wlt y x else plt b a)
    by_cases e : a = b
    · subst e
      rw [if_pos rfl, if_pos rfl]
      exact wlt_tot fun q => h (by rw [q])
    · rw [if_neg e, if_neg (Ne.symm e)]
      exact plt_no e
theorem wlt_tr : ∀ {x y z : Way}, wlt x y = true → wlt y z = true → wlt x z = true
  | [], y, [], h, k => by cases y <;> simp [wlt] at h k
  | [], _, c :: z, _, _ => by simp [wlt]
  | a :: x, [], _, h, _ => by simp [wlt] at h
  | a :: x, b :: y, [], _, k => by simp [wlt] at k
  | a :: x, b :: y, c :: z, h, k => by
    replace h : (if a = b then wlt x y else plt a b) = true := h
    replace k : (if b = c then wlt y z else plt b c) = true := k
    show (if a = c then wlt x z else plt a c) = true
    by_cases e : a = b
    · subst e
      rw [if_pos rfl] at h
      by_cases f : a = c
      · subst f
        rw [if_pos rfl] at k ⊢
        exact wlt_tr h k
      · rw [if_neg f] at k ⊢
        exact k
    · rw [if_neg e] at h
      by_cases f : b = c
      · subst f
        rw [if_neg e]; exact h
      · rw [if_neg f] at k
        have q := plt_tr h k
        rw [if_neg (plt_ne q)]; exact q
theorem wlt_app : ∀ (p x y : Way), wlt (p ++ x) (p ++ y) = wlt x y
  | [], _, _ => rfl
  | a :: p, x, y => by
    show (if a = a then wlt (p ++ x) (p ++ y) else plt a a) = _
    rw [if_pos rfl]; exact wlt_app p x y
theorem wlt_pre (p : Way) (e : Int × Int) (t : Way) : wlt p (p ++ e :: t) = true := by
  have h := wlt_app p [] (e :: t)
  rw [List.append_nil] at h
  rw [h]; simp [wlt]
theorem wlt_head (p : Way) {e f : Int × Int} (t u : Way) (h : plt e f = true) : wlt (p ++ e :: t) (p ++ f :: u) = true := by
  rw [wlt_app]
  show (if e = f then wlt t u else plt e f) = true
  rw [if_neg (plt_ne h)]; exact h
section
open PySem.SeqAt
variable {A : Around} {s : Shared}
theorem EqAt.cast {y x : Value} {b c : Bool} (h : EqAt A s y x b) (e : b = c) : EqAt A s y x c := e ▸ h
theorem LtAt.int (a b : Int) (t u : Tok) : LtAt A s (.int a t) (.int b u) (decide (a < b)) := fun prog w E Q h =>
  show wpAny (model prog w) A (compareOp .Lt (.int a t) (.int b u)) Q E s from PySem.P.lt_int h
noncomputable def WIn (s : Shared) (x : WI) : Prop := s.heap.get? x.ta = some x.obj
theorem wi_inj {x y : WI} (hx : WIn s x) (hy : WIn s y) (e : x.ta = y.ta) : (x.x, x.y) = (y.x, y.y) := by
  unfold WIn at hx hy
  rw [e, hy] at hx
  have h := Option.some.inj hx
  have h2 := congrArg Obj.data h
  have h3 : (Data.seq [.int y.x y.tx, .int y.y y.ty].toArray y.tn) = Data.seq [.int x.x x.tx, .int x.y x.ty].toArray x.tn := h2
  injection h3 with h4 _
  have h5 := congrArg Array.toList h4
  simp only [] at h5
  injection h5 with h6 h7
  injection h7 with h8 _
  injection h6 with h9 _
  injection h8 with h10 _
  rw [h9, h10]
theorem wi_eq {x y : WI} (hu : A.units + 8 < cLine) (hx : WIn s x) (hy : WIn s y) : EqAt A s (.ref x.ta) (.ref y.ta) (decide ((x.x, x.y) = (y.x, y.y))) := by
  by_cases e : x.ta = y.ta
  · rw [e]
    refine EqAt.cast (EqAt.same _) ?_
    rw [decide_eq_true (wi_inj hx hy e)]
  · refine EqAt.cast (EqAt.of_refs e (RcAt.tuples (items := [.int x.x x.tx, .int x.y x.ty].toArray) (items2 := [.int y.x y.tx, .int y.y y.ty].toArray) (e := fun j => if j = 0 then x.x == y.x else x.y == y.y) ⟨_, hx, rfl, _, rfl⟩ ⟨_, hy, rfl, _, rfl⟩ (by omega) fun j h1 h2 => ?_)) ?_
    · have h3 : j < 2 := h1
      match j, h3 with
      | 0, _ => exact EqAt.int_int _ _ _ _
      | 1, _ => exact EqAt.int_int _ _ _ _
    · show ((List.range (min 2 2)).all (fun j => if j = 0 then x.x == y.x else x.y == y.y) && (2 : Nat) == 2) = _
      have : (List.range (min 2 2)) = [0, 1] := by decide
      rw [this]
      by_cases h1 : x.x = y.x
      · by_cases h2 : x.y = y.y
        · simp [h1, h2]
        · simp [h1, h2]
      · simp [h1]
theorem wi_lt {x y : WI} (hu : A.units + 8 < cLine) (hx : WIn s x) (hy : WIn s y) : LtAt A s (.ref x.ta) (.ref y.ta) (plt (x.x, x.y) (y.x, y.y)) := by
  intro prog w E Q h
  refine richCompare_meets_room (op := .Lt) ⟨_, hx, rfl⟩ ⟨_, hy, rfl⟩ F.slot_tuple_lt F.entry_tuple_lt (F.args_tuple_lt_2 _ _) (tuple_ltAt x.ta y.ta _ _ x.tn y.tn none none #[] #[] (plt (x.x, x.y) (y.x, y.y)))
    ⟨hx, hy, ?_, show Value.bool (plt (x.x, x.y) (y.x, y.y)) ≠ Value.notImplemented ∧ Q (.bool (plt (x.x, x.y) (y.x, y.y))) s from ⟨(fun x => nomatch x), h⟩⟩ (by omega)
  show LexAt A.in1 s [.int x.x x.tx, .int x.y x.ty] [.int y.x y.tx, .int y.y y.ty] _
  unfold plt
  by_cases h1 : x.x = y.x
  · rw [if_pos h1]
    refine .eq (EqAt.cast (EqAt.int_int _ _ _ _) (by simp [h1])) ?_
    by_cases h2 : x.y = y.y
    · refine .eq (EqAt.cast (EqAt.int_int _ _ _ _) (by simp [h2])) ?_
      have : decide ((x.x, x.y).2 < (y.x, y.y).2) = decide (0 < ([] : List Value).length) := by
        rw [decide_eq_false (by show ¬ x.y < y.y; omega)]; rfl
      rw [this]
      exact .nil []
    · exact .ne (EqAt.cast (EqAt.int_int _ _ _ _) (by simp [h2])) (LtAt.int _ _ _ _)
  · rw [if_neg h1]
    exact .ne (EqAt.cast (EqAt.int_int _ _ _ _) (by simp [h1])) (LtAt.int _ _ _ _)
noncomputable def wv (xs : List WI) : List Value := xs.map fun x => Value.ref x.ta
noncomputable def wp (xs : List WI) : Way := xs.map fun x => (x.x, x.y)
theorem ways_lex (hu : A.units + 8 < cLine) : ∀ (xs ys : List WI), (∀ x ∈ xs, WIn s x) → (∀ y ∈ ys, WIn s y) → LexAt A s (wv xs) (wv ys) (wlt (wp xs) (wp ys))
  | [], ys, _, _ => by
    have : wlt (wp []) (wp ys) = decide (0 < (wv ys).length) := by
      show decide (0 < (wp ys).length) = _
      unfold wp wv; rw [List.length_map, List.length_map]
    rw [this]
    exact .nil _
  | x :: xs, [], _, _ => .nilr _ _
  | x :: xs, y :: ys, hx, hy => by
    have h1 := wi_eq (A := A) hu (hx x (.head _)) (hy y (.head _))
    show LexAt A s (Value.ref x.ta :: wv xs) (Value.ref y.ta :: wv ys) (if (x.x, x.y) = (y.x, y.y) then wlt (wp xs) (wp ys) else plt (x.x, x.y) (y.x, y.y))
    by_cases e : (x.x, x.y) = (y.x, y.y)
    · rw [if_pos e]
      exact .eq (EqAt.cast h1 (decide_eq_true e)) (ways_lex hu xs ys (fun z hz => hx z (.tail _ hz)) fun z hz => hy z (.tail _ hz))
    · rw [if_neg e]
      exact .ne (EqAt.cast h1 (decide_eq_false e)) (wi_lt hu (hx x (.head _)) (hy y (.head _)))
structure WayIn (s : Shared) (a : Addr) (xs : List WI) : Prop where
  l : ∃ n, s.heap.get? a = some (listOf (wv xs).toArray n)
  t : ∀ x ∈ xs, WIn s x
theorem ways_eq {a b : Addr} {xs ys : List WI} (hu : A.units + 16 < cLine) (ha : WayIn s a xs) (hb : WayIn s b ys) (hne : wp xs ≠ wp ys) : EqAt A s (.ref a) (.ref b) false := by
  obtain ⟨n, ha1⟩ := ha.l
  obtain ⟨k, hb1⟩ := hb.l
  have hab : a ≠ b := by
    rintro rfl
    rw [ha1] at hb1
    have h2 := congrArg Obj.data (Option.some.inj hb1)
    have h3 : (Data.seq (wv xs).toArray n) = Data.seq (wv ys).toArray k := h2
    injection h3 with h4 _
    have h5 : wv xs = wv ys := by simpa using congrArg Array.toList h4
    have go : ∀ (xs ys : List WI), (∀ x ∈ xs, WIn s x) → (∀ y ∈ ys, WIn s y) → wv xs = wv ys → wp xs = wp ys := by
      intro xs
      induction xs with
      | nil => intro ys _ _ e; cases ys with
        | nil => rfl
        | cons _ _ => simp [wv] at e
      | cons x xs ih => intro ys hx hy e; cases ys with
        | nil => simp [wv] at e
        | cons y ys =>
          have e' : Value.ref x.ta :: wv xs = Value.ref y.ta :: wv ys := e
          injection e' with e1 e2
          injection e1 with e1
          show (x.x, x.y) :: wp xs = (y.x, y.y) :: wp ys
          rw [wi_inj (hx x (.head _)) (hy y (.head _)) e1, ih ys (fun z hz => hx z (.tail _ hz)) (fun z hz => hy z (.tail _ hz)) e2]
    exact hne (go xs ys ha.t hb.t h5)
  by_cases hl : xs.length = ys.length
  · have hu' : A.in1.units + 8 < cLine := by rw [units_in1]; omega
    refine EqAt.cast (EqAt.of_refs hab (RcAt.lists (items := (wv xs).toArray) (items2 := (wv ys).toArray) (e := fun j => decide ((wp xs)[j]? = (wp ys)[j]?)) ⟨_, ha1, rfl, _, rfl⟩ ⟨_, hb1, rfl, _, rfl⟩ (by simp [wv, hl]) (by omega) fun j h1 h2 => ?_)) ?_
    · have h1' : j < xs.length := by simpa [wv] using h1
      have h2' : j < ys.length := by simpa [wv] using h2
      have e1 : (wv xs).toArray[j] = Value.ref xs[j].ta := by simp [wv]
      have e2 : (wv ys).toArray[j] = Value.ref ys[j].ta := by simp [wv]
      rw [e1, e2]
      refine EqAt.cast (wi_eq hu' (ha.t _ (List.getElem_mem h1')) (hb.t _ (List.getElem_mem h2'))) ?_
      have e3 : (wp xs)[j]? = some (xs[j].x, xs[j].y) := by simp [wp, h1']
      have e4 : (wp ys)[j]? = some (ys[j].x, ys[j].y) := by simp [wp, h2']
      rw [e3, e4]
      by_cases q : (xs[j].x, xs[j].y) = (ys[j].x, ys[j].y)
      · rw [decide_eq_true q, decide_eq_true (congrArg some q)]
      · rw [decide_eq_false q, decide_eq_false fun z => q (Option.some.inj z)]
    · cases q : (List.range (wv xs).toArray.size).all fun j => decide ((wp xs)[j]? = (wp ys)[j]?) with
      | false => rfl
      | true =>
        refine absurd (List.ext_getElem? fun j => ?_) hne
        rw [List.all_eq_true] at q
        by_cases z : j < xs.length
        · have := q j (by simp [wv]; exact z)
          simpa using this
        · rw [List.getElem?_eq_none (by simp [wp]; omega), List.getElem?_eq_none (by simp [wp]; omega)]
  · exact EqAt.of_refs hab (RcAt.lists_lengths (items := (wv xs).toArray) (items2 := (wv ys).toArray) ⟨_, ha1, rfl, _, rfl⟩ ⟨_, hb1, rfl, _, rfl⟩ (by simp [wv, hl]) (by omega))
/-- a tuple (way, node) -/
structure PairIn (s : Shared) (a : Addr) (w : Addr) (n : Int) (xs : List WI) : Prop where
  t : ∃ k c, s.heap.get? a = some (tupOf [.ref w, .int n k] c)
  w : WayIn s w xs
theorem pair_lt {prog : Program} {w : World} {E : Value → Shared → Prop} {Q : Bool → Shared → Prop} {a b wa wb : Addr} {n m : Int} {xs ys : List WI} (hu : A.units + 32 < cLine) (ha : PairIn s a wa n xs) (hb : PairIn s b wb m ys) (hne : wp xs ≠ wp ys)
    (h : Q (wlt (wp xs) (wp ys)) s) : wpAny (model prog w) A (keyLt' (tuples' true) (.ref a) (.ref b)) Q E s := by
  obtain ⟨k, c, ha1⟩ := ha.t
  obtain ⟨k2, c2, hb1⟩ := hb.t
  refine kat_lt ha1 rfl hb1 rfl ?_
  show KatLex prog w A true _ Q [(.ref wa, .ref wb), (.int n k, .int m k2)] 0 s
  refine kat_cons (ways_eq (by omega) ha.w hb.w hne prog w _ _ ?_)
  refine kat_no ?_
  show wpAny (model prog w) A (oneLt' true (.ref wa) (.ref wb)) Q _ s
  rw [oneLt'_eq]
  simp only [if_true]
  refine wpAny_bind (wpAny_cRoomFor (by omega) ?_)
  obtain ⟨ka, ha2⟩ := ha.w.l
  obtain ⟨kb, hb2⟩ := hb.w.l
  have hu' : A.in1.units + 8 < cLine := by rw [units_in1]; omega
  refine wpAny_bind (wpAny_callSpecialIfBound?_slot ⟨_, ha2, rfl⟩ F.slot_list_lt (call_meets F.slot_list_lt ⟨_, ha2, rfl⟩ F.entry_list_lt (F.args_list_lt_2 _ _) (list_ltAt wa wb _ _ ka kb none none #[] #[] (wlt (wp xs) (wp ys))) ⟨ha2, hb2, ?_, ?_⟩))
  · exact ways_lex (by rw [units_in1]; omega) xs ys ha.w.t hb.w.t
  · exact wpAny_truthy_bool h
end
/-! sorted() of a list of pairs (way, node) -/
structure PT where
  ta : Addr
  wa : Addr
  node : Int
  k : Tok
  c : Nat
  way : List WI
  wn : Nat
noncomputable def PT.z : PT := ⟨0, 0, 0, 0, 0, [], 0⟩
structure PTIn (news : Led) (p : PT) : Prop where
  t : (p.ta, tupOf [.ref p.wa, .int p.node p.k] p.c) ∈ news
  w : (p.wa, listOf (wv p.way).toArray p.wn) ∈ news
  i : ∀ x ∈ p.way, (x.ta, x.obj) ∈ news
theorem PTIn.mono {news news' : Led} {p : PT} (h : PTIn news p) (k : ∀ e ∈ news, e ∈ news') : PTIn news' p := ⟨k _ h.t, k _ h.w, fun x hx => k _ (h.i x hx)⟩
theorem PTIn.at {h₀ : Heap} {L : Addr} {s : Shared} {news : Led} {p : PT} (N : News h₀ L s.heap news) (h : PTIn news p) : PairIn s p.ta p.wa p.node p.way :=
  ⟨⟨_, _, (N _ h.t).1⟩, ⟨⟨_, (N _ h.w).1⟩, fun x hx => (N _ (h.i x hx)).1⟩⟩
theorem katTups_of {h₀ h : Heap} {L : Addr} {news : Led} (N : News h₀ L h news) : ∀ (ps : List PT), (∀ p ∈ ps, PTIn news p) → KatTups h (ps.map fun p => Value.ref p.ta) (ps.map fun p => Value.ref p.wa)
  | [], _ => KatTups.nil
  | p :: ps, hp => KatTups.cons (N _ (hp p (.head _)).t).1 rfl rfl rfl (katTups_of N ps fun q hq => hp q (.tail _ hq))
theorem W_sorted {prog : Program} {w : World} {A : Around} {E : Value → Shared → Prop} {s : Shared} {h₀ : Heap} {L l : Addr} {m : Str → Option Value} {news : Led} {ps : List PT} {n : Nat} {Q : Value → Shared → Prop}
    (F : Fr h₀ L s.heap m) (N : News h₀ L s.heap news) (hl : (l, listOf (ps.map fun p => Value.ref p.ta).toArray n) ∈ news) (h2 : 2 ≤ ps.length) (h64 : ps.length < 64) (hp : ∀ p ∈ ps, PTIn news p)
    (hne : ps.Pairwise fun a b => wp a.way ≠ wp b.way) (hu : A.units + 64 < cLine)
    (h : ∀ D h' c (ps' : List PT), Fr h₀ L h' m → News h₀ L h' ((D, listOf (ps'.map fun p => Value.ref p.ta).toArray c) :: news) → (∀ p ∈ news, p.1 < D) → ps'.Perm ps → (ps'.Pairwise fun a b => wlt (wp a.way) (wp b.way) = true) → Q (.ref D) { s with heap := h' }) :
    wpAny (model prog w) A (call (.builtin "sorted") [.ref l]) Q E s := by
  refine kat_sorted F N (News.isList N hl) (by rw [List.length_map]; exact h2) (by rw [List.length_map]; exact h64) fun D e1 h' F' N' l1 => ?_
  have hp' : ∀ p ∈ ps, PTIn ((D, seqObj "list" #[] e1) :: news) p := fun p hq => (hp p hq).mono fun e he => .tail _ he
  refine kat_kind (T := .type "list") (katTups_of N' ps hp') (by rw [List.length_map]; omega) (fun v hv => ?_) rfl ?_
  · obtain ⟨p, hq, rfl⟩ := List.mem_map.mp hv
    have g := (N' _ (hp' p hq).w).1
    exact (Looks.ld g).andThen .now
  · show (kas_sort (ps.map fun p => Value.ref p.ta).length).kasWp (kas_ask prog w A.in1.in1 (tuples' true) (ps.map fun p => Value.ref p.ta)) _ _
    rw [List.length_map]
    have gd : ∀ i, i < ps.length → (ps.map fun p => Value.ref p.ta).getD i Value.none = Value.ref (ps.getD i PT.z).ta := fun i hi => by simp [List.getD_eq_getElem?_getD, hi]
    have gm : ∀ i, i < ps.length → ps.getD i PT.z ∈ ps := fun i hi => by simp [List.getD_eq_getElem?_getD, hi]
    have gne : ∀ i j, i < ps.length → j < ps.length → i ≠ j → wp (ps.getD i PT.z).way ≠ wp (ps.getD j PT.z).way := fun i j hi hj hij => by
      have e1 : ps.getD i PT.z = ps[i] := by simp [List.getD_eq_getElem?_getD, hi]
      have e2 : ps.getD j PT.z = ps[j] := by simp [List.getD_eq_getElem?_getD, hj]
      rw [e1, e2]
      rw [List.pairwise_iff_getElem] at hne
      rcases Nat.lt_or_gt_of_ne hij with z | z
      · exact hne i j hi hj z
      · exact (hne j i hj hi z).symm
    have O : StrictOrd ps.length fun i j => wlt (wp (ps.getD i PT.z).way) (wp (ps.getD j PT.z).way) :=
      ⟨fun i j hi hj hij => wlt_tot (gne i j hi hj hij), fun i j k _ _ _ h1 h2 => wlt_tr h1 h2⟩
    refine askOk_wp (fun i j C hi hj hij hC => ?_) (fun p hP => ?_) _ (sort_ok O)
    · unfold kas_ask
      rw [gd i hi, gd j hj]
      exact pair_lt (by rw [units_in1, units_in1]; omega) (PTIn.at N' (hp' _ (gm i hi))) (PTIn.at N' (hp' _ (gm j hj))) (gne i j hi hj hij) hC
    · obtain ⟨hperm, hup⟩ := hP
      have hs := hperm.size
      have e : (p.toList.map fun i => (ps.map fun p => Value.ref p.ta).getD i Value.none) = (p.toList.map fun i => ps.getD i PT.z).map fun p => Value.ref p.ta := by
        rw [List.map_map]
        refine List.map_congr_left fun i hi => ?_
        have : i < ps.length := by simpa using hperm.mem_iff.mp hi
        exact gd i this
      rw [e]
      refine KasFin.intro F' N' (UpdF.head fun q hq => Nat.ne_of_lt (l1 q hq)) fun h'' c F'' N'' => ?_
      refine h D h'' c _ F'' N'' l1 ?_ ?_
      · have h1 := hperm.map fun i => ps.getD i PT.z
        have h2 : (List.range ps.length).map (fun i => ps.getD i PT.z) = ps := by
          apply List.ext_getElem
          · simp
          · intro i a b; simp [List.getD_eq_getElem?_getD, b]
        rw [h2] at h1
        exact h1
      · rw [List.pairwise_map, List.pairwise_iff_getElem]
        intro i j hi hj hij
        have hi' : i < p.size := by simpa using hi
        have hj' : j < p.size := by simpa using hj
        have := hup i j hij (by omega)
        simpa [Array.getD, hi', hj'] using this
/-! the plain law: what the deeds leave is one forest, whose nodes in order are the rows sorted by their ways -/
theorem w_ne {ns : List TN} {rows : List RW} (I : LInv ns rows) {r : RW} (h : r ∈ rows) : r.w ≠ [] := by
  intro e
  rcases I.par r h with ⟨k, h1, _⟩ | ⟨p, _, c, i, h1, _⟩
  · rw [h1] at e; cases e
  · rw [h1] at e; simp at e
theorem uw_mem {ns : List TN} {rows : List RW} (I : LInv ns rows) {r r' : RW} (h : r ∈ rows) (h' : r' ∈ rows) (e : r.w = r'.w) : r = r' := by
  obtain ⟨i, hi⟩ := List.mem_iff_getElem?.mp h
  obtain ⟨j, hj⟩ := List.mem_iff_getElem?.mp h'
  have := I.uw i j r r' hi hj e
  subst this
  rw [hi] at hj
  exact Option.some.inj hj
/-- every beginning of a row's way is a row's way -/
theorem pre_row {ns : List TN} {rows : List RW} (I : LInv ns rows) : ∀ (t : Way) (u : Way) (e : Int × Int) (r : RW), r ∈ rows → r.w = u ++ e :: t → ∃ q ∈ rows, q.w = u ++ [e] := by
  intro t
  induction h : t.length generalizing t with
  | zero =>
    intro u e r hr hw
    rw [List.length_eq_zero_iff.mp h] at hw
    exact ⟨r, hr, hw⟩
  | succ n ih =>
    intro u e r hr hw
    rcases I.par r hr with ⟨k, h1, _⟩ | ⟨p, hp, c, i, h1, _⟩
    · rw [h1] at hw
      have := congrArg List.length hw
      simp at this
      omega
    · rw [h1] at hw
      have ht : t ≠ [] := fun z => by rw [z] at h; cases h
      have hd := congrArg List.dropLast hw
      rw [List.dropLast_concat, List.dropLast_append_cons, List.dropLast_cons_of_ne_nil ht] at hd
      exact ih t.dropLast (by rw [List.length_dropLast]; omega) u e p hp hd
theorem app_inj {u v : Way} {e f : Int × Int} (h : u ++ [e] = v ++ [f]) : u = v ∧ e = f := by
  have h1 := congrArg List.dropLast h
  have h2 := congrArg List.getLast? h
  simp at h1 h2
  exact ⟨h1, h2⟩
/-- a step below a row is one of its attributes or of its children -/
theorem step_row {ns : List TN} {rows : List RW} (I : LInv ns rows) {r q : RW} (hr : r ∈ rows) (hq : q ∈ rows) {e : Int × Int} (h : q.w = r.w ++ [e]) :
    ∃ (c : Bool) (i : Nat), e = (numC c, (i : Int)) ∧ (i : Int) < cntC c r := by
  rcases I.par q hq with ⟨k, h1, _⟩ | ⟨p, hp, c, i, h1, h2, h3⟩
  · rw [h1] at h
    have e1 : ([] : Way) ++ [((k : Int), (0 : Int))] = r.w ++ [e] := h
    exact absurd (app_inj e1).1.symm (w_ne I hr)
  · rw [h1] at h
    obtain ⟨a, b⟩ := app_inj h
    have := uw_mem I hp hr a
    subst this
    obtain ⟨i', hi'⟩ := Int.eq_ofNat_of_zero_le h2
    exact ⟨c, i', by rw [← b, hi'], by rw [← hi']; exact h3⟩
structure Sub (ns : List TN) (rows : List RW) (r : RW) (bound : Int × Int → Prop) (ids : List Int) (P : List (Way × Int)) : Prop where
  ids : P.map (·.2) = ids
  up : P.Pairwise fun a b => wlt a.1 b.1 = true
  sound : ∀ x ∈ P, ∃ q ∈ rows, q.w = x.1 ∧ q.node = x.2 ∧ ∃ e t, bound e ∧ q.w = r.w ++ e :: t
  whole : ∀ q ∈ rows, ∀ e t, bound e → q.w = r.w ++ e :: t → (q.w, q.node) ∈ P
theorem atts_sub {ns : List TN} {rows : List RW} (I : LInv ns rows) {r : RW} {d : TN} (hr : r ∈ rows) (ok : NodeOk ns rows r d) : ∀ (l : List Int) (i : Nat), d.atI.drop i = l →
    ∃ P, Sub ns rows r (fun e => e.1 = 0 ∧ (i : Int) ≤ e.2) l P
  | [], i, hl => ⟨[], rfl, .nil, (fun _ h => nomatch h), fun q hq e t hb hw => by
      exfalso
      obtain ⟨q1, hq1, hw1⟩ := pre_row I t r.w e q hq hw
      obtain ⟨c, j, he, hj⟩ := step_row I hr hq1 hw1
      have hc : c = false := by
        cases c with
        | false => rfl
        | true => rw [he] at hb; exact absurd (show (1 : Int) = 0 from hb.1) (by decide)
      subst hc
      have := ok.len false
      have h2 := List.drop_eq_nil_iff.mp hl
      have h3 : (i : Int) ≤ (j : Int) := by rw [he] at hb; exact hb.2
      have h4 : (lstC false d).length = d.atI.length := rfl
      omega⟩
  | v :: l, i, hl => by
    have hil : i < d.atI.length := by
      rcases Nat.lt_or_ge i d.atI.length with z | z
      · exact z
      · rw [List.drop_eq_nil_of_le z] at hl; cases hl
    have hd := List.drop_eq_getElem_cons hil
    rw [hl] at hd
    injection hd with hv hl'
    have hv' : (lstC false d)[i]? = some v := by show d.atI[i]? = some v; rw [List.getElem?_eq_getElem hil, hv]
    obtain ⟨hlt, q0, hq0, hw0, hn0⟩ := ok.kid false i v hv'
    obtain ⟨P, S⟩ := atts_sub I hr ok l (i + 1) hl'.symm
    refine ⟨(q0.w, v) :: P, ?_, ?_, ?_, ?_⟩
    · rw [List.map_cons, S.ids]
    · refine List.Pairwise.cons (fun x hx => ?_) S.up
      obtain ⟨q, hq, h1, h2, e, t, hb, h3⟩ := S.sound x hx
      show wlt q0.w x.1 = true
      rw [← h1, h3, hw0]
      refine wlt_head r.w [] t ?_
      obtain ⟨e1, e2⟩ := e
      have hb1 : e1 = 0 := hb.1
      have hb2 : ((i + 1 : Nat) : Int) ≤ e2 := hb.2
      subst hb1
      show plt ((0 : Int), (i : Int)) (0, e2) = true
      unfold plt
      rw [if_pos rfl]
      simp only [decide_eq_true_eq]
      omega
    · intro x hx
      rcases List.mem_cons.mp hx with rfl | hx
      · exact ⟨q0, hq0, rfl, hn0, _, [], ⟨rfl, Int.le_refl _⟩, hw0⟩
      · obtain ⟨q, hq, h1, h2, e, t, hb, h3⟩ := S.sound x hx
        exact ⟨q, hq, h1, h2, e, t, ⟨hb.1, by have := hb.2; omega⟩, h3⟩
    · intro q hq e t hb hw
      obtain ⟨q1, hq1, hw1⟩ := pre_row I t r.w e q hq hw
      obtain ⟨c, j, he, hj⟩ := step_row I hr hq1 hw1
      have hc : c = false := by
        cases c with
        | false => rfl
        | true => rw [he] at hb; exact absurd (show (1 : Int) = 0 from hb.1) (by decide)
      subst hc
      have ha : ∀ dq, ns[q1.node.toNat]? = some dq → dq.kind = Str.ofString "attribute" := I.att q1 hq1 r hr j (by rw [hw1, he]; rfl)
      have ht : t = [] := by
        rcases t with _ | ⟨f, t⟩
        · rfl
        · exfalso
          have hw2 : q.w = q1.w ++ f :: t := by rw [hw, hw1]; simp
          obtain ⟨q2, hq2, hw3⟩ := pre_row I t q1.w f q hq hw2
          obtain ⟨c2, j2, _, hj2⟩ := step_row I hq1 hq2 hw3
          obtain ⟨_, dq, hdq, okq⟩ := I.node q1 hq1
          have hk := ha dq hdq
          have h5 := okq.len c2
          have h6 : lstC c2 dq = [] := by
            cases c2 with
            | true => exact okq.noCh hk
            | false => exact okq.noAt (by rw [hk]; decide)
          rw [h6] at h5
          simp at h5
          omega
      subst ht
      by_cases z : j = i
      · subst z
        have : q = q0 := uw_mem I hq hq0 (by rw [hw, hw0, he])
        rw [this, hn0]
        exact .head _
      · refine .tail _ (S.whole q hq e [] ⟨hb.1, ?_⟩ hw)
        have := hb.2
        rw [he] at this ⊢
        have h7 : (i : Int) ≤ (j : Int) := this
        show ((i + 1 : Nat) : Int) ≤ (j : Int)
        omega
theorem nat_list : ∀ (l : List Int), (∀ j ∈ l, 0 ≤ j) → ∃ a : List Nat, l = a.map fun (n : Nat) => (n : Int)
  | [], _ => ⟨[], rfl⟩
  | j :: l, h => by
    obtain ⟨a, e⟩ := nat_list l fun x hx => h x (.tail _ hx)
    obtain ⟨n, hn⟩ := Int.eq_ofNat_of_zero_le (h j (.head _))
    exact ⟨n :: a, by rw [List.map_cons, ← e, hn]⟩
/-- what a row's node bears below it -/
structure Tree1 (ns : List TN) (rows : List RW) (r : RW) : Prop where
  ex : ∃ d G P, ns[r.node.toNat]? = some d ∧ Rep ns G ∧ G.tops = d.chI ∧ Sub ns rows r (fun _ => True) (d.atI ++ G.all) P
theorem sub_all {ns : List TN} {rows : List RW} (I : LInv ns rows) : ∀ (n : Nat) (r : RW), r ∈ rows → ns.length - r.node.toNat ≤ n → Tree1 ns rows r
  | n, r, hr, hn => by
    obtain ⟨h0, d, hd, ok⟩ := I.node r hr
    have hlt := (List.getElem?_eq_some_iff.mp hd).1
    have kids : ∀ (l : List Int) (i : Nat), d.chI.drop i = l → ∃ G P, Rep ns G ∧ G.tops = l ∧ Sub ns rows r (fun e => e.1 = 1 ∧ (i : Int) ≤ e.2) G.all P := by
      intro l
      induction l with
      | nil =>
        intro i hl
        refine ⟨.nil, [], trivial, rfl, rfl, .nil, (fun _ h => nomatch h), fun q hq e t hb hw => ?_⟩
        exfalso
        obtain ⟨q1, hq1, hw1⟩ := pre_row I t r.w e q hq hw
        obtain ⟨c, j, he, hj⟩ := step_row I hr hq1 hw1
        have hc : c = true := by
          cases c with
          | true => rfl
          | false => rw [he] at hb; exact absurd (show (0 : Int) = 1 from hb.1) (by decide)
        subst hc
        have := ok.len true
        have h2 := List.drop_eq_nil_iff.mp hl
        have h3 : (i : Int) ≤ (j : Int) := by rw [he] at hb; exact hb.2
        have h4 : (lstC true d).length = d.chI.length := rfl
        omega
      | cons v l ih =>
        intro i hl
        have hil : i < d.chI.length := by
          rcases Nat.lt_or_ge i d.chI.length with z | z
          · exact z
          · rw [List.drop_eq_nil_of_le z] at hl; cases hl
        have hdd := List.drop_eq_getElem_cons hil
        rw [hl] at hdd
        injection hdd with hv hl'
        have hv' : (lstC true d)[i]? = some v := by show d.chI[i]? = some v; rw [List.getElem?_eq_getElem hil, hv]
        obtain ⟨hlt', q0, hq0, hw0, hn0⟩ := ok.kid true i v hv'
        obtain ⟨G2, P2, R2, T2, S2⟩ := ih (i + 1) hl'.symm
        obtain ⟨hq00, dq, hdq, okq⟩ := I.node q0 hq0
        have hlq := (List.getElem?_eq_some_iff.mp hdq).1
        have hrec : Tree1 ns rows q0 := by
          match n, hn with
          | 0, hn => omega
          | n + 1, hn => exact sub_all I n q0 hq0 (by omega)
        obtain ⟨dq', G1, P1, hdq', R1, T1, S1⟩ := hrec.ex
        rw [hdq] at hdq'
        cases hdq'
        obtain ⟨ats, hats⟩ := nat_list dq.atI fun j hj => (I.nm dq (List.mem_of_getElem? hdq) j hj).1
        have hvn : (v.toNat : Int) = v := by rw [← hn0]; omega
        refine ⟨.cons v.toNat ats G1 G2, (q0.w, v) :: (P1 ++ P2), ⟨⟨dq, by rw [← hn0]; exact hdq, T1.symm, fun _ => hats, fun hk => ?_⟩, R1, R2⟩, ?_, ?_, ?_, ?_, ?_⟩
        · have := okq.noAt hk
          rw [this] at hats
          exact List.map_eq_nil_iff.mp hats.symm
        · show (v.toNat : Int) :: G2.tops = v :: l
          rw [hvn, T2]
        · show v :: (P1 ++ P2).map (·.2) = (v.toNat : Int) :: (ats.map (fun (n : Nat) => (n : Int)) ++ (G1.all ++ G2.all))
          rw [hvn, List.map_append, S1.ids, S2.ids, hats, List.append_assoc]
        · have low : ∀ x ∈ P2, ∀ t, wlt (r.w ++ ((1 : Int), (i : Int)) :: t) x.1 = true := by
            intro x hx t
            obtain ⟨q, hq, h1, h2, e, t2, hb, h3⟩ := S2.sound x hx
            rw [← h1, h3]
            refine wlt_head r.w t t2 ?_
            obtain ⟨e1, e2⟩ := e
            have hb1 : e1 = 1 := hb.1
            have hb2 : ((i + 1 : Nat) : Int) ≤ e2 := hb.2
            subst hb1
            show plt ((1 : Int), (i : Int)) (1, e2) = true
            unfold plt
            rw [if_pos rfl]
            simp only [decide_eq_true_eq]
            omega
          have hw0' : q0.w = r.w ++ ((1 : Int), (i : Int)) :: [] := hw0
          refine List.Pairwise.cons (fun x hx => ?_) (List.pairwise_append.mpr ⟨S1.up, S2.up, fun x hx y hy => ?_⟩)
          · rcases List.mem_append.mp hx with hx | hx
            · obtain ⟨q, hq, h1, h2, e, t2, hb, h3⟩ := S1.sound x hx
              show wlt q0.w x.1 = true
              rw [← h1, h3]
              exact wlt_pre _ _ _
            · show wlt q0.w x.1 = true
              rw [hw0']
              exact low x hx []
          · obtain ⟨q, hq, h1, h2, e, t2, hb, h3⟩ := S1.sound x hx
            show wlt x.1 y.1 = true
            rw [← h1, h3, hw0', List.append_assoc]
            exact low y hy (e :: t2)
        · intro x hx
          rcases List.mem_cons.mp hx with rfl | hx
          · exact ⟨q0, hq0, rfl, hn0, _, [], ⟨rfl, Int.le_refl _⟩, hw0⟩
          · rcases List.mem_append.mp hx with hx | hx
            · obtain ⟨q, hq, h1, h2, e, t2, hb, h3⟩ := S1.sound x hx
              exact ⟨q, hq, h1, h2, (1, (i : Int)), e :: t2, ⟨rfl, Int.le_refl _⟩, by rw [h3, hw0]; show (r.w ++ [(1, (i : Int))]) ++ e :: t2 = _; simp⟩
            · obtain ⟨q, hq, h1, h2, e, t2, hb, h3⟩ := S2.sound x hx
              exact ⟨q, hq, h1, h2, e, t2, ⟨hb.1, by have := hb.2; omega⟩, h3⟩
        · intro q hq e t hb hw
          obtain ⟨q1, hq1, hw1⟩ := pre_row I t r.w e q hq hw
          obtain ⟨c, j, he, hj⟩ := step_row I hr hq1 hw1
          have hc : c = true := by
            cases c with
            | true => rfl
            | false => rw [he] at hb; exact absurd (show (0 : Int) = 1 from hb.1) (by decide)
          subst hc
          by_cases z : j = i
          · subst z
            have e1 : q1 = q0 := uw_mem I hq1 hq0 (by rw [hw1, hw0, he])
            rcases t with _ | ⟨f, t⟩
            · have : q = q0 := uw_mem I hq hq0 (by rw [hw, hw0, he])
              rw [this, hn0]
              exact .head _
            · refine .tail _ (List.mem_append_left _ (S1.whole q hq f t trivial ?_))
              rw [hw, hw0, he]
              simp
          · refine .tail _ (List.mem_append_right _ (S2.whole q hq e t ⟨hb.1, ?_⟩ hw))
            have := hb.2
            rw [he] at this ⊢
            have h7 : (i : Int) ≤ (j : Int) := this
            show ((i + 1 : Nat) : Int) ≤ (j : Int)
            omega
    obtain ⟨G, P2, R, T, S2⟩ := kids d.chI 0 rfl
    obtain ⟨P1, S1⟩ := atts_sub I hr ok d.atI 0 rfl
    refine ⟨d, G, P1 ++ P2, hd, R, T, ?_, ?_, ?_, ?_⟩
    · rw [List.map_append, S1.ids, S2.ids]
    · refine List.pairwise_append.mpr ⟨S1.up, S2.up, fun x hx y hy => ?_⟩
      obtain ⟨q, hq, h1, h2, e, t, hb, h3⟩ := S1.sound x hx
      obtain ⟨q', hq', h1', h2', e', t', hb', h3'⟩ := S2.sound y hy
      show wlt x.1 y.1 = true
      rw [← h1, ← h1', h3, h3']
      refine wlt_head r.w t t' ?_
      unfold plt
      rw [hb.1, hb'.1]
      rfl
    · intro x hx
      rcases List.mem_append.mp hx with hx | hx
      · obtain ⟨q, hq, h1, h2, e, t, hb, h3⟩ := S1.sound x hx
        exact ⟨q, hq, h1, h2, e, t, trivial, h3⟩
      · obtain ⟨q, hq, h1, h2, e, t, hb, h3⟩ := S2.sound x hx
        exact ⟨q, hq, h1, h2, e, t, trivial, h3⟩
    · intro q hq e t _ hw
      obtain ⟨q1, hq1, hw1⟩ := pre_row I t r.w e q hq hw
      obtain ⟨c, j, he, hj⟩ := step_row I hr hq1 hw1
      cases c with
      | false => exact List.mem_append_left _ (S1.whole q hq e t ⟨by rw [he]; rfl, by rw [he]; exact Int.natCast_nonneg _⟩ hw)
      | true => exact List.mem_append_right _ (S2.whole q hq e t ⟨by rw [he]; rfl, by rw [he]; exact Int.natCast_nonneg _⟩ hw)
theorem sorted_eq : ∀ {l l' : List (Way × Int)}, (l.Pairwise fun a b => wlt a.1 b.1 = true) → (l'.Pairwise fun a b => wlt a.1 b.1 = true) → (∀ x, x ∈ l ↔ x ∈ l') → l = l'
  | [], [], _, _, _ => rfl
  | [], y :: l', _, _, h => nomatch (h y).mpr (.head _)
  | x :: l, [], _, _, h => nomatch (h x).mp (.head _)
  | x :: l, y :: l', h1, h2, h => by
    have a1 := List.pairwise_cons.mp h1
    have a2 := List.pairwise_cons.mp h2
    have anti : ∀ {a b : Way}, wlt a b = true → wlt b a = true → False := fun {a b} p q => by
      have := wlt_tr p q
      rw [wlt_irr] at this; cases this
    have irr : ∀ {a : Way}, wlt a a = true → False := fun {a} p => by rw [wlt_irr] at p; cases p
    have hxy : x = y := by
      rcases List.mem_cons.mp ((h x).mp (.head _)) with e | hx
      · exact e
      · rcases List.mem_cons.mp ((h y).mpr (.head _)) with e | hy
        · exact e.symm
        · exact (anti (a1.1 y hy) (a2.1 x hx)).elim
    subst hxy
    congr 1
    refine sorted_eq a1.2 a2.2 fun z => ⟨fun hz => ?_, fun hz => ?_⟩
    · rcases List.mem_cons.mp ((h z).mp (.tail _ hz)) with rfl | hz'
      · exact (irr (a1.1 z hz)).elim
      · exact hz'
    · rcases List.mem_cons.mp ((h z).mpr (.tail _ hz)) with rfl | hz'
      · exact (irr (a2.1 z hz)).elim
      · exact hz'
noncomputable def hasHead (k : Int) (r : RW) : Bool := decide (r.w.head? = some (k, 0))
theorem Fo.size_all : ∀ f : Fo, f.size ≤ f.all.length
  | .nil => Nat.le_refl _
  | .cons i a k r => by
    show k.size + r.size + 1 ≤ ((i : Int) :: (a.map (fun (n : Nat) => (n : Int)) ++ (k.all ++ r.all))).length
    have h1 := Fo.size_all k
    have h2 := Fo.size_all r
    rw [List.length_cons, List.length_append, List.length_append]
    omega
/-- the law's end, for one root -/
theorem root_law {ns : List TN} {rows : List RW} (I : LInv ns rows) {k : Int} {r : RW} (hr : r ∈ rows) (hw : r.w = [(k, 0)]) (hz : rows.length < 900) {d : TN} (hd : ns[r.node.toNat]? = some d) (hk : d.kind ≠ Str.ofString "element")
    {l : List (Way × Int)} (hl : l.Perm ((rows.filter (hasHead k)).map fun q => (q.w, q.node))) (hs : l.Pairwise fun a b => wlt a.1 b.1 = true) :
    ∃ G, Rep ns G ∧ d.chI = G.tops ∧ G.size < 1000 ∧ G.all.length < 1000 ∧ l.map (·.2) = r.node :: G.all := by
  obtain ⟨d', G, P, hd', R, T, S⟩ := (sub_all I _ r hr (Nat.le_refl _)).ex
  rw [hd] at hd'
  cases hd'
  obtain ⟨h0, d', hd', ok⟩ := I.node r hr
  rw [hd] at hd'
  cases hd'
  have hat := ok.noAt hk
  have hids := S.ids
  rw [hat, List.nil_append] at hids
  have key : l = (r.w, r.node) :: P := by
    refine sorted_eq hs ?_ fun x => ⟨fun hx => ?_, fun hx => ?_⟩
    · refine List.Pairwise.cons (fun x hx => ?_) S.up
      obtain ⟨q, hq, h1, h2, e, t, _, h3⟩ := S.sound x hx
      show wlt r.w x.1 = true
      rw [← h1, h3]
      exact wlt_pre _ _ _
    · obtain ⟨q, hq, rfl⟩ := List.mem_map.mp (hl.mem_iff.mp hx)
      obtain ⟨hq1, hq2⟩ := List.mem_filter.mp hq
      have hh : q.w.head? = some (k, 0) := of_decide_eq_true hq2
      rcases e : q.w with _ | ⟨f, t⟩
      · exact absurd e (w_ne I hq1)
      · rw [e] at hh
        have hf : f = (k, 0) := Option.some.inj hh
        rcases t with _ | ⟨g, t⟩
        · have : q = r := uw_mem I hq1 hr (by rw [e, hw, hf])
          rw [← e, this]
          exact .head _
        · refine .tail _ ?_
          have := S.whole q hq1 g t trivial (by rw [e, hw, hf]; rfl)
          rw [e] at this
          exact this
    · have hin : ∀ q ∈ rows, (∃ t, q.w = (k, 0) :: t) → (q.w, q.node) ∈ l := fun q hq ⟨t, ht⟩ =>
        hl.mem_iff.mpr (List.mem_map.mpr ⟨q, List.mem_filter.mpr ⟨hq, by unfold hasHead; rw [ht]; simp⟩, rfl⟩)
      rcases List.mem_cons.mp hx with rfl | hx
      · exact hin r hr ⟨[], hw⟩
      · obtain ⟨q, hq, h1, h2, e, t, _, h3⟩ := S.sound x hx
        have := hin q hq ⟨e :: t, by rw [h3, hw]; rfl⟩
        rw [h1, h2] at this
        exact this
  have hn : l.map (·.2) = r.node :: G.all := by rw [key, List.map_cons, hids]
  have hlen : l.length ≤ rows.length := by
    rw [hl.length_eq, List.length_map]; exact List.length_filter_le _ _
  have h2 := congrArg List.length hn
  rw [List.length_map, List.length_cons] at h2
  have h3 := Fo.size_all G
  exact ⟨G, R, T.symm, by omega, by omega, hn⟩
/-! the set-up: two roots, an element and an attribute in each -/
theorem upd_setF {d : Addr} {o : Obj} : ∀ {l : Led}, ND l → (d, o) ∈ l → UpdF d o l (fun o' => setL d o' l)
  | [], _, h => nomatch h
  | p :: r, n, h => by
    unfold ND at n
    rw [List.map_cons, List.nodup_cons] at n
    rcases List.mem_cons.mp h with e | h
    · subst e
      have hr : ∀ q ∈ r, q.1 ≠ d := fun q hq e => n.1 (List.mem_map.mpr ⟨q, hq, e⟩)
      have e2 : (fun o' => setL d o' ((d, o) :: r)) = fun o' => (d, o') :: r := by
        funext o'
        show (if (d, o).1 = d then (d, o') else (d, o)) :: setL d o' r = _
        rw [setL_off hr, if_pos rfl]
      rw [e2]
      exact UpdF.head hr
    · have hp : p.1 ≠ d := fun e => n.1 (List.mem_map.mpr ⟨_, h, e.symm⟩)
      have e2 : (fun o' => setL d o' (p :: r)) = fun o' => p :: setL d o' r := by
        funext o'
        show (if p.1 = d then (d, o') else p) :: setL d o' r = _
        rw [if_neg hp]
      rw [e2]
      exact UpdF.tail hp (upd_setF n.2 h)
structure RowD (r : RW) (w : Way) (node na nc : Int) : Prop where
  w : r.w = w
  node : r.node = node
  na : r.na = na
  nc : r.nc = nc
structure NodeD (d : TN) (kind : Str) (ch at_ : List Int) : Prop where
  kind : d.kind = kind
  ch : d.chI = ch
  at_ : d.atI = at_
  ns : d.nsI = []
theorem inj_of_nodup {α β : Type} {f : α → β} {l : List α} (h : (l.map f).Nodup) {i j : Nat} {x y : α} (hi : l[i]? = some x) (hj : l[j]? = some y) (e : f x = f y) : i = j := by
  obtain ⟨h1, h2⟩ := List.getElem?_eq_some_iff.mp hi
  obtain ⟨h3, h4⟩ := List.getElem?_eq_some_iff.mp hj
  have hp := List.pairwise_iff_getElem.mp h
  rcases Nat.lt_trichotomy i j with z | z | z
  · exact absurd (show (l.map f)[i]'(by simpa using h1) = (l.map f)[j]'(by simpa using h3) from by rw [List.getElem_map, List.getElem_map, h2, h4, e]) (hp i j (by simpa using h1) (by simpa using h3) z)
  · exact z
  · exact absurd (show (l.map f)[j]'(by simpa using h3) = (l.map f)[i]'(by simpa using h1) from by rw [List.getElem_map, List.getElem_map, h2, h4, e]) (hp j i (by simpa using h3) (by simpa using h1) z)
theorem rowD_len {r : RW} {w : Way} {a b c : Int} (h : RowD r w a b c) : r.way.length = w.length := by
  have := congrArg List.length h.w
  unfold RW.w at this
  simpa using this
theorem nodeOk_of {ns : List TN} {rows : List RW} {r : RW} {d : TN} (at0 ch0 : List (Int × RW)) (h1 : d.atI = at0.map (·.1)) (h2 : d.chI = ch0.map (·.1)) (h3 : r.na = (at0.length : Int)) (h4 : r.nc = (ch0.length : Int))
    (k1 : ∀ (i : Nat) v q, at0[i]? = some (v, q) → r.node < v ∧ q ∈ rows ∧ q.w = r.w ++ [(0, (i : Int))] ∧ q.node = v)
    (k2 : ∀ (i : Nat) v q, ch0[i]? = some (v, q) → r.node < v ∧ q ∈ rows ∧ q.w = r.w ++ [(1, (i : Int))] ∧ q.node = v)
    (n1 : d.kind ≠ Str.ofString "element" → at0 = []) (n2 : d.kind = Str.ofString "attribute" → ch0 = []) : NodeOk ns rows r d := by
  refine ⟨fun c => ?_, fun c i v h => ?_, fun h => by rw [h1, n1 h]; rfl, fun h => by rw [h2, n2 h]; rfl⟩
  · cases c with
    | false => show ((d.atI).length : Int) = r.na; rw [h1, h3, List.length_map]
    | true => show ((d.chI).length : Int) = r.nc; rw [h2, h4, List.length_map]
  · cases c with
    | false =>
      have h' : d.atI[i]? = some v := h
      rw [h1, List.getElem?_map] at h'
      obtain ⟨⟨v', q⟩, e1, e2⟩ := Option.map_eq_some_iff.mp h'
      cases e2
      obtain ⟨a, b, c, d⟩ := k1 i _ _ e1
      exact ⟨a, q, b, c, d⟩
    | true =>
      have h' : d.chI[i]? = some v := h
      rw [h2, List.getElem?_map] at h'
      obtain ⟨⟨v', q⟩, e1, e2⟩ := Option.map_eq_some_iff.mp h'
      cases e2
      obtain ⟨a, b, c, d⟩ := k2 i _ _ e1
      exact ⟨a, q, b, c, d⟩
theorem one_get {α : Type} {x y : α} {i : Nat} (h : [x][i]? = some y) : i = 0 ∧ y = x := by
  match i, h with
  | 0, h => exact ⟨rfl, (Option.some.inj h).symm⟩
theorem nil_get {α β : Type} {P : β → Prop} {y : α} {i : Nat} (h : ([] : List α)[i]? = some y) {b : β} : P b := by simp at h
theorem mem2 {α : Type} {x a b : α} (h : x ∈ [a, b]) : x = a ∨ x = b := by simpa using h
theorem mem6 {α : Type} {x a b c d e f : α} (h : x ∈ [a, b, c, d, e, f]) : x = a ∨ x = b ∨ x = c ∨ x = d ∨ x = e ∨ x = f := by simpa using h
theorem setup_inv {a b e k e' k' : TN} {r1 r2 r3 r4 r5 r6 : RW} (ha : NodeD a (Str.ofString "root") [2] []) (hb : NodeD b (Str.ofString "root") [4] []) (he : NodeD e (Str.ofString "element") [] [3]) (hk : NodeD k (Str.ofString "attribute") [] [])
    (he' : NodeD e' (Str.ofString "element") [] [5]) (hk' : NodeD k' (Str.ofString "attribute") [] []) (lk : k.loc = Str.ofString "k") (lk' : k'.loc = Str.ofString "k")
    (h1 : RowD r1 [(0, 0)] 0 0 1) (h2 : RowD r2 [(0, 0), (1, 0)] 2 1 0) (h3 : RowD r3 [(0, 0), (1, 0), (0, 0)] 3 0 0) (h4 : RowD r4 [(1, 0)] 1 0 1) (h5 : RowD r5 [(1, 0), (1, 0)] 4 1 0) (h6 : RowD r6 [(1, 0), (1, 0), (0, 0)] 5 0 0) :
    LInv [a, b, e, k, e', k'] [r1, r2, r3, r4, r5, r6] := by
  have m1 : r1 ∈ [r1, r2, r3, r4, r5, r6] := by simp
  have m2 : r2 ∈ [r1, r2, r3, r4, r5, r6] := by simp
  have m3 : r3 ∈ [r1, r2, r3, r4, r5, r6] := by simp
  have m4 : r4 ∈ [r1, r2, r3, r4, r5, r6] := by simp
  have m5 : r5 ∈ [r1, r2, r3, r4, r5, r6] := by simp
  have m6 : r6 ∈ [r1, r2, r3, r4, r5, r6] := by simp
  have tr : Str.ofString "root" ≠ Str.ofString "element" := by decide
  have ta : Str.ofString "attribute" ≠ Str.ofString "element" := by decide
  have tra : Str.ofString "root" ≠ Str.ofString "attribute" := by decide
  refine ⟨fun r hr => ?_, fun r hr => ?_, fun r hr p hp i h d hd => ?_, fun i j r r' hi hj h => ?_, fun i j r r' hi hj h => ?_, fun d hd j hj => ?_, fun d hd j hj => ?_, fun r hr => ?_⟩
  · rcases mem6 hr with rfl | rfl | rfl | rfl | rfl | rfl
    · rw [h1.node]
      refine ⟨by decide, a, rfl, nodeOk_of [] [(2, r2)] ha.at_ ha.ch h1.na h1.nc (fun i v q h => by simp at h) (fun i v q h => ?_) (fun _ => rfl) fun h => absurd (ha.kind.symm.trans h) tra⟩
      obtain ⟨rfl, h⟩ := one_get h
      cases h
      exact ⟨by rw [h1.node]; decide, m2, by rw [h1.w, h2.w]; rfl, h2.node⟩
    · rw [h2.node]
      refine ⟨by decide, e, rfl, nodeOk_of [(3, r3)] [] he.at_ he.ch h2.na h2.nc (fun i v q h => ?_) (fun i v q h => by simp at h) (fun h => absurd he.kind h) fun h => absurd (h.symm.trans he.kind) ta⟩
      obtain ⟨rfl, h⟩ := one_get h
      cases h
      exact ⟨by rw [h2.node]; decide, m3, by rw [h2.w, h3.w]; rfl, h3.node⟩
    · rw [h3.node]
      exact ⟨by decide, k, rfl, nodeOk_of [] [] hk.at_ hk.ch h3.na h3.nc (fun i v q h => by simp at h) (fun i v q h => by simp at h) (fun _ => rfl) fun _ => rfl⟩
    · rw [h4.node]
      refine ⟨by decide, b, rfl, nodeOk_of [] [(4, r5)] hb.at_ hb.ch h4.na h4.nc (fun i v q h => by simp at h) (fun i v q h => ?_) (fun _ => rfl) fun h => absurd (hb.kind.symm.trans h) tra⟩
      obtain ⟨rfl, h⟩ := one_get h
      cases h
      exact ⟨by rw [h4.node]; decide, m5, by rw [h4.w, h5.w]; rfl, h5.node⟩
    · rw [h5.node]
      refine ⟨by decide, e', rfl, nodeOk_of [(5, r6)] [] he'.at_ he'.ch h5.na h5.nc (fun i v q h => ?_) (fun i v q h => by simp at h) (fun h => absurd he'.kind h) fun h => absurd (h.symm.trans he'.kind) ta⟩
      obtain ⟨rfl, h⟩ := one_get h
      cases h
      exact ⟨by rw [h5.node]; decide, m6, by rw [h5.w, h6.w]; rfl, h6.node⟩
    · rw [h6.node]
      exact ⟨by decide, k', rfl, nodeOk_of [] [] hk'.at_ hk'.ch h6.na h6.nc (fun i v q h => by simp at h) (fun i v q h => by simp at h) (fun _ => rfl) fun _ => rfl⟩
  · rcases mem6 hr with rfl | rfl | rfl | rfl | rfl | rfl
    · exact .inl ⟨0, h1.w, .inl rfl⟩
    · exact .inr ⟨r1, m1, true, 0, by rw [h1.w, h2.w]; rfl, by decide, by show 0 < r1.nc; rw [h1.nc]; decide⟩
    · exact .inr ⟨r2, m2, false, 0, by rw [h2.w, h3.w]; rfl, by decide, by show 0 < r2.na; rw [h2.na]; decide⟩
    · exact .inl ⟨1, h4.w, .inr rfl⟩
    · exact .inr ⟨r4, m4, true, 0, by rw [h4.w, h5.w]; rfl, by decide, by show 0 < r4.nc; rw [h4.nc]; decide⟩
    · exact .inr ⟨r5, m5, false, 0, by rw [h5.w, h6.w]; rfl, by decide, by show 0 < r5.na; rw [h5.na]; decide⟩
  · rcases mem6 hr with rfl | rfl | rfl | rfl | rfl | rfl
    · exfalso; rw [h1.w] at h
      rcases mem6 hp with rfl | rfl | rfl | rfl | rfl | rfl <;> first | (rw [h1.w] at h; simp at h; done) | (rw [h2.w] at h; simp at h; done) | (rw [h3.w] at h; simp at h; done) | (rw [h4.w] at h; simp at h; done) | (rw [h5.w] at h; simp at h; done) | (rw [h6.w] at h; simp at h; done)
    · exfalso; rw [h2.w] at h
      rcases mem6 hp with rfl | rfl | rfl | rfl | rfl | rfl <;> first | (rw [h1.w] at h; simp at h; done) | (rw [h2.w] at h; simp at h; done) | (rw [h3.w] at h; simp at h; done) | (rw [h4.w] at h; simp at h; done) | (rw [h5.w] at h; simp at h; done) | (rw [h6.w] at h; simp at h; done)
    · rw [h3.node] at hd
      rw [← Option.some.inj hd]; exact hk.kind
    · exfalso; rw [h4.w] at h
      rcases mem6 hp with rfl | rfl | rfl | rfl | rfl | rfl <;> first | (rw [h1.w] at h; simp at h; done) | (rw [h2.w] at h; simp at h; done) | (rw [h3.w] at h; simp at h; done) | (rw [h4.w] at h; simp at h; done) | (rw [h5.w] at h; simp at h; done) | (rw [h6.w] at h; simp at h; done)
    · exfalso; rw [h5.w] at h
      rcases mem6 hp with rfl | rfl | rfl | rfl | rfl | rfl <;> first | (rw [h1.w] at h; simp at h; done) | (rw [h2.w] at h; simp at h; done) | (rw [h3.w] at h; simp at h; done) | (rw [h4.w] at h; simp at h; done) | (rw [h5.w] at h; simp at h; done) | (rw [h6.w] at h; simp at h; done)
    · rw [h6.node] at hd
      rw [← Option.some.inj hd]; exact hk'.kind
  · refine inj_of_nodup (f := RW.w) ?_ hi hj h
    show [r1.w, r2.w, r3.w, r4.w, r5.w, r6.w].Nodup
    rw [h1.w, h2.w, h3.w, h4.w, h5.w, h6.w]
    decide
  · refine inj_of_nodup (f := RW.node) ?_ hi hj h
    show [r1.node, r2.node, r3.node, r4.node, r5.node, r6.node].Nodup
    rw [h1.node, h2.node, h3.node, h4.node, h5.node, h6.node]
    decide
  · rcases mem6 hd with rfl | rfl | rfl | rfl | rfl | rfl
    · rw [ha.at_] at hj; cases hj
    · rw [hb.at_] at hj; cases hj
    · rw [he.at_] at hj; rw [List.mem_singleton.mp hj]; exact ⟨by decide, k, rfl, .inl lk⟩
    · rw [hk.at_] at hj; cases hj
    · rw [he'.at_] at hj; rw [List.mem_singleton.mp hj]; exact ⟨by decide, k', rfl, .inl lk'⟩
    · rw [hk'.at_] at hj; cases hj
  · rcases mem6 hd with rfl | rfl | rfl | rfl | rfl | rfl
    · rw [ha.ns] at hj; cases hj
    · rw [hb.ns] at hj; cases hj
    · rw [he.ns] at hj; cases hj
    · rw [hk.ns] at hj; cases hj
    · rw [he'.ns] at hj; cases hj
    · rw [hk'.ns] at hj; cases hj
  · rcases mem6 hr with rfl | rfl | rfl | rfl | rfl | rfl
    · rw [rowD_len h1]; simp
    · rw [rowD_len h2]; simp
    · rw [rowD_len h3]; simp
    · rw [rowD_len h4]; simp
    · rw [rowD_len h5]; simp
    · rw [rowD_len h6]; simp
noncomputable def SetUp (i : Nat) (ns : List TN) (rows : List RW) : Prop := match i with
  | 0 => ∃ a b, ns = [a, b] ∧ rows = [] ∧ NodeD a (Str.ofString "root") [] [] ∧ NodeD b (Str.ofString "root") [] []
  | 1 => ∃ a b e k r1 r2 r3, ns = [a, b, e, k] ∧ rows = [r1, r2, r3] ∧ NodeD a (Str.ofString "root") [2] [] ∧ NodeD b (Str.ofString "root") [] [] ∧ NodeD e (Str.ofString "element") [] [3] ∧ NodeD k (Str.ofString "attribute") [] [] ∧ k.loc = Str.ofString "k" ∧
      RowD r1 [(0, 0)] 0 0 1 ∧ RowD r2 [(0, 0), (1, 0)] 2 1 0 ∧ RowD r3 [(0, 0), (1, 0), (0, 0)] 3 0 0
  | _ => ∃ a b e k e' k' r1 r2 r3 r4 r5 r6, ns = [a, b, e, k, e', k'] ∧ rows = [r1, r2, r3, r4, r5, r6] ∧ NodeD a (Str.ofString "root") [2] [] ∧ NodeD b (Str.ofString "root") [4] [] ∧ NodeD e (Str.ofString "element") [] [3] ∧ NodeD k (Str.ofString "attribute") [] [] ∧ k.loc = Str.ofString "k" ∧
      NodeD e' (Str.ofString "element") [] [5] ∧ NodeD k' (Str.ofString "attribute") [] [] ∧ k'.loc = Str.ofString "k" ∧
      RowD r1 [(0, 0)] 0 0 1 ∧ RowD r2 [(0, 0), (1, 0)] 2 1 0 ∧ RowD r3 [(0, 0), (1, 0), (0, 0)] 3 0 0 ∧ RowD r4 [(1, 0)] 1 0 1 ∧ RowD r5 [(1, 0), (1, 0)] 4 1 0 ∧ RowD r6 [(1, 0), (1, 0), (0, 0)] 5 0 0
/-- what a turn of the set-up finds -/
theorem SetUp.find {i : Nat} {ns : List TN} {rows : List RW} (h : SetUp i ns rows) (hi : i < 2) : ∃ p, ns[i]? = some p ∧ p.kind = Str.ofString "root" ∧ p.chI = [] ∧ ns.length = 2 + 2 * i ∧ rows.length = 3 * i := by
  rcases i with _ | _ | i
  · obtain ⟨a, b, rfl, rfl, ha, hb⟩ := h
    exact ⟨a, rfl, ha.kind, ha.ch, rfl, rfl⟩
  · obtain ⟨a, b, e, k, r1, r2, r3, rfl, rfl, ha, hb, _⟩ := h
    exact ⟨b, rfl, hb.kind, hb.ch, rfl, rfl⟩
  · omega
/-- what it leaves -/
theorem SetUp.turn {i : Nat} {ns ns1 ns2 : List TN} {rows : List RW} {p p' e e2 k : TN} {r1 r2 r3 : RW} (h : SetUp i ns rows) (hi : i < 2) (hp : ns[i]? = some p)
    (h1 : ns1 = (ns ++ [e]).set i p') (pk : p'.kind = p.kind) (pc : p'.chI = p.chI ++ [(ns.length : Int)]) (pa : p'.atI = p.atI) (pn : p'.nsI = p.nsI)
    (ek : e.kind = Str.ofString "element") (e0 : e.chI = [] ∧ e.atI = [] ∧ e.nsI = [])
    (h2 : ns2 = (ns1 ++ [k]).set (2 + 2 * i) e2) (k1 : e2.kind = e.kind) (k2 : e2.chI = e.chI) (k3 : e2.atI = e.atI ++ [(ns1.length : Int)]) (k4 : e2.nsI = e.nsI)
    (kk : k.kind = Str.ofString "attribute") (kl : k.loc = Str.ofString "k") (k0 : k.chI = [] ∧ k.atI = [] ∧ k.nsI = [])
    (d1 : RowD r1 [((i : Int), 0)] (i : Int) 0 1) (d2 : RowD r2 [((i : Int), 0), (1, 0)] (2 + 2 * (i : Int)) 1 0) (d3 : RowD r3 [((i : Int), 0), (1, 0), (0, 0)] (3 + 2 * (i : Int)) 0 0) :
    SetUp (i + 1) ns2 (((rows ++ [r1]) ++ [r2]) ++ [r3]) := by
  rcases i with _ | _ | i
  · obtain ⟨a, b, rfl, rfl, ha, hb⟩ := h
    obtain rfl : p = a := (Option.some.inj hp).symm
    refine ⟨p', b, e2, k, r1, r2, r3, ?_, rfl, ⟨pk.trans ha.kind, by rw [pc, ha.ch]; rfl, pa.trans ha.at_, pn.trans ha.ns⟩, hb, ⟨k1.trans ek, k2.trans e0.1, by rw [k3, e0.2.1, h1]; rfl, k4.trans e0.2.2⟩, ⟨kk, k0.1, k0.2.1, k0.2.2⟩, kl, d1, d2, d3⟩
    rw [h2, h1]; rfl
  · obtain ⟨a, b, e', k', q1, q2, q3, rfl, rfl, ha, hb, he, hk, lk, c1, c2, c3⟩ := h
    obtain rfl : p = b := (Option.some.inj hp).symm
    refine ⟨a, p', e', k', e2, k, q1, q2, q3, r1, r2, r3, ?_, rfl, ha, ⟨pk.trans hb.kind, by rw [pc, hb.ch]; rfl, pa.trans hb.at_, pn.trans hb.ns⟩, he, hk, lk, ⟨k1.trans ek, k2.trans e0.1, by rw [k3, e0.2.1, h1]; rfl, k4.trans e0.2.2⟩, ⟨kk, k0.1, k0.2.1, k0.2.2⟩, kl, c1, c2, c3, d1, d2, d3⟩
    rw [h2, h1]; rfl
  · omega
/-- what the deeds and the end need of it -/
structure Good (ns : List TN) (rows : List RW) : Prop where
  inv : LInv ns rows
  root : ∀ k : Int, k = 0 ∨ k = 1 → (∃ r ∈ rows, r.w = [(k, 0)] ∧ r.node = k ∧ isEl ns r = false) ∧ ∃ r ∈ rows, r.w = [(k, 0), (1, 0)] ∧ isEl ns r = true
theorem SetUp.good {ns : List TN} {rows : List RW} (h : SetUp 2 ns rows) : Good ns rows ∧ rows.length = 6 := by
  obtain ⟨a, b, e, k, e', k', r1, r2, r3, r4, r5, r6, rfl, rfl, ha, hb, he, hk, lk, he', hk', lk', h1, h2, h3, h4, h5, h6⟩ := h
  refine ⟨⟨setup_inv ha hb he hk he' hk' lk lk' h1 h2 h3 h4 h5 h6, fun z hz => ?_⟩, rfl⟩
  rcases hz with rfl | rfl
  · refine ⟨⟨r1, by simp, h1.w, h1.node, ?_⟩, r2, by simp, h2.w, ?_⟩
    · rw [isEl_of (d := a) (by rw [h1.node]; rfl), ha.kind]; decide
    · rw [isEl_of (d := e) (by rw [h2.node]; rfl), he.kind]; decide
  · refine ⟨⟨r4, by simp, h4.w, h4.node, ?_⟩, r5, by simp, h5.w, ?_⟩
    · rw [isEl_of (d := b) (by rw [h4.node]; rfl), hb.kind]; decide
    · rw [isEl_of (d := e') (by rw [h5.node]; rfl), he'.kind]; decide
theorem Good.keep {ns ns' : List TN} {rows rows' : List RW} (h : Good ns rows) (I : LInv ns' rows') (k : RKeep ns rows ns' rows') : Good ns' rows' :=
  ⟨I, fun z hz => by
    obtain ⟨⟨r, h1, h2, h3, h4⟩, q, g1, g2, g3⟩ := h.root z hz
    obtain ⟨r', a1, a2, a3, a4⟩ := k r h1
    obtain ⟨q', b1, b2, b3, b4⟩ := k q g1
    exact ⟨⟨r', a1, a2.trans h2, a3.trans h3, a4.trans h4⟩, q', b1, b2.trans g2, b4.trans g3⟩⟩
section
variable {prog : Program} {w : World} {mean : ExcName → Option Value} {mg mb : Str → Option Value} {dp un : Nat} {gd : Option (List Code)} {cn : Str} {cs : Scope} {a : Addr} {ccd : Value} {cl : List (Str × Addr)} {outer : List Env} {A₀ : Around} {base h₀ : Heap} {L : Addr} {m : Str → Option Value} {news : Led} {s : Shared}
    {Q E : Value → Shared → Prop} {σ : SS} {lab : Addr → Lab} {b : Nat} {name uri loc val : Str} {k1 k2 k3 k4 : Tok} {p : TN} {i n : Int} {tk : Tok}
/-- what stays of a state while the tree grows -/
structure Same (σ σ' : SS) : Prop where
  src : σ'.src = σ.src
  t : σ'.T.t = σ.T.t
  rl : σ'.rl = σ.rl
  rows : σ'.rows = σ.rows
theorem W_appendH {D : Addr} {vs : List Value} {c : Nat} {news' : Led} {A : Around} {x : Value} {Q : Value → Shared → Prop} (F : Fr h₀ L s.heap m) (N : News h₀ L s.heap news) (U : Upd D (listOf vs.toArray c) (listOf (vs ++ [x]).toArray (c + 1)) news news') (hz : vs.length < 100000)
    (h : ∀ h', Fr h₀ L h' m → News h₀ L h' news' → Q .none { s with heap := h' }) : wpAny (model prog w) A (call (.builtin "list.append") [.ref D, x]) Q E s := W_append F N U hz h
end
theorem StL.tup1 {news : Led} {lab : Addr → Lab} {σ : SS} {y : Addr} (H : StL news lab σ) (hy : lab y = .no) (hm : ∃ o, (y, o) ∈ news) : StL news (fun a => if a = y then .tup else lab a) σ := by
  refine ⟨fun ℓ a o e => ?_, fun a ha => ?_⟩
  · obtain ⟨m, l⟩ := H.ent ℓ a o e
    refine ⟨m, ?_⟩
    show (if a = y then Lab.tup else lab a) = ℓ
    rw [if_neg]
    · exact l
    · rintro rfl
      rw [hy] at l
      subst l
      cases e
  · by_cases z : a = y
    · rw [z]; exact hm
    · exact H.sup a (by have : (if a = y then Lab.tup else lab a) ≠ .no := ha; rw [if_neg z] at this; exact this)
theorem Step.tup1 {lab0 lab : Addr → Lab} {n0 news : Led} {y : Addr} (St : Step lab0 lab n0 news) (h : ∀ p ∈ n0, p.1 ≠ y) : Step lab0 (fun a => if a = y then .tup else lab a) n0 news :=
  ⟨fun e he => by show (if e.1 = y then Lab.tup else lab e.1) = lab0 e.1; rw [if_neg (h e he)]; exact St.lb e he, St.keep, St.key⟩
/-- a row put at the end -/
theorem row_put {n0 n5 : Led} {lab0 lab5 : Addr → Lab} {σ : SS} {r : RW} {x : WI} {old : List WI} {rA wA : Addr} {v : List Value} (H : StL n5 lab5 σ) (St : Step lab0 lab5 n0 n5) (nd : ND n5)
    (hr : r.addr = rA ∧ r.wayA = wA ∧ r.items = v ∧ r.n = 0 ∧ r.way = old ++ [x]) (lr : ∀ p ∈ n5, p.1 < rA)
    (hx : (x.ta, x.obj) ∈ n5) (lx : lab5 x.ta = .no) (fx : ∀ p ∈ n0, p.1 < x.ta) (hxw : x.ta < wA)
    (hw : (wA, listOf (r.way.map fun (x : WI) => Value.ref x.ta).toArray r.wayN) ∈ n5) (lw : lab5 wA = .no) (fw : ∀ p ∈ n0, p.1 < wA) (ho : ∀ y ∈ old, (y.ta, y.obj) ∈ n5 ∧ lab5 y.ta = .tup) :
    ∃ σ' lab', StL (setL σ.rl (listOf ((σ.rows.map fun (r : RW) => Value.ref r.addr) ++ [Value.ref rA]).toArray (σ.nL + 1)) ((rA, listOf v.toArray 0) :: n5)) lab' σ' ∧
      Step lab0 lab' n0 (setL σ.rl (listOf ((σ.rows.map fun (r : RW) => Value.ref r.addr) ++ [Value.ref rA]).toArray (σ.nL + 1)) ((rA, listOf v.toArray 0) :: n5)) ∧
      ND (setL σ.rl (listOf ((σ.rows.map fun (r : RW) => Value.ref r.addr) ++ [Value.ref rA]).toArray (σ.nL + 1)) ((rA, listOf v.toArray 0) :: n5)) ∧
      σ'.T = σ.T ∧ σ'.rows = σ.rows ++ [r] ∧ σ'.src = σ.src ∧ σ'.rl = σ.rl ∧ σ'.nL = σ.nL + 1 := by
  obtain ⟨rfl, rfl, rfl, hn, hway⟩ := hr
  have ne : ∀ {a b : Addr}, a < b → a ≠ b := fun h e => absurd h (by rw [e]; exact Nat.lt_irrefl _)
  have H2 : StL ((r.addr, listOf r.items.toArray 0) :: n5) lab5 σ := H.mono (sub_cons fun _ h => h)
  have St2 : Step lab0 lab5 n0 ((r.addr, listOf r.items.toArray 0) :: n5) := St.trans (Step.of_sub (sub_cons fun _ h => h))
  have A := H2.addRow (r := r) (x := x.ta) (by rw [hn]; exact .head _) (H.fresh lr) (.tail _ hw) lw (ne (lr _ hw)) lx (ne (lr _ hx)) (ne hxw) ⟨_, .tail _ hx⟩ (fun y hy => by
    rw [hway] at hy
    rcases List.mem_append.mp hy with hy | hy
    · exact ⟨.tail _ (ho y hy).1, .inl (ho y hy).2⟩
    · rw [List.mem_singleton.mp hy]; exact ⟨.tail _ hx, .inr rfl⟩)
  exact ⟨_, _, A, St2.addRow H2 (fun p hp => ne (fresh_step St lr p hp)) (fun p hp => ne (fw p hp)) (fun p hp => ne (fx p hp)), (nd.cons lr).set, rfl, rfl, rfl, rfl, rfl⟩
noncomputable def new_root_x_S (K : Params → Frag) (V : PySem.Program) : Prop := ∀ {prog : Program} {w : World} {mean : ExcName → Option Value} {mg mb : Str → Option Value} {dp un : Nat} {gd : Option (List Code)} {cn : Str} {cs : Scope} {a : Addr} {ccd : Value} {cl : List (Str × Addr)} {outer : List Env} {A₀ : Around} {base h₀ : Heap} {L : Addr} {m : Str → Option Value} {news : Led} {s : Shared} {Q E : Value → Shared → Prop} {σ : SS} {lab : Addr → Lab} {b : Nat} {n : Int} (B : Below A₀ base outer h₀) (F : Fr h₀ L s.heap m) (X : (K w.params).In h₀) (N : News h₀ L s.heap news) (Tp : Top V (looseW V []) mean mg mb h₀) (hk : cs.kind = .function) (hdp : dp + 12 < recursionLimit) (hu : un + 120 < cLine) {t : Addr} (e : σ.T.t = t) (nd : ND news) (H : StL news lab σ) (P : PureT b σ.T) (hb : b < 400) (hn : (σ.T.ns.length : Int) = n) (hret : ∀ (σ' : SS) (d : TN) (tk : Tok) lab' news' h' tk', Fr h₀ L h' m → News h₀ L h' news' → ND news' → StL news' lab' σ' → Step lab lab' news news' → PureT (b + 1) σ'.T → Same σ σ' → σ'.T.t = t → σ'.T.ns = σ.T.ns ++ [d] → TreeL news' σ'.T → (t, instObj 274 σ'.T.dt) ∈ news' → NodeD d (Str.ofString "root") [] [] →
      Q (.int n tk) { s with heap := h', toks := tk' }),
    wpAny (model prog w) (ktrTop dp un gd cn cs L a ccd cl outer) (call (.ref 124) [.ref t]) Q E s
theorem new_root_x_use {K : Params → Frag} {V : PySem.Program} (Z : new_root_x_S K V) : ∀ {prog : Program} {w : World} {mean : ExcName → Option Value} {mg mb : Str → Option Value} {dp un : Nat} {gd : Option (List Code)} {cn : Str} {cs : Scope} {a : Addr} {ccd : Value} {cl : List (Str × Addr)} {outer : List Env} {A₀ : Around} {base h₀ : Heap} {L : Addr} {m : Str → Option Value} {news : Led} {s : Shared} {Q E : Value → Shared → Prop} {σ : SS} {lab : Addr → Lab} {b : Nat} {n : Int} (B : Below A₀ base outer h₀) (F : Fr h₀ L s.heap m) (X : (K w.params).In h₀) (N : News h₀ L s.heap news) (Tp : Top V (looseW V []) mean mg mb h₀) (hk : cs.kind = .function) (hdp : dp + 12 < recursionLimit) (hu : un + 120 < cLine) {t : Addr} (e : σ.T.t = t) (nd : ND news) (H : StL news lab σ) (P : PureT b σ.T) (hb : b < 400) (hn : (σ.T.ns.length : Int) = n) (hret : ∀ (σ' : SS) (d : TN) (tk : Tok) lab' news' h' tk', Fr h₀ L h' m → News h₀ L h' news' → ND news' → StL news' lab' σ' → Step lab lab' news news' → PureT (b + 1) σ'.T → Same σ σ' → σ'.T.t = t → σ'.T.ns = σ.T.ns ++ [d] → TreeL news' σ'.T → (t, instObj 274 σ'.T.dt) ∈ news' → NodeD d (Str.ofString "root") [] [] →
      Q (.int n tk) { s with heap := h', toks := tk' }),
    wpAny (model prog w) (ktrTop dp un gd cn cs L a ccd cl outer) (call (.ref 124) [.ref t]) Q E s := Z
noncomputable def add_element_x_S (K : Params → Frag) (V : PySem.Program) : Prop := ∀ {prog : Program} {w : World} {mean : ExcName → Option Value} {mg mb : Str → Option Value} {dp un : Nat} {gd : Option (List Code)} {cn : Str} {cs : Scope} {a : Addr} {ccd : Value} {cl : List (Str × Addr)} {outer : List Env} {A₀ : Around} {base h₀ : Heap} {L : Addr} {m : Str → Option Value} {news : Led} {s : Shared} {Q E : Value → Shared → Prop} {σ : SS} {lab : Addr → Lab} {b : Nat} {name uri loc : Str} {k1 k2 k3 : Tok} {p : TN} {i n : Int} {tk : Tok} (B : Below A₀ base outer h₀) (F : Fr h₀ L s.heap m) (X : (K w.params).In h₀) (N : News h₀ L s.heap news) (Tp : Top V (looseW V []) mean mg mb h₀) (hk : cs.kind = .function) (hdp : dp + 16 < recursionLimit) (hu : un + 160 < cLine) {t : Addr} (e : σ.T.t = t) (nd : ND news) (H : StL news lab σ) (P : PureT b σ.T) (hb : b < 400) (h0 : 0 ≤ i) (hi : σ.T.ns[i.toNat]? = some p) (hp : p.kind = Str.ofString "root" ∨ p.kind = Str.ofString "element") (hn : (σ.T.ns.length : Int) = n) (hret : ∀ (σ' : SS) (d p' : TN) (tk : Tok) lab' news' h' tk', Fr h₀ L h' m → News h₀ L h' news' → ND news' → StL news' lab' σ' → Step lab lab' news news' →
      PureT (b + 2) σ'.T → Same σ σ' → σ'.T.t = t → σ'.T.ns = (σ.T.ns ++ [d]).set i.toNat p' → TreeL news' σ'.T → (t, instObj 274 σ'.T.dt) ∈ news' → (p'.kind = p.kind ∧ p'.chI = p.chI ++ [n] ∧ p'.atI = p.atI ∧ p'.nsI = p.nsI) → NodeD d (Str.ofString "element") [] [] →
      Q (.int n tk) { s with heap := h', toks := tk' }),
    wpAny (model prog w) (ktrTop dp un gd cn cs L a ccd cl outer) (call (.ref 138) [.ref t, .int i tk, .str name k1, .str uri k2, .str loc k3]) Q E s
theorem add_element_x_use {K : Params → Frag} {V : PySem.Program} (Z : add_element_x_S K V) : ∀ {prog : Program} {w : World} {mean : ExcName → Option Value} {mg mb : Str → Option Value} {dp un : Nat} {gd : Option (List Code)} {cn : Str} {cs : Scope} {a : Addr} {ccd : Value} {cl : List (Str × Addr)} {outer : List Env} {A₀ : Around} {base h₀ : Heap} {L : Addr} {m : Str → Option Value} {news : Led} {s : Shared} {Q E : Value → Shared → Prop} {σ : SS} {lab : Addr → Lab} {b : Nat} {name uri loc : Str} {k1 k2 k3 : Tok} {p : TN} {i n : Int} {tk : Tok} (B : Below A₀ base outer h₀) (F : Fr h₀ L s.heap m) (X : (K w.params).In h₀) (N : News h₀ L s.heap news) (Tp : Top V (looseW V []) mean mg mb h₀) (hk : cs.kind = .function) (hdp : dp + 16 < recursionLimit) (hu : un + 160 < cLine) {t : Addr} (e : σ.T.t = t) (nd : ND news) (H : StL news lab σ) (P : PureT b σ.T) (hb : b < 400) (h0 : 0 ≤ i) (hi : σ.T.ns[i.toNat]? = some p) (hp : p.kind = Str.ofString "root" ∨ p.kind = Str.ofString "element") (hn : (σ.T.ns.length : Int) = n) (hret : ∀ (σ' : SS) (d p' : TN) (tk : Tok) lab' news' h' tk', Fr h₀ L h' m → News h₀ L h' news' → ND news' → StL news' lab' σ' → Step lab lab' news news' →
      PureT (b + 2) σ'.T → Same σ σ' → σ'.T.t = t → σ'.T.ns = (σ.T.ns ++ [d]).set i.toNat p' → TreeL news' σ'.T → (t, instObj 274 σ'.T.dt) ∈ news' → (p'.kind = p.kind ∧ p'.chI = p.chI ++ [n] ∧ p'.atI = p.atI ∧ p'.nsI = p.nsI) → NodeD d (Str.ofString "element") [] [] →
      Q (.int n tk) { s with heap := h', toks := tk' }),
    wpAny (model prog w) (ktrTop dp un gd cn cs L a ccd cl outer) (call (.ref 138) [.ref t, .int i tk, .str name k1, .str uri k2, .str loc k3]) Q E s := Z
noncomputable def set_attribute_x_S (K : Params → Frag) (V : PySem.Program) : Prop := ∀ {prog : Program} {w : World} {mean : ExcName → Option Value} {mg mb : Str → Option Value} {dp un : Nat} {gd : Option (List Code)} {cn : Str} {cs : Scope} {a : Addr} {ccd : Value} {cl : List (Str × Addr)} {outer : List Env} {A₀ : Around} {base h₀ : Heap} {L : Addr} {m : Str → Option Value} {news : Led} {s : Shared} {Q E : Value → Shared → Prop} {σ : SS} {lab : Addr → Lab} {b : Nat} {name uri loc val : Str} {k1 k2 k3 k4 : Tok} {p : TN} {i n : Int} {tk : Tok} (B : Below A₀ base outer h₀) (F : Fr h₀ L s.heap m) (X : (K w.params).In h₀) (N : News h₀ L s.heap news) (Tp : Top V (looseW V []) mean mg mb h₀) (hk : cs.kind = .function) (hdp : dp + 12 < recursionLimit) (hu : un + 160 < cLine) {t : Addr} (e : σ.T.t = t) (nd : ND news) (H : StL news lab σ) (P : PureT b σ.T) (hb : b < 400) (h0 : 0 ≤ i) (hi : σ.T.ns[i.toNat]? = some p) (hp : p.kind = Str.ofString "element") (hat : p.atI = []) (hn : (σ.T.ns.length : Int) = n) (hret : ∀ (σ' : SS) (d p' : TN) (tk : Tok) lab' news' h' tk', Fr h₀ L h' m → News h₀ L h' news' → ND news' → StL news' lab' σ' → Step lab lab' news news' →
      PureT (b + 2) σ'.T → Same σ σ' → σ'.T.t = t → σ'.T.ns = (σ.T.ns ++ [d]).set i.toNat p' → TreeL news' σ'.T → (t, instObj 274 σ'.T.dt) ∈ news' → (p'.kind = p.kind ∧ p'.chI = p.chI ∧ p'.atI = p.atI ++ [n] ∧ p'.nsI = p.nsI) → NodeD d (Str.ofString "attribute") [] [] → d.loc = loc →
      Q (.int n tk) { s with heap := h', toks := tk' }),
    wpAny (model prog w) (ktrTop dp un gd cn cs L a ccd cl outer) (call (.ref 173) [.ref t, .int i tk, .str name k1, .str uri k2, .str loc k3, .str val k4]) Q E s
theorem set_attribute_x_use {K : Params → Frag} {V : PySem.Program} (Z : set_attribute_x_S K V) : ∀ {prog : Program} {w : World} {mean : ExcName → Option Value} {mg mb : Str → Option Value} {dp un : Nat} {gd : Option (List Code)} {cn : Str} {cs : Scope} {a : Addr} {ccd : Value} {cl : List (Str × Addr)} {outer : List Env} {A₀ : Around} {base h₀ : Heap} {L : Addr} {m : Str → Option Value} {news : Led} {s : Shared} {Q E : Value → Shared → Prop} {σ : SS} {lab : Addr → Lab} {b : Nat} {name uri loc val : Str} {k1 k2 k3 k4 : Tok} {p : TN} {i n : Int} {tk : Tok} (B : Below A₀ base outer h₀) (F : Fr h₀ L s.heap m) (X : (K w.params).In h₀) (N : News h₀ L s.heap news) (Tp : Top V (looseW V []) mean mg mb h₀) (hk : cs.kind = .function) (hdp : dp + 12 < recursionLimit) (hu : un + 160 < cLine) {t : Addr} (e : σ.T.t = t) (nd : ND news) (H : StL news lab σ) (P : PureT b σ.T) (hb : b < 400) (h0 : 0 ≤ i) (hi : σ.T.ns[i.toNat]? = some p) (hp : p.kind = Str.ofString "element") (hat : p.atI = []) (hn : (σ.T.ns.length : Int) = n) (hret : ∀ (σ' : SS) (d p' : TN) (tk : Tok) lab' news' h' tk', Fr h₀ L h' m → News h₀ L h' news' → ND news' → StL news' lab' σ' → Step lab lab' news news' →
      PureT (b + 2) σ'.T → Same σ σ' → σ'.T.t = t → σ'.T.ns = (σ.T.ns ++ [d]).set i.toNat p' → TreeL news' σ'.T → (t, instObj 274 σ'.T.dt) ∈ news' → (p'.kind = p.kind ∧ p'.chI = p.chI ∧ p'.atI = p.atI ++ [n] ∧ p'.nsI = p.nsI) → NodeD d (Str.ofString "attribute") [] [] → d.loc = loc →
      Q (.int n tk) { s with heap := h', toks := tk' }),
    wpAny (model prog w) (ktrTop dp un gd cn cs L a ccd cl outer) (call (.ref 173) [.ref t, .int i tk, .str name k1, .str uri k2, .str loc k3, .str val k4]) Q E s := Z
local macro_rules | `(tactic| walk_at "ph24") => `(tactic| fail_if_success (fail_if_success (have h9 : Ph 24 := by with_reducible assumption)))
local macro_rules | `(tactic| k_updF) => `(tactic| (walk_at "ph24"; exact upd_setF (by kwd_less) (by k_mem)))
local macro_rules | `(tactic| walk_at "call ref") => `(tactic| (walk_at "ph24"; (k_here; (with_reducible show wpAny _ _ (call (Value.ref 124) _) _ _ _); (fail_if_success (with_reducible rename StL _ _ _ => hh9)); refine Halt.mk ?_)))
local macro_rules | `(tactic| walk_at "call ref") => `(tactic| (k_here; (with_reducible show wpAny _ _ (call (Value.ref 124) _) _ _ _); k_dflt (refine' new_root_x_use (by with_reducible assumption) ?B ?F ?X ?N ?T ?hk ?hdp ?hu ?e ?nd ?H ?P ?hb ?hn ?_; (case B => k_asm); (case F => k_asm); (case X => k_asm); (case N => k_asm); (case T => k_asm); (case hk => first | exact rfl | assumption); (case nd => kwd_less); (case H => kwd_rel); (case P => assumption); (case hb => omega); (case hdp => ktr_room); (case hu => ktr_units); (case e => first | exact rfl | assumption); (case hn => assumption); k_whole); intro σ' d' tk' lab' news' h' tk9' F' N' nd' H' St' P' sm' et' en' T' t1 q0; refine Halt.mk ?_))
local macro_rules | `(tactic| walk_at "call ref") => `(tactic| (k_here; (with_reducible show wpAny _ _ (call (Value.ref 138) _) _ _ _); k_dflt (refine' add_element_x_use (by with_reducible assumption) ?B ?F ?X ?N ?T ?hk ?hdp ?hu ?e ?nd ?H ?P ?hb ?h0 ?hi ?hp ?hn ?_; (case B => k_asm); (case F => k_asm); (case X => k_asm); (case N => k_asm); (case T => k_asm); (case hk => first | exact rfl | assumption); (case nd => kwd_less); (case H => kwd_rel); (case P => assumption); (case hb => omega); (case h0 => omega); (case hi => assumption); (case hp => assumption); (case hdp => ktr_room); (case hu => ktr_units); (case e => first | exact rfl | assumption); (case hn => assumption); k_whole); intro σ' d' p' tk' lab' news' h' tk9' F' N' nd' H' St' P' sm' et' en' T' t1 q0 q1; refine Halt.mk ?_))
local macro_rules | `(tactic| walk_at "call ref") => `(tactic| (k_here; (with_reducible show wpAny _ _ (call (Value.ref 173) _) _ _ _); k_dflt (refine' set_attribute_x_use (by with_reducible assumption) ?B ?F ?X ?N ?T ?hk ?hdp ?hu ?e ?nd ?H ?P ?hb ?h0 ?hi ?hp ?hat ?hn ?_; (case B => k_asm); (case F => k_asm); (case X => k_asm); (case N => k_asm); (case T => k_asm); (case hk => first | exact rfl | assumption); (case nd => kwd_less); (case H => kwd_rel); (case P => assumption); (case hb => omega); (case h0 => omega); (case hi => assumption); (case hp => assumption); (case hat => assumption); (case hdp => ktr_room); (case hu => ktr_units); (case e => first | exact rfl | assumption); (case hn => assumption); k_whole); intro σ' d' p' tk' lab' news' h' tk9' F' N' nd' H' St' P' sm' et' en' T' t1 q0 q1 q2; refine Halt.mk ?_))
local macro_rules | `(tactic| walk_at "call builtin:list.append") => `(tactic| (walk_at "ph24"; (k_here; (with_reducible show wpAny _ _ (call (Value.builtin _) [Value.ref _, _]) _ _ _); k_dflt (refine' W_append ?F ?N ?U ?z ?_; (case F => k_asm); (case N => k_asm); (case U => k_upd); (case z => ((try simp only [List.length_map, List.length_append, List.length_cons, List.length_nil]); omega)); k_whole); intro h' F' N'; refine Halt.mk ?_)))
local macro_rules | `(tactic| walk_at "exec For Tuple Call cons nil") => `(tactic| (walk_at "ph24"; (k_here; ((with_reducible rename Fr _ _ _ _ => lF')); (with_unfolding_all refine' For_turns lF' ?_; k_whole))))
local macro_rules | `(tactic| walk_at "call type:enumerate") => `(tactic| (walk_at "ph24"; (k_here; (with_reducible show wpAny _ _ (call (Value.type _) [Value.ref _]) (fun xv s₁ => wpAny _ _ (pyIter xv) (fun it s₂ => TurnsAt _ _ _ _ _ _ _ _ _ it s₂) _ s₁) _ _); refine Halt.mk ?_)))
/-! what holds between the turns of the law's own loops -/
structure LawSt (src t rl c R0 : Addr) (k1 k2 : Tok) (m : Str → Option Value) (nx : Led) (σ : SS) (lab : Addr → Lab) (oc : Obj) (b : Nat) : Prop where
  st : StL nx lab σ
  nd : ND nx
  pt : PureT b σ.T
  es : σ.src = src
  et : σ.T.t = t
  er : σ.rl = rl
  mc : (c, oc) ∈ nx
  lc : lab c = .no
  oc : ∃ v, oc.data = .cell v
  mr : (R0, listOf [Value.int 0 k1, Value.int 1 k2].toArray 0) ∈ nx
  lr : lab R0 = .no
  m1 : m (Str.ofString "source") = some (.ref src)
  m2 : m (Str.ofString "tree") = some (.ref t)
  m3 : m (Str.ofString "rows") = some (.ref rl)
  m4 : m (Str.ofString "roots") = some (.ref R0)
theorem StL.setNo {news : Led} {lab : Addr → Lab} {σ : SS} {c : Addr} {o : Obj} (H : StL news lab σ) (hc : lab c = .no) : StL (setL c o news) lab σ := by
  refine ⟨fun ℓ a x e => ?_, fun a ha => ?_⟩
  · obtain ⟨m, l⟩ := H.ent ℓ a x e
    refine ⟨setL_ne m fun z => ?_, l⟩
    have z' : a = c := z
    rw [z', hc] at l
    subst l
    cases e
  · obtain ⟨x, m⟩ := H.sup a ha
    exact ⟨x, setL_ne m fun z => ha (by have z' : a = c := z; rw [z']; exact hc)⟩
section
variable {src t rl c R0 : Addr} {k1 k2 : Tok} {m m' : Str → Option Value} {nx ny own : Led} {σ : SS} {lab : Addr → Lab} {oc : Obj} {b : Nat}
/-- a turn begins: the loop's own objects beside ours -/
theorem LawSt.begin {h₀ h : Heap} {L : Addr} (S : LawSt src t rl c R0 k1 k2 m nx σ lab oc b) (ho : OwnOff own (nx.map (·.1))) (N : News h₀ L h (nx ++ own)) :
    ∃ ny, News h₀ L h ny ∧ LawSt src t rl c R0 k1 k2 m ny σ lab oc b ∧ (∀ q ∈ own, q ∈ ny ∧ lab q.1 = .no ∧ q.1 ≠ c ∧ q.1 ≠ R0) := by
  obtain ⟨ny, nd, N', s1, s2⟩ := norm_led N
  have s : ∀ e ∈ nx, e ∈ ny := fun e he => s1 _ (List.mem_append_left _ he)
  refine ⟨ny, N', ⟨S.st.mono s, nd, S.pt, S.es, S.et, S.er, s _ S.mc, S.lc, S.oc, s _ S.mr, S.lr, S.m1, S.m2, S.m3, S.m4⟩, fun q hq => ⟨s1 _ (List.mem_append_right _ hq), S.st.own ho q hq, fun e => ?_, fun e => ?_⟩⟩
  · exact ho q hq c (List.mem_map.mpr ⟨_, S.mc, rfl⟩) e
  · exact ho q hq R0 (List.mem_map.mpr ⟨_, S.mr, rfl⟩) e
theorem LawSt.cell (S : LawSt src t rl c R0 k1 k2 m nx σ lab oc b) {o' : Obj} {v : Value} (d : o'.data = .cell (some v)) (hc : R0 ≠ c) : LawSt src t rl c R0 k1 k2 m (setL c o' nx) σ lab o' b :=
  ⟨S.st.setNo S.lc, S.nd.set, S.pt, S.es, S.et, S.er, setL_self S.mc, S.lc, ⟨_, d⟩, setL_ne S.mr hc, S.lr, S.m1, S.m2, S.m3, S.m4⟩
/-- a turn ends -/
theorem turn_end {h₀ h' : Heap} {L : Addr} {n0 nz : Led} {lab' : Addr → Lab} {σ' : SS} {b' : Nat} {J : (Str → Option Value) → Led → Prop} {s₁ : Shared} {tk : Nat} (F : Fr h₀ L h' m') (N : News h₀ L h' nz) (nd : ND nz) (H : StL nz lab' σ') (St : Step lab lab' n0 nz)
    (ho : ∀ q ∈ own, q ∈ n0 ∧ lab q.1 = .no ∧ q.1 ≠ c ∧ q.1 ≠ R0) (P : PureT b' σ'.T) (es : σ'.src = src) (et : σ'.T.t = t) (er : σ'.rl = rl) (mc : (c, oc) ∈ n0) (lc : lab c = .no) (hoc : ∃ v, oc.data = .cell v) (mr : (R0, listOf [Value.int 0 k1, Value.int 1 k2].toArray 0) ∈ n0) (lr : lab R0 = .no)
    (m1 : m' (Str.ofString "source") = some (.ref src)) (m2 : m' (Str.ofString "tree") = some (.ref t)) (m3 : m' (Str.ofString "rows") = some (.ref rl)) (m4 : m' (Str.ofString "roots") = some (.ref R0))
    (hJ : LawSt src t rl c R0 k1 k2 m' (offL own nz) σ' lab' oc b' → J m' (offL own nz)) : InvEndG h₀ L J own s₁ { s₁ with heap := h', toks := tk } := by
  have l' : ∀ q ∈ own, lab' q.1 = .no := fun q hq => (St.lb q (ho q hq).1).trans (ho q hq).2.1
  refine InvEndG.intro F N (hJ ⟨H.off l', offL_nd nd, P, es, et, er, offL_mem.mpr ⟨St.keep _ mc lc, fun q hq => (ho q hq).2.2.1⟩, (St.lb _ mc).trans lc, hoc, offL_mem.mpr ⟨St.keep _ mr lr, fun q hq => (ho q hq).2.2.2⟩, (St.lb _ mr).trans lr, m1, m2, m3, m4⟩) offL_off (fun p hp => (offL_mem.mp hp).1) fun q hq => St.keep _ (ho q hq).1 (ho q hq).2.1
end
noncomputable def J1 (src t rl c R0 : Addr) (k1 k2 : Tok) (i : Nat) (m : Str → Option Value) (nx : Led) : Prop := ∃ σ lab oc, LawSt src t rl c R0 k1 k2 m nx σ lab oc (2 + 4 * i) ∧ SetUp i σ.T.ns σ.rows
theorem J1.start {src t rl c R0 : Addr} {k1 k2 : Tok} {m : Str → Option Value} {nx : Led} {σ : SS} {lab : Addr → Lab} {oc : Obj} (S : LawSt src t rl c R0 k1 k2 m nx σ lab oc 2) (U : SetUp 0 σ.T.ns σ.rows) : J1 src t rl c R0 k1 k2 0 m nx := ⟨σ, lab, oc, S, U⟩
noncomputable def J2 (src t rl c R0 : Addr) (k1 k2 : Tok) (i : Nat) (m : Str → Option Value) (nx : Led) : Prop := ∃ σ lab oc, LawSt src t rl c R0 k1 k2 m nx σ lab oc (10 + 2 * i) ∧ Good σ.T.ns σ.rows ∧ σ.rows.length ≤ 6 + i
noncomputable def J3 (src t rl c R0 : Addr) (k1 k2 : Tok) (_i : Nat) (m : Str → Option Value) (nx : Led) : Prop := ∃ σ lab oc, LawSt src t rl c R0 k1 k2 m nx σ lab oc 40 ∧ Good σ.T.ns σ.rows ∧ σ.rows.length ≤ 20
theorem two_get {k1 k2 : Tok} {i : Nat} {v : Value} (h : [Value.int 0 k1, Value.int 1 k2][i]? = some v) : i < 2 ∧ ∃ k, v = .int (i : Int) k := by
  match i, h with
  | 0, h => exact ⟨by omega, k1, (Option.some.inj h).symm⟩
  | 1, h => exact ⟨by omega, k2, (Option.some.inj h).symm⟩
/-- a state with one row more -/
structure Put (σ σ' : SS) (r : RW) : Prop where
  T : σ'.T = σ.T
  rows : σ'.rows = σ.rows ++ [r]
  src : σ'.src = σ.src
  rl : σ'.rl = σ.rl
section
variable {n1 n3 n5 : Led} {lab lab3 lab5 : Addr → Lab} {σ σ3 σ5 : SS} {ta tb la wA rA rl L : Addr} {h₀ h' : Heap} {i v : Int} {k0 k1 k2 k3 k4 k5 k6 : Tok}
theorem row1 (N : News h₀ L h' (setL rl (listOf ((σ.rows.map fun (r : RW) => Value.ref r.addr) ++ [Value.ref rA]).toArray (σ.nL + 1)) ((rA, listOf [Value.ref wA, .int i k2, .int 0 k3, .int 1 k4].toArray 0) :: (wA, listOf [Value.ref ta].toArray 0) :: (ta, tupOf [.int i k0, .int 0 k1] 0) :: n1))) (er : σ.rl = rl) (H : StL n1 lab σ) (nd : ND n1) (l1 : ∀ p ∈ n1, p.1 < ta) (l2 : ∀ p ∈ (ta, tupOf [.int i k0, .int 0 k1] 0) :: n1, p.1 < wA) (l3 : ∀ p ∈ (wA, listOf [Value.ref ta].toArray 0) :: (ta, tupOf [.int i k0, .int 0 k1] 0) :: n1, p.1 < rA) :
    ∃ σ' lab' r nz, News h₀ L h' nz ∧ StL nz lab' σ' ∧
      Step lab lab' n1 nz ∧
      ND nz ∧
      Put σ σ' r ∧ RowD r [(i, 0)] i 0 1 := by
  subst er
  have f2 : ∀ p ∈ n1, p.1 < wA := fun p hp => l2 p (.tail _ hp)
  obtain ⟨σ', lab', a1, a2, a3, a4, a5, a6, a7, a8⟩ := row_put (n0 := n1) (lab0 := lab) (r := ⟨rA, wA, 0, 0, [⟨ta, i, 0, k0, k1, 0⟩], i, 0, 1, k2, k3, k4⟩) (x := ⟨ta, i, 0, k0, k1, 0⟩) (old := []) (rA := rA) (wA := wA)
    (H.mono (sub_cons (sub_cons fun _ h => h))) (Step.of_sub (sub_cons (sub_cons fun _ h => h))) ((nd.cons l1).cons l2) ⟨rfl, rfl, rfl, rfl, rfl⟩ l3 (.tail _ (.head _)) (H.fresh l1) l1 (l2 _ (.head _)) (.head _) (H.fresh f2) f2 (fun _ h => nomatch h)
  exact ⟨σ', lab', _, _, N, a1, a2, a3, ⟨a4, a5, a6, a7⟩, ⟨rfl, rfl, rfl, rfl⟩⟩
theorem row2 (N : News h₀ L h' (setL rl (listOf ((σ5.rows.map fun (r : RW) => Value.ref r.addr) ++ [Value.ref rA]).toArray (σ5.nL + 1)) ((rA, listOf [Value.ref wA, .int v k4, .int 1 k5, .int 0 k6].toArray 0) :: n5))) (er : σ5.rl = rl) (H3 : StL n3 lab3 σ3) (H5 : StL n5 lab5 σ5) (nd5 : ND n5) (St3 : Step lab lab3 n1 n3) (St5 : Step lab3 lab5 ((wA, listOf [Value.ref ta, Value.ref tb].toArray 0) :: (tb, tupOf [.int 1 k2, .int 0 k3] 0) :: (ta, tupOf [.int i k0, .int 0 k1] 0) :: n3) n5)
    (l1 : ∀ p ∈ n3, p.1 < ta) (l2 : ∀ p ∈ (ta, tupOf [.int i k0, .int 0 k1] 0) :: n3, p.1 < tb) (l3 : ∀ p ∈ (tb, tupOf [.int 1 k2, .int 0 k3] 0) :: (ta, tupOf [.int i k0, .int 0 k1] 0) :: n3, p.1 < wA) (l4 : ∀ p ∈ n5, p.1 < rA) :
    ∃ σ' lab' r nz, News h₀ L h' nz ∧ StL nz lab' σ' ∧
      Step lab lab' n1 nz ∧
      ND nz ∧
      Put σ5 σ' r ∧ RowD r [(i, 0), (1, 0)] v 1 0 := by
  subst er
  have ne : ∀ {a b : Addr}, a < b → a ≠ b := fun h e => absurd h (by rw [e]; exact Nat.lt_irrefl _)
  have f2 : ∀ p ∈ n3, p.1 < tb := fun p hp => l2 p (.tail _ hp)
  have f3 : ∀ p ∈ n3, p.1 < wA := fun p hp => l3 p (.tail _ (.tail _ hp))
  have m1 := St5.keep _ (.tail _ (.tail _ (.head _))) (H3.fresh l1)
  have m2 := St5.keep _ (.tail _ (.head _)) (H3.fresh f2)
  have m3 := St5.keep _ (.head _) (H3.fresh f3)
  have b1 := (St5.lb _ (.tail _ (.tail _ (.head _)))).trans (H3.fresh l1)
  have b2 := (St5.lb _ (.tail _ (.head _))).trans (H3.fresh f2)
  have b3 := (St5.lb _ (.head _)).trans (H3.fresh f3)
  have tab : ta < tb := l2 _ (.head _)
  have tbw : tb < wA := l3 _ (.head _)
  have taw : ta < wA := l3 _ (.tail _ (.head _))
  have S5 := (St3.trans (Step.of_sub (sub_cons (sub_cons (sub_cons fun _ h => h))))).trans St5
  obtain ⟨σ', lab', a1, a2, a3, a4, a5, a6, a7, a8⟩ := row_put (n0 := n1) (lab0 := lab) (r := ⟨rA, wA, 0, 0, [⟨ta, i, 0, k0, k1, 0⟩, ⟨tb, 1, 0, k2, k3, 0⟩], v, 1, 0, k4, k5, k6⟩) (x := ⟨tb, 1, 0, k2, k3, 0⟩) (old := [⟨ta, i, 0, k0, k1, 0⟩]) (rA := rA) (wA := wA)
    (H5.tup1 b1 ⟨_, m1⟩) (S5.tup1 fun p hp => ne (fresh_step St3 l1 p hp)) nd5 ⟨rfl, rfl, rfl, rfl, rfl⟩ l4 m2 (by show (if tb = ta then Lab.tup else lab5 tb) = .no; rw [if_neg (ne tab).symm]; exact b2) (fresh_step St3 f2) tbw m3 (by show (if wA = ta then Lab.tup else lab5 wA) = .no; rw [if_neg (ne taw).symm]; exact b3) (fresh_step St3 f3)
    (fun y hy => by rw [List.mem_singleton.mp hy]; exact ⟨m1, if_pos rfl⟩)
  exact ⟨σ', lab', _, _, N, a1, a2, a3, ⟨a4, a5, a6, a7⟩, ⟨rfl, rfl, rfl, rfl⟩⟩
theorem row3 {r2 : RW} {j : Nat} (N : News h₀ L h' (setL rl (listOf ((σ5.rows.map fun (r : RW) => Value.ref r.addr) ++ [Value.ref rA]).toArray (σ5.nL + 1)) ((rA, listOf [Value.ref wA, .int v k4, .int 0 k5, .int 0 k6].toArray 0) :: n5))) (er : σ5.rl = rl) (H3 : StL n3 lab3 σ3) (H5 : StL n5 lab5 σ5) (nd5 : ND n5) (St3 : Step lab lab3 n1 n3) (h2 : σ5.rows[j]? = some r2)
    (St5 : Step lab3 lab5 ((wA, listOf ((r2.way.map fun (x : WI) => Value.ref x.ta) ++ [Value.ref ta]).toArray 0) :: (la, listOf [Value.ref ta].toArray 0) :: (ta, tupOf [.int 0 k0, .int 0 k1] 0) :: n3) n5)
    (l1 : ∀ p ∈ n3, p.1 < ta) (l3 : ∀ p ∈ (la, listOf [Value.ref ta].toArray 0) :: (ta, tupOf [.int 0 k0, .int 0 k1] 0) :: n3, p.1 < wA) (l4 : ∀ p ∈ n5, p.1 < rA) :
    ∃ σ' lab' r nz, News h₀ L h' nz ∧ StL nz lab' σ' ∧
      Step lab lab' n1 nz ∧
      ND nz ∧
      Put σ5 σ' r ∧ RowD r (r2.w ++ [(0, 0)]) v 0 0 := by
  subst er
  have f3 : ∀ p ∈ n3, p.1 < wA := fun p hp => l3 p (.tail _ (.tail _ hp))
  have m1 := St5.keep _ (.tail _ (.tail _ (.head _))) (H3.fresh l1)
  have m3 := St5.keep _ (.head _) (H3.fresh f3)
  have b1 := (St5.lb _ (.tail _ (.tail _ (.head _)))).trans (H3.fresh l1)
  have b3 := (St5.lb _ (.head _)).trans (H3.fresh f3)
  have taw : ta < wA := l3 _ (.tail _ (.head _))
  have S5 := (St3.trans (Step.of_sub (sub_cons (sub_cons (sub_cons fun _ h => h))))).trans St5
  obtain ⟨σ', lab', a1, a2, a3, a4, a5, a6, a7, a8⟩ := row_put (n0 := n1) (lab0 := lab) (r := ⟨rA, wA, 0, 0, r2.way ++ [⟨ta, 0, 0, k0, k1, 0⟩], v, 0, 0, k4, k5, k6⟩) (x := ⟨ta, 0, 0, k0, k1, 0⟩) (old := r2.way) (rA := rA) (wA := wA)
    H5 S5 nd5 ⟨rfl, rfl, rfl, rfl, rfl⟩ l4 m1 b1 (fresh_step St3 l1) taw (by rw [List.map_append]; exact m3) b3 (fresh_step St3 f3) (fun y hy => by
      have := H5.ent _ _ _ (.tup h2 hy)
      exact ⟨this.1, this.2⟩)
  exact ⟨σ', lab', _, _, N, a1, a2, a3, ⟨a4, a5, a6, a7⟩, ⟨by unfold RW.w; rw [List.map_append]; rfl, rfl, rfl, rfl⟩⟩
end
theorem item_last {prog : Program} {w : World} {A : Around} {E : Value → Shared → Prop} {s : Shared} {value slice : PySem.Expr} {l : Addr} {vs : List Value} {u : Tok} {v : Value} {Q : Value → Shared → Prop} (hl : s.heap.IsList l (vs ++ [v]).toArray) (hz : vs.length < 100000) (h : Q v s)
    (hs : subscripted slice false (.ref l) (.int (-1) u) = operate [.ref l, .int (-1) u] (getItem (.ref l) (.int (-1) u)) := by with_unfolding_all rfl) :
    wpAny (model prog w) A (subscriptTail value slice (.ref l) (.int (-1) u)) Q E s :=
  tail_any hl.typeIs slot_list_getitem.lookup (wpAny_getItem_list_neg hl (by decide) (by rw [List.size_toArray, List.length_append, List.length_singleton]; omega) (by decide) (by
    have e : ((-1 : Int) + ((vs ++ [v]).toArray.size : Int)).toNat = vs.length := by
      rw [List.size_toArray, List.length_append, List.length_singleton]; omega
    rw [e]; simp) h) hs
theorem small_up {b : Int} (h0 : 0 ≤ b) (h1 : b < 1000) : Builtin.Range.small 0 b 1 = true := small_one (by decide) (by decide) (by omega) (by omega)
theorem size_up {b : Int} (h0 : 0 ≤ b) : Builtin.Range.rangeSize 0 b 1 = (b.toNat : Int) := by
  have := PyProof.Rows.rangeSize_nat 0 b
  rw [this]; congr 2; omega
theorem J2.start {src t rl c R0 : Addr} {k1 k2 : Tok} {m : Str → Option Value} {nx : Led} {σ : SS} {lab : Addr → Lab} {oc : Obj} (S : LawSt src t rl c R0 k1 k2 m nx σ lab oc 10) (G : Good σ.T.ns σ.rows) (z : σ.rows.length = 6) : J2 src t rl c R0 k1 k2 0 m nx := ⟨σ, lab, oc, S, G, by omega⟩
local macro_rules | `(tactic| walk_at "ph25") => `(tactic| fail_if_success (fail_if_success (have h9 : Ph 25 := by with_reducible assumption)))
local macro_rules | `(tactic| walk_at "storeName") => `(tactic| (walk_at "ph25"; (k_here; k_dflt (refine' storeX_C ?F ?N ?c ?U ?d ?_ ?a ?b; (case a => rfl); (case b => rfl); (case F => k_asm); (case N => k_asm); (case c => rfl); (case U => k_updF); (case d => with_reducible assumption); k_whole); intro h' o' F' N' d'; (try dsimp only at N'); refine Halt.mk ?_)))
local macro_rules | `(tactic| walk_at "subscriptTail") => `(tactic| (walk_at "ph25"; (k_here; (with_reducible show wpAny _ _ (subscriptTail _ _ (Value.ref _) (Value.int (-1) _)) _ _ _); k_dflt (refine' item_last (v := _) ?k1 ?k2 ?_ ?k6; (case k1 => exact News.isList (by k_asm) (by k_mem)); (case k2 => ((try simp only [List.length_map]); omega)); (case k6 => with_unfolding_all rfl); k_whole))))
local macro_rules | `(tactic| walk_at "call ref") => `(tactic| (k_here; (with_reducible show wpAny _ _ (call (Value.ref 304) _) _ _ _); k_dflt (refine' deed_st_use (by with_reducible assumption) ?B ?F ?X ?N ?T ?hk ?hdp ?hu ?q1 ?q2 ?q3 ?nd ?H ?P ?hb ?hR ?Iv ?hel ?_; (case B => k_asm); (case F => k_asm); (case X => k_asm); (case N => k_asm); (case T => k_asm); (case hk => first | exact rfl | assumption); (case q1 => with_reducible assumption); (case q2 => with_reducible assumption); (case q3 => with_reducible assumption); (case nd => with_reducible assumption); (case H => with_reducible assumption); (case P => with_reducible assumption); (case hb => with_reducible assumption); (case hR => with_reducible assumption); (case Iv => with_reducible assumption); (case hel => with_reducible assumption); (case hdp => ktr_room); (case hu => ktr_units); k_whole); intro σ' lab' news' h' tk' F' N' ok'; refine Halt.mk ?_))
/-! the third loop's comprehensions -/
theorem W_eqP {prog : Program} {w : World} {A : Around} {E : Value → Shared → Prop} {s : Shared} {h₀ : Heap} {L a b : Addr} {news : Led} {p1 p2 q1 q2 : Int} {t1 t2 u1 u2 : Tok} {n k : Nat} {Q : Value → Shared → Prop} (N : News h₀ L s.heap news)
    (ha : (a, ({ cls := .type "tuple", data := .seq #[.int p1 t1, .int p2 t2] n } : Obj)) ∈ news) (hb : (b, ({ cls := .type "tuple", data := .seq #[.int q1 u1, .int q2 u2] k } : Obj)) ∈ news) (hu : A.units + 64 < cLine)
    (h : Q (.bool (decide ((p1, p2) = (q1, q2)))) s) : wpAny (model prog w) A (compareOp .Eq (.ref a) (.ref b)) Q E s := by
  refine SeqAt.eq_tupleAt (items := #[.int p1 t1, .int p2 t2]) (items2 := #[.int q1 u1, .int q2 u2]) (e := fun j => if j = 0 then p1 == q1 else p2 == q2) ⟨_, (N _ ha).1, rfl, _, rfl⟩ ⟨_, (N _ hb).1, rfl, _, rfl⟩ (by omega) (fun j h1 h2 => ?_) ?_
  · have h3 : j < 2 := h1
    match j, h3 with
    | 0, _ => exact SeqAt.EqAt.int_int _ _ _ _
    | 1, _ => exact SeqAt.EqAt.int_int _ _ _ _
  · have e : ((List.range (min (#[Value.int p1 t1, Value.int p2 t2] : Array Value).size (#[Value.int q1 u1, Value.int q2 u2] : Array Value).size)).all (fun j => if j = 0 then p1 == q1 else p2 == q2) && (#[Value.int p1 t1, Value.int p2 t2] : Array Value).size == (#[Value.int q1 u1, Value.int q2 u2] : Array Value).size) = decide ((p1, p2) = (q1, q2)) := by
      show ((List.range (min 2 2)).all (fun j => if j = 0 then p1 == q1 else p2 == q2) && (2 : Nat) == 2) = _
      have : (List.range (min 2 2)) = [0, 1] := by decide
      rw [this]
      by_cases h1 : p1 = q1
      · by_cases h2 : p2 = q2
        · simp [h1, h2]
        · simp [h1, h2]
      · simp [h1]
    rw [e]; exact h
theorem off3_up {I C D t : Addr} {o : Obj} {oI oC oD : Obj} {l : Led} (h : LCg.Off3 I C D l) {r : Led} (hl : ∀ p ∈ r, p.1 < t) (hI : (I, oI) ∈ r) (hC : (C, oC) ∈ r) (hD : (D, oD) ∈ r) : LCg.Off3 I C D ((t, o) :: l) :=
  ⟨⟨(Nat.ne_of_lt (hl _ hI)).symm, (Nat.ne_of_lt (hl _ hC)).symm, (Nat.ne_of_lt (hl _ hD)).symm⟩, h⟩
theorem head_of {r : RW} {x : WI} {xs : List WI} (h : r.way = x :: xs) (k : Int) : hasHead k r = decide ((x.x, x.y) = (k, 0)) := by
  unfold hasHead RW.w
  rw [h]
  show decide (some (x.x, x.y) = some (k, 0)) = _
  by_cases e : (x.x, x.y) = (k, 0)
  · rw [decide_eq_true e, decide_eq_true (congrArg some e)]
  · rw [decide_eq_false e, decide_eq_false fun z => e (Option.some.inj z)]
theorem way_cons {ns : List TN} {rows : List RW} (I : LInv ns rows) {r : RW} (h : r ∈ rows) : ∃ x xs, r.way = x :: xs := by
  have := w_ne I h
  rcases e : r.way with _ | ⟨x, xs⟩
  · exact absurd (by unfold RW.w; rw [e]; rfl) this
  · exact ⟨x, xs, rfl⟩
/-- what the first comprehension has gathered -/
noncomputable def Gath (σ : SS) (k : Int) (n1 : Led) (j : Nat) (ys : List Value) (nx : Led) : Prop :=
  ∃ ps : List PT, ys = ps.map (fun p => Value.ref p.ta) ∧ (∀ p ∈ ps, PTIn nx p) ∧ ps.map (fun p => (wp p.way, p.node)) = ((σ.rows.take j).filter (hasHead k)).map (fun q => (q.w, q.node)) ∧ ∀ e ∈ n1, e ∈ nx
theorem Gath.skip {σ : SS} {k : Int} {n1 nx nx' : Led} {j : Nat} {ys : List Value} {r : RW} (h : Gath σ k n1 j ys nx) (hr : σ.rows[j]? = some r) (hn : hasHead k r = false) (hs : ∀ e ∈ nx, e ∈ nx') : Gath σ k n1 (j + 1) ys nx' := by
  obtain ⟨ps, e, h1, h2, h3⟩ := h
  refine ⟨ps, e, fun p hp => (h1 p hp).mono hs, ?_, fun e he => hs _ (h3 e he)⟩
  rw [filt_succ hr, if_neg (by rw [hn]; decide)]; exact h2
theorem Gath.take {σ : SS} {k : Int} {n1 nx nx' : Led} {j : Nat} {ys : List Value} {r : RW} {ta : Addr} {lab : Addr → Lab} (h : Gath σ k n1 j ys nx) (H : StL n1 lab σ) (hr : σ.rows[j]? = some r) (hn : hasHead k r = true) (hs : ∀ e ∈ nx, e ∈ nx')
    (ht : (ta, tupOf [.ref r.wayA, .int r.node r.k1] 0) ∈ nx') : Gath σ k n1 (j + 1) (ys ++ [.ref ta]) nx' := by
  obtain ⟨ps, e, h1, h2, h3⟩ := h
  have up : ∀ e ∈ n1, e ∈ nx' := fun e he => hs _ (h3 e he)
  refine ⟨ps ++ [⟨ta, r.wayA, r.node, r.k1, 0, r.way, r.wayN⟩], ?_, fun p hp => ?_, ?_, up⟩
  · rw [e, List.map_append]; rfl
  · rcases List.mem_append.mp hp with hp | hp
    · exact (h1 p hp).mono hs
    · rw [List.mem_singleton.mp hp]
      exact ⟨ht, up _ (H.ent _ _ _ (.way hr)).1, fun x hx => up _ (H.ent _ _ _ (.tup hr hx)).1⟩
  · rw [filt_succ hr, if_pos hn, List.map_append, List.map_append, h2]; rfl
theorem sub5 {a b c d e : Addr × Obj} {l : Led} : ∀ p ∈ a :: b :: c :: d :: e :: l, p ∈ d :: e :: a :: b :: c :: l := fun p hp => by
  simp only [List.mem_cons] at hp ⊢
  rcases hp with h | h | h | h | h | h <;> simp [h]
theorem sub4 {a b c d : Addr × Obj} {l : Led} : ∀ p ∈ a :: b :: c :: d :: l, p ∈ d :: a :: b :: c :: l := fun p hp => by
  simp only [List.mem_cons] at hp ⊢
  rcases hp with h | h | h | h | h <;> simp [h]
theorem srcAt_mono {h₀ : Heap} {a : Addr} {its : Array Value} {l l' : Led} (h : LCg.SrcAt h₀ a its l) (k : ∀ e ∈ l, e ∈ l') : LCg.SrcAt h₀ a its l' := h.elim .inl fun ⟨o, x, y⟩ => .inr ⟨o, k _ x, y⟩
theorem comp_yes {h₀ h' : Heap} {L I C D t1 t2 : Addr} {m : Str → Option Value} {s₁ : Shared} {oI oC oD o1 : Obj} {nx : Led} {rest : Value → Led → Prop} {tk : Nat} {a : Addr} {its : Array Value} {v : List Value} (F : Fr h₀ L h' m)
    (N : News h₀ L h' ((t2, tupOf v 0) :: (t1, o1) :: (I, oI) :: (C, oC) :: (D, oD) :: nx)) (off : LCg.Off3 I C D nx) (hS : LCg.SrcAt h₀ a its nx) (la : ∀ p ∈ (I, oI) :: (C, oC) :: (D, oD) :: nx, p.1 < t1) (lb : ∀ p ∈ (t1, o1) :: (I, oI) :: (C, oC) :: (D, oD) :: nx, p.1 < t2)
    (r : rest (.ref t2) ((t2, tupOf v 0) :: (t1, o1) :: nx)) : LCg.CompEnd h₀ L m s₁ I oI C oC D oD (LCg.SrcAt h₀ a its) rest (.ref t2) { s₁ with heap := h', toks := tk } :=
  LCg.CompEnd.intro F N ((t2, tupOf v 0) :: (t1, o1) :: nx) sub5 (off3_up (off3_up off la (.head _) (.tail _ (.head _)) (.tail _ (.tail _ (.head _)))) lb (.tail _ (.head _)) (.tail _ (.tail _ (.head _))) (.tail _ (.tail _ (.tail _ (.head _))))) (srcAt_mono hS (sub_cons (sub_cons fun _ h => h))) r
theorem comp_no {h₀ h' : Heap} {L I C D t1 : Addr} {m : Str → Option Value} {s₁ : Shared} {oI oC oD o1 : Obj} {nx : Led} {rest : Value → Led → Prop} {tk : Nat} {a : Addr} {its : Array Value} (F : Fr h₀ L h' m)
    (N : News h₀ L h' ((t1, o1) :: (I, oI) :: (C, oC) :: (D, oD) :: nx)) (off : LCg.Off3 I C D nx) (hS : LCg.SrcAt h₀ a its nx) (la : ∀ p ∈ (I, oI) :: (C, oC) :: (D, oD) :: nx, p.1 < t1)
    (r : rest .none ((t1, o1) :: nx)) : LCg.CompEnd h₀ L m s₁ I oI C oC D oD (LCg.SrcAt h₀ a its) rest .none { s₁ with heap := h', toks := tk } :=
  LCg.CompEnd.intro F N ((t1, o1) :: nx) sub4 (off3_up off la (.head _) (.tail _ (.head _)) (.tail _ (.tail _ (.head _)))) (srcAt_mono hS (sub_cons fun _ h => h)) r
theorem compP_J {prog : Program} {w : World} {A : Around} {s : Shared} {h₀ : Heap} {L : Addr} {m : Str → Option Value} {env : Env} {elt : PySem.Expr} {x x₂ : Str} {scope : Scope} {cl : List (Str × Addr)} {S : Led → Prop} {P : Nat → Value → Prop} {Fin : List Value → Led → Prop} {n : Nat}
    (J : Nat → List Value → Led → Prop)
    (turn : ∀ i ys news v, i < n → J i ys news → S news → P i v → ∃ (t : Addr) (ot : Obj) (v₁ v₂ : Value) (nt : Nat), v = .ref t ∧ (t, ot) ∈ news ∧ ot.cls = .type "tuple" ∧ ot.data = .seq #[v₁, v₂] nt ∧
      ∀ I oI C oC D m₂ h tk (E' : Value → Shared → Prop), LCg.NsObj oC m₂ → m₂ x = some v₁ → m₂ x₂ = some v₂ → Fr h₀ L h m → News h₀ L h ((I, oI) :: (C, oC) :: (D, LCg.lst ys) :: news) → LCg.Off3 I C D news → ((@Ne Nat I C) ∧ (@Ne Nat I D) ∧ (@Ne Nat C D)) →
      wpAny (model prog w) A (eval elt (compEnvC scope cl C env)) (LCg.CompEnd h₀ L m { s with heap := h, toks := tk } I oI C oC D (LCg.lst ys) S (fun y news' => J (i + 1) (ys ++ [y]) news')) E' { s with heap := h, toks := tk })
    (fin : ∀ ys news, J n ys news → Fin ys news) :
    ∀ (k i : Nat) ys news, i + k = n → J i ys news → S news → LCp.CompRestP prog w A h₀ L m env elt x x₂ scope cl s S P Fin k i ys news
  | 0, i, ys, news, e, hJ, _ => LCp.CompRestP.zero (fin ys news (by have : i = n := by omega
                                                                    rw [← this]; exact hJ))
  | k + 1, i, ys, news, e, hJ, hS => by
    refine LCp.CompRestP.succ fun v hP => ?_
    obtain ⟨t, ot, v₁, v₂, nt, e1, e2, e3, e4, h⟩ := turn i ys news v (by omega) hJ hS hP
    refine ⟨t, ot, v₁, v₂, nt, e1, e2, e3, e4, fun I oI C oC D m₂ hp tk E' hC hx hx2 F N off ne => ?_⟩
    refine wpAny_mono (h I oI C oC D m₂ hp tk E' hC hx hx2 F N off ne) (fun y s'' hq => ?_) fun _ _ e => e
    obtain ⟨h', tk', news', e1, F', N', o', S', r⟩ := hq
    exact ⟨h', tk', news', e1, F', N', o', S', compP_J J turn fin k (i + 1) _ _ (by omega) r S'⟩
theorem two_le {α : Type} {l : List α} {a b : α} (ha : a ∈ l) (hb : b ∈ l) (h : a ≠ b) : 2 ≤ l.length := by
  match l, ha, hb with
  | [x], ha, hb => exact absurd ((List.mem_singleton.mp ha).trans (List.mem_singleton.mp hb).symm) h
  | _ :: _ :: _, _, _ => simp
theorem gath_end {ns : List TN} {rows : List RW} {k : Int} {ps : List PT} (G : Good ns rows) (hk : k = 0 ∨ k = 1) (z : rows.length ≤ 20) (hm : ps.map (fun p => (wp p.way, p.node)) = (rows.filter (hasHead k)).map (fun q => (q.w, q.node))) :
    2 ≤ ps.length ∧ ps.length < 64 ∧ ps.Pairwise fun a b => wp a.way ≠ wp b.way := by
  have hl : ps.length = (rows.filter (hasHead k)).length := by simpa using congrArg List.length hm
  refine ⟨?_, ?_, ?_⟩
  · obtain ⟨⟨r, h1, h2, _⟩, q, g1, g2, _⟩ := G.root k hk
    rw [hl]
    refine two_le (a := r) (b := q) (List.mem_filter.mpr ⟨h1, by unfold hasHead; rw [h2]; simp⟩) (List.mem_filter.mpr ⟨g1, by unfold hasHead; rw [g2]; simp⟩) fun e => ?_
    rw [e, g2] at h2
    simp at h2
  · have := List.length_filter_le (hasHead k) rows
    omega
  · have h1 : rows.Pairwise fun a b => a.w ≠ b.w := by
      rw [List.pairwise_iff_getElem]
      intro i j hi hj hij e
      have := G.inv.uw i j _ _ (List.getElem?_eq_getElem hi) (List.getElem?_eq_getElem hj) e
      omega
    have h2 : (rows.filter (hasHead k)).Pairwise fun a b => a.w ≠ b.w := h1.sublist List.filter_sublist
    have h3 : ((rows.filter (hasHead k)).map (fun q => (q.w, q.node))).Pairwise fun a b => a.1 ≠ b.1 := by
      rw [List.pairwise_map]; exact h2
    rw [← hm, List.pairwise_map] at h3
    exact h3
theorem sort_end {ns : List TN} {rows : List RW} {k : Int} {ps ps' : List PT} (G : Good ns rows) (hk : k = 0 ∨ k = 1) (z : rows.length ≤ 20) (hm : ps.map (fun p => (wp p.way, p.node)) = (rows.filter (hasHead k)).map (fun q => (q.w, q.node)))
    (hp : ps'.Perm ps) (hs : ps'.Pairwise fun a b => wlt (wp a.way) (wp b.way) = true) :
    ∃ d Gf, ns[k.toNat]? = some d ∧ Rep ns Gf ∧ d.chI = Gf.tops ∧ Gf.size < 1000 ∧ Gf.all.length < 1000 ∧ ps'.map (·.node) = k :: Gf.all := by
  obtain ⟨⟨r, h1, h2, h3, h4⟩, _⟩ := G.root k hk
  obtain ⟨_, d, hd, _⟩ := G.inv.node r h1
  have hkd : d.kind ≠ Str.ofString "element" := fun e => by
    rw [isEl_of hd, e] at h4
    simp at h4
  have hp2 := hp.map fun p => (wp p.way, p.node)
  rw [hm] at hp2
  obtain ⟨Gf, a1, a2, a3, a4, a5⟩ := root_law G.inv h1 h2 (by omega) hd hkd hp2 (by rw [List.pairwise_map]; exact hs)
  rw [List.map_map, h3] at a5
  rw [h3] at hd
  exact ⟨d, Gf, hd, a1, a2, a3, a4, a5⟩
theorem W_neS {prog : Program} {w : World} {A : Around} {E : Value → Shared → Prop} {s : Shared} {h₀ : Heap} {L a b : Addr} {news : Led} {us ws : List Value} {l : List Int} {n k : Nat} {Q : Value → Shared → Prop} (N : News h₀ L s.heap news) (ha : (a, listOf us.toArray n) ∈ news) (hb : (b, listOf ws.toArray k) ∈ news) (hi : IntsAre us l) (hj : IntsAre ws l) (hu : A.units + 64 < cLine)
    (h : Q (.bool false) s) : wpAny (model prog w) A (compareOp .NotEq (.ref a) (.ref b)) Q E s := by
  refine ne_intsK (News.isList N ha) hi (News.isList N hb) hj hu ?_
  rw [decide_eq_true rfl]; exact h
theorem nodes_ints : ∀ (ps : List PT), IntsAre (ps.map fun p => Value.int p.node p.k) (ps.map (·.node))
  | [] => .nil
  | p :: ps => .cons p.node p.k (nodes_ints ps)
noncomputable def Nods (ps : List PT) (n1 : Led) (j : Nat) (ys : List Value) (nx : Led) : Prop := ys = (ps.take j).map (fun p => Value.int p.node p.k) ∧ ∀ e ∈ n1, e ∈ nx
noncomputable def all_nodes_x_S (K : Params → Frag) (V : PySem.Program) : Prop := ∀  {prog : Program} {w : World} {mean : ExcName → Option Value} {mg mb : Str → Option Value} {dp un : Nat} {gd : Option (List Code)} {cn : Str} {cs : Scope} {a : Addr} {ccd : Value} {cl : List (Str × Addr)} {outer : List Env} {A₀ : Around} {base h₀ : Heap} {L : Addr} {m : Str → Option Value} {news : Led} {s : Shared} {Q E : Value → Shared → Prop} {T : TS} {d : TN} {i : Int} {tk : Tok} {G : Fo} (B : Below A₀ base outer h₀) (F : Fr h₀ L s.heap m) (X : (K w.params).In h₀) (N : News h₀ L s.heap news) (Tp : Top V (looseW V []) mean mg mb h₀) (hk : cs.kind = .function) (hdp : dp + 12 < recursionLimit) (hu : un + 200 < cLine) (hT : TreeL news T) {t : Addr} (e : T.t = t) (h0 : 0 ≤ i) (hi : T.ns[i.toNat]? = some d) (hG : Rep T.ns G) (hch : d.chI = G.tops) (hz : G.size < 1000) (hz2 : G.all.length < 1000) (hret : ∀ D vs n h' tk' news', Fr h₀ L h' m → News h₀ L h' news' → (D, listOf vs.toArray n) ∈ news' → IntsAre vs (i :: G.all) → (∀ e ∈ news, e ∈ news') → (∀ p ∈ news, p.1 < D) → Q (.ref D) { s with heap := h', toks := tk' }),
    wpAny (model prog w) (ktrTop dp un gd cn cs L a ccd cl outer) (call (.ref 35) [.ref t, .int i tk]) Q E s
theorem all_nodes_x_use {K : Params → Frag} {V : PySem.Program} (Z : all_nodes_x_S K V) : ∀  {prog : Program} {w : World} {mean : ExcName → Option Value} {mg mb : Str → Option Value} {dp un : Nat} {gd : Option (List Code)} {cn : Str} {cs : Scope} {a : Addr} {ccd : Value} {cl : List (Str × Addr)} {outer : List Env} {A₀ : Around} {base h₀ : Heap} {L : Addr} {m : Str → Option Value} {news : Led} {s : Shared} {Q E : Value → Shared → Prop} {T : TS} {d : TN} {i : Int} {tk : Tok} {G : Fo} (B : Below A₀ base outer h₀) (F : Fr h₀ L s.heap m) (X : (K w.params).In h₀) (N : News h₀ L s.heap news) (Tp : Top V (looseW V []) mean mg mb h₀) (hk : cs.kind = .function) (hdp : dp + 12 < recursionLimit) (hu : un + 200 < cLine) (hT : TreeL news T) {t : Addr} (e : T.t = t) (h0 : 0 ≤ i) (hi : T.ns[i.toNat]? = some d) (hG : Rep T.ns G) (hch : d.chI = G.tops) (hz : G.size < 1000) (hz2 : G.all.length < 1000) (hret : ∀ D vs n h' tk' news', Fr h₀ L h' m → News h₀ L h' news' → (D, listOf vs.toArray n) ∈ news' → IntsAre vs (i :: G.all) → (∀ e ∈ news, e ∈ news') → (∀ p ∈ news, p.1 < D) → Q (.ref D) { s with heap := h', toks := tk' }),
    wpAny (model prog w) (ktrTop dp un gd cn cs L a ccd cl outer) (call (.ref 35) [.ref t, .int i tk]) Q E s := Z
local macro_rules | `(tactic| walk_at "ph26") => `(tactic| fail_if_success (fail_if_success (have h9 : Ph 26 := by with_reducible assumption)))
local macro_rules | `(tactic| walk_at "compareOp Eq ref ref") => `(tactic| (walk_at "ph26"; (k_here; (with_reducible show wpAny _ _ (compareOp CmpOp.Eq (Value.ref _) (Value.ref _)) _ _ _); k_dflt (refine' W_eqP ?N ?a ?b ?u ?_; (case N => k_asm); (case a => k_mem); (case b => k_mem); (case u => ktr_units); k_whole))))
local macro_rules | `(tactic| walk_at "compareOp NotEq ref ref") => `(tactic| (walk_at "ph26"; (k_here; (with_reducible show wpAny _ _ (compareOp CmpOp.NotEq (Value.ref _) (Value.ref _)) _ _ _); k_dflt (refine' W_neS ?N ?a ?b ?i ?j ?u ?_; (case N => k_asm); (case a => k_mem); (case b => k_mem); (case i => with_reducible assumption); (case j => with_reducible assumption); (case u => ktr_units); k_whole))))
local macro_rules | `(tactic| walk_at "call builtin:sorted") => `(tactic| (walk_at "ph26"; (k_here; (with_reducible show wpAny _ _ (call (Value.builtin _) [Value.ref _]) _ _ _); k_dflt (refine' W_sorted ?F ?N ?l ?a ?b ?p ?n ?u ?_; (case F => k_asm); (case N => k_asm); (case l => k_mem); (case a => with_reducible assumption); (case b => with_reducible assumption); (case p => with_reducible assumption); (case n => with_reducible assumption); (case u => ktr_units); k_whole); intro D' h' c' ps' F' N' l1 hp' hs'; refine Halt.mk ?_)))
local macro_rules | `(tactic| walk_at "SrcLP") => `(tactic| (walk_at "ph26"; (k_here; k_dflt (refine' LCp.SrcLP.ledger ?k1 ?k2 ?k3 ?k4 ?k5 ?_; (case k1 => exact rfl); (case k2 => k_asm); (case k3 => k_asm); (case k4 => k_mem); (case k5 => ((rw [sizeLine_eq, List.size_toArray]); (try simp only [List.length_map]); omega))); intro g'; refine Halt.mk ?_)))
local macro_rules | `(tactic| walk_at "call ref") => `(tactic| (k_here; (with_reducible show wpAny _ _ (call (Value.ref 35) _) _ _ _); k_dflt (refine' all_nodes_x_use (by with_reducible assumption) ?B ?F ?X ?N ?T ?hk ?hdp ?hu ?hT ?e ?h0 ?hi ?hG ?hch ?hz ?hz2 ?_; (case B => k_asm); (case F => k_asm); (case X => k_asm); (case N => k_asm); (case T => k_asm); (case hk => first | exact rfl | assumption); (case hT => with_reducible assumption); (case e => with_reducible assumption); (case h0 => with_reducible assumption); (case hi => with_reducible assumption); (case hG => with_reducible assumption); (case hch => with_reducible assumption); (case hz => with_reducible assumption); (case hz2 => with_reducible assumption); (case hdp => ktr_room); (case hu => ktr_units); k_whole); intro D' vs' n' h' tk' news' F' N' hm' hI' hs' l1; refine Halt.mk ?_))
theorem StL.init {news : Led} {t dt R src rl : Addr} {hr : Int} {tr : Tok} {n1 nS : Nat} {sa sb : Int} {ta tb : Tok} (m1 : (t, instObj 274 dt) ∈ news) (m2 : (dt, dictOf [⟨hr, .str (Str.ofString "rows") tr, .ref R⟩] n1) ∈ news) (m3 : (R, listOf ([] : List Value).toArray 0) ∈ news)
    (m4 : (src, listOf [Value.int sa ta, Value.int sb tb].toArray nS) ∈ news) (m5 : (rl, listOf ([] : List Value).toArray 0) ∈ news) (h1 : src < dt) (h2 : dt < t) (h3 : t < R) (h4 : R < rl) :
    ∃ lab, StL news lab ⟨⟨t, dt, R, hr, tr, n1, 0, []⟩, [], rl, 0, src, nS, sa, sb, ta, tb⟩ ∧ ∀ a, a ≠ t → a ≠ dt → a ≠ R → a ≠ src → a ≠ rl → lab a = .no := by
  have h1' : @LT.lt Nat _ src dt := h1
  have h2' : @LT.lt Nat _ dt t := h2
  have h3' : @LT.lt Nat _ t R := h3
  have h4' : @LT.lt Nat _ R rl := h4
  have e1 : ¬ dt = t := Nat.ne_of_lt h2'
  have e2 : ¬ R = t := Nat.ne_of_gt h3'
  have e3 : ¬ R = dt := Nat.ne_of_gt (Nat.lt_trans h2' h3')
  have e4 : ¬ src = t := Nat.ne_of_lt (Nat.lt_trans h1' h2')
  have e5 : ¬ src = dt := Nat.ne_of_lt h1'
  have e6 : ¬ src = R := Nat.ne_of_lt (Nat.lt_trans h1' (Nat.lt_trans h2' h3'))
  have e7 : ¬ rl = t := Nat.ne_of_gt (Nat.lt_trans h3' h4')
  have e8 : ¬ rl = dt := Nat.ne_of_gt (Nat.lt_trans h2' (Nat.lt_trans h3' h4'))
  have e9 : ¬ rl = R := Nat.ne_of_gt h4'
  have e10 : ¬ rl = src := Nat.ne_of_gt (Nat.lt_trans h1' (Nat.lt_trans h2' (Nat.lt_trans h3' h4')))
  refine ⟨fun a => if a = t then .t else if a = dt then .dt else if a = R then .R else if a = src then .src else if a = rl then .rl else .no, ⟨fun ℓ a o e => ?_, fun a ha => ?_⟩, fun a a1 a2 a3 a4 a5 => ?_⟩
  · cases e with
    | t => exact ⟨m1, if_pos rfl⟩
    | dt => exact ⟨m2, by show (if dt = t then Lab.t else _) = _; rw [if_neg e1, if_pos rfl]⟩
    | R => exact ⟨m3, by show (if R = t then Lab.t else _) = _; rw [if_neg e2, if_neg e3, if_pos rfl]⟩
    | inst h => exact absurd h (by simp)
    | dict h => exact absurd h (by simp)
    | ch h => exact absurd h (by simp)
    | at_ h => exact absurd h (by simp)
    | ns h => exact absurd h (by simp)
    | src => exact ⟨m4, by show (if src = t then Lab.t else _) = _; rw [if_neg e4, if_neg e5, if_neg e6, if_pos rfl]⟩
    | rl => exact ⟨m5, by show (if rl = t then Lab.t else _) = _; rw [if_neg e7, if_neg e8, if_neg e9, if_neg e10, if_pos rfl]⟩
    | row h => exact absurd h (by simp)
    | way h => exact absurd h (by simp)
    | tup h => exact absurd h (by simp)
  · replace ha : (if a = t then Lab.t else if a = dt then .dt else if a = R then .R else if a = src then .src else if a = rl then .rl else .no) ≠ .no := ha
    by_cases c1 : a = t
    · subst c1; exact ⟨_, m1⟩
    · by_cases c2 : a = dt
      · subst c2; exact ⟨_, m2⟩
      · by_cases c3 : a = R
        · subst c3; exact ⟨_, m3⟩
        · by_cases c4 : a = src
          · subst c4; exact ⟨_, m4⟩
          · by_cases c5 : a = rl
            · subst c5; exact ⟨_, m5⟩
            · rw [if_neg c1, if_neg c2, if_neg c3, if_neg c4, if_neg c5] at ha; exact absurd rfl ha
  · show (if a = t then Lab.t else if a = dt then .dt else if a = R then .R else if a = src then .src else if a = rl then .rl else .no) = .no
    rw [if_neg a1, if_neg a2, if_neg a3, if_neg a4, if_neg a5]
theorem setup0 {h₀ h : Heap} {L c D t dt R src rl : Addr} {oc od : Obj} {hr : Int} {tr : Tok} {nD nS : Nat} {sa sb : Int} {ta tb : Tok}
    (N : News h₀ L h [(D, od), (rl, listOf ([] : List Value).toArray 0), (R, listOf ([] : List Value).toArray 0), (t, instObj 274 dt), (dt, dictOf [⟨hr, .str (Str.ofString "rows") tr, .ref R⟩] nD), (src, listOf [Value.int sa ta, Value.int sb tb].toArray nS), (c, oc)])
    (k6 : ∀ p ∈ [(rl, listOf ([] : List Value).toArray 0), (R, listOf ([] : List Value).toArray 0), (t, instObj 274 dt), (dt, dictOf [⟨hr, .str (Str.ofString "rows") tr, .ref R⟩] nD), (src, listOf [Value.int sa ta, Value.int sb tb].toArray nS), (c, oc)], p.1 < D)
    (k5 : ∀ p ∈ [(R, listOf ([] : List Value).toArray 0), (t, instObj 274 dt), (dt, dictOf [⟨hr, .str (Str.ofString "rows") tr, .ref R⟩] nD), (src, listOf [Value.int sa ta, Value.int sb tb].toArray nS), (c, oc)], p.1 < rl)
    (to : TOrd [(src, listOf [Value.int sa ta, Value.int sb tb].toArray nS), (c, oc)] dt t R) (k1 : ∀ p ∈ [(c, oc)], p.1 < src) :
    ∃ lab σ news, StL news lab σ ∧ lab c = .no ∧ ND news ∧ News h₀ L h news ∧ (c, oc) ∈ news ∧ PureT 0 σ.T ∧ σ.T.ns = [] ∧ σ.rows = [] ∧ σ.src = src ∧ σ.T.t = t ∧ σ.rl = rl := by
  obtain ⟨k2, k3, k4⟩ := to
  have c1 : c < src := k1 _ (.head _)
  have c2 : src < dt := k2 _ (.head _)
  have c3 : R < rl := k5 _ (.head _)
  obtain ⟨lab, H, hl⟩ := StL.init (hr := hr) (tr := tr) (n1 := nD) (nS := nS) (sa := sa) (sb := sb) (ta := ta) (tb := tb) (news := [(D, od), (rl, listOf ([] : List Value).toArray 0), (R, listOf ([] : List Value).toArray 0), (t, instObj 274 dt), (dt, dictOf [⟨hr, .str (Str.ofString "rows") tr, .ref R⟩] nD), (src, listOf [Value.int sa ta, Value.int sb tb].toArray nS), (c, oc)])
    (t := t) (dt := dt) (R := R) (src := src) (rl := rl) (by simp) (by simp) (by simp) (by simp) (by simp) c2 k3 k4 c3
  have d1 : @LT.lt Nat _ c src := c1
  have d2 : @LT.lt Nat _ src dt := c2
  have d3 : @LT.lt Nat _ dt t := k3
  have d4 : @LT.lt Nat _ t R := k4
  have d5 : @LT.lt Nat _ R rl := c3
  have f2 : ∀ p ∈ [(dt, dictOf [⟨hr, .str (Str.ofString "rows") tr, .ref R⟩] nD), (src, listOf [Value.int sa ta, Value.int sb tb].toArray nS), (c, oc)], p.1 < t := fun p hp => by
    rcases List.mem_cons.mp hp with rfl | hp
    · exact k3
    · exact Nat.lt_trans (k2 p hp) k3
  have f3 : ∀ p ∈ [(t, instObj 274 dt), (dt, dictOf [⟨hr, .str (Str.ofString "rows") tr, .ref R⟩] nD), (src, listOf [Value.int sa ta, Value.int sb tb].toArray nS), (c, oc)], p.1 < R := fun p hp => by
    rcases List.mem_cons.mp hp with rfl | hp
    · exact k4
    · exact Nat.lt_trans (f2 p hp) k4
  refine ⟨lab, _, _, H, hl c (Nat.ne_of_lt (Nat.lt_trans d1 (Nat.lt_trans d2 d3))) (Nat.ne_of_lt (Nat.lt_trans d1 d2)) (Nat.ne_of_lt (Nat.lt_trans d1 (Nat.lt_trans d2 (Nat.lt_trans d3 d4)))) (Nat.ne_of_lt d1) (Nat.ne_of_lt (Nat.lt_trans d1 (Nat.lt_trans d2 (Nat.lt_trans d3 (Nat.lt_trans d4 d5))))), ?_, N, by simp, ⟨Nat.le_refl _, fun _ h => nomatch h⟩, rfl, rfl, rfl, rfl, rfl⟩
  have n0 : ND ([] : Led) := List.nodup_nil
  have n1 : ND [(c, oc)] := n0.cons (fun _ h => nomatch h)
  have n2 := n1.cons (o := listOf [Value.int sa ta, Value.int sb tb].toArray nS) k1
  have n3 := n2.cons (o := dictOf [⟨hr, .str (Str.ofString "rows") tr, .ref R⟩] nD) k2
  have n4 := n3.cons (o := instObj 274 dt) f2
  have n5 := n4.cons (o := listOf ([] : List Value).toArray 0) f3
  have n6 := n5.cons (o := listOf ([] : List Value).toArray 0) k5
  exact n6.cons (o := od) k6
theorem StL.tf {news : Led} {lab : Addr → Lab} {σ : SS} {t : Addr} (H : StL news lab σ) (e : σ.T.t = t) : (t, instObj 274 σ.T.dt) ∈ news := e ▸ (H.ent _ _ _ .t).1
theorem StL.rf {news : Led} {lab : Addr → Lab} {σ : SS} {rl : Addr} (H : StL news lab σ) (e : σ.rl = rl) : (rl, listOf (σ.rows.map fun (r : RW) => Value.ref r.addr).toArray σ.nL) ∈ news := e ▸ (H.ent _ _ _ .rl).1
-- idle names: the head makes no twin equation where its name is taken (none of these twins is used by the proof)
theorem main_law.tw16272535543746144598 : True := trivial
theorem main_law.tw15278204504836372639 : True := trivial
theorem main_law.tw8382058781195331176 : True := trivial
theorem main_law.tw9122204298625159479 : True := trivial
theorem main_law.tw1750179570814264738 : True := trivial
theorem main_law.tw9988225645199122399 : True := trivial
theorem main_law.tw14716696602892027711 : True := trivial
theorem main_law.tw13651890997606065457 : True := trivial
theorem main_law.tw15185132067283390285 : True := trivial
theorem main_law.tw7270405674928363030 : True := trivial
theorem main_law.tw1455518124683583684 : True := trivial
theorem main_law.tw18284130527157254404 : True := trivial
theorem main_law.tw15832774337606928219 : True := trivial
theorem main_law.tw16602191771038131388 : True := trivial
theorem main_law.tw2490888643473913376 : True := trivial
theorem main_law.tw17254865359944730668 : True := trivial
theorem main_law.tw4837578159452390858 : True := trivial
theorem main_law.tw14507756859793923373 : True := trivial
theorem main_law.tw6627948293009315497 : True := trivial
theorem main_law.tw10434648222827880935 : True := trivial
theorem main_law.tw5122930304085880381 : True := trivial
theorem main_law.tw17410375447638996249 : True := trivial
theorem main_law.tw12065051355992425402 : True := trivial
theorem main_law.tw15054136229613229747 : True := trivial
theorem main_law.tw8783266733319941037 : True := trivial
theorem main_law.tw11652488503726682041 : True := trivial
theorem main_law.tw15137370965591084043 : True := trivial
theorem main_law.tw17939921461974349352 : True := trivial
theorem main_law.tw18193491604498387717 : True := trivial
theorem main_law.tw8685041732657909100 : True := trivial
theorem main_law.tw16959561582339946599 : True := trivial
theorem main_law.tw1267823194973010792 : True := trivial
theorem main_law.tw14029786210118914022 : True := trivial
theorem main_law.tw2539680116612119567 : True := trivial
theorem main_law.tw4677281811418737539 : True := trivial
theorem main_law.tw288673305613726553 : True := trivial
theorem main_law.tw7394612988828685739 : True := trivial
theorem main_law.tw992418245016069237 : True := trivial
theorem main_law.tw8427367723230099243 : True := trivial
theorem main_law.tw9317050211137671975 : True := trivial
theorem main_law.tw6444935360635959100 : True := trivial
theorem main_law.tw17111287354206209657 : True := trivial
theorem main_law.tw3581713840900055171 : True := trivial
theorem main_law.tw11250198318855945687 : True := trivial
theorem main_law.tw15588262202718929508 : True := trivial
theorem main_law.tw9806116567328875883 : True := trivial
theorem main_law.tw7111503389054446497 : True := trivial
theorem main_law.tw17152921462730583231 : True := trivial
theorem main_law.tw16817203113862870619 : True := trivial
theorem main_law.tw2445446751080901336 : True := trivial
theorem main_law.tw7160064819231544424 : True := trivial
theorem main_law.tw11277533200462911952 : True := trivial
theorem main_law.tw8869780150625806809 : True := trivial
theorem main_law.tw15080669434243068633 : True := trivial
theorem main_law.tw15213542770847290007 : True := trivial
theorem main_law.tw13560192915540379771 : True := trivial
theorem main_law.tw7542935843937122685 : True := trivial
theorem main_law.tw16178597560514998142 : True := trivial
theorem main_law.tw18001747364475468199 : True := trivial
theorem main_law.tw4572673355023317339 : True := trivial
theorem main_law.tw12882720935077284908 : True := trivial
theorem main_law.tw10660225237753262050 : True := trivial
theorem main_law.tw4485890691264051401 : True := trivial
theorem main_law.tw8021522776792985838 : True := trivial
theorem main_law.tw10180289444548343599 : True := trivial
theorem main_law.tw12824004496626932019 : True := trivial
theorem main_law.tw12444036595637010676 : True := trivial
theorem main_law.tw12854191353204107582 : True := trivial
theorem main_law.tw12352402533073161938 : True := trivial
theorem main_law.tw2040995526116782095 : True := trivial
theorem main_law.tw7773193203782448655 : True := trivial
theorem main_law.tw18137293093849012107 : True := trivial
theorem main_law.tw9038132026388669548 : True := trivial
theorem main_law.tw9581690877128110125 : True := trivial
theorem main_law.tw444451601175758711 : True := trivial
theorem main_law.tw11016783120338638492 : True := trivial
theorem main_law.tw14852339249376343667 : True := trivial
theorem main_law.tw2763757887628007512 : True := trivial
theorem main_law.tw8289996319272191429 : True := trivial
theorem main_law.tw16498591626822395182 : True := trivial
theorem main_law.tw2762847437511146148 : True := trivial
theorem main_law.tw2821591849129562124 : True := trivial
theorem main_law.tw15712292822109926715 : True := trivial
theorem main_law.tw3592502925901114332 : True := trivial
theorem main_law.tw11343257537259788833 : True := trivial
theorem main_law.tw4642305813326540717 : True := trivial
theorem main_law.tw16684165022434844272 : True := trivial
theorem main_law.tw7595539163226272072 : True := trivial
theorem main_law.tw18354005608794056848 : True := trivial
theorem main_law.tw52432729963845354 : True := trivial
theorem main_law.tw14810952319373892414 : True := trivial
theorem main_law.tw16033796462886837723 : True := trivial
theorem main_law.tw5860846804142538100 : True := trivial
theorem main_law.tw858303607373789307 : True := trivial
theorem main_law.tw5893340123035969478 : True := trivial
theorem main_law.tw12698831123145480384 : True := trivial
theorem main_law.tw6088094172281227105 : True := trivial
theorem main_law.tw9267104131533524603 : True := trivial
theorem main_law.tw9424380824459819793 : True := trivial
theorem main_law.tw16372249015720500173 : True := trivial
theorem main_law.tw1744327996418068571 : True := trivial
theorem main_law.tw12984190096122927891 : True := trivial
theorem main_law.tw13985277231109061741 : True := trivial
theorem main_law.tw6845650870006892453 : True := trivial
theorem main_law.tw10207667289669707521 : True := trivial
theorem main_law.tw1491254348787290378 : True := trivial
theorem main_law.tw5811870045959716469 : True := trivial
theorem main_law.tw17384968546999130217 : True := trivial
theorem main_law.tw15670040771272926086 : True := trivial
theorem main_law.tw12926228763779099329 : True := trivial
theorem main_law.tw15759000958072008224 : True := trivial
theorem main_law.tw14073985508804964455 : True := trivial
theorem main_law.tw14754399581943492217 : True := trivial
theorem main_law.tw6192539497889950109 : True := trivial
theorem main_law.tw4449525720006252980 : True := trivial
theorem main_law.tw7950543967590558657 : True := trivial
theorem main_law.tw12732344642268843449 : True := trivial
theorem main_law.tw15396427993869498292 : True := trivial
theorem main_law.tw13571569380606561511 : True := trivial
theorem main_law.tw4028102288673434837 : True := trivial
theorem main_law.tw9683922868615289529 : True := trivial
theorem main_law.tw15282857024069473640 : True := trivial
theorem main_law.tw9181495133003623740 : True := trivial
theorem main_law.tw11643700175147617302 : True := trivial
theorem main_law.tw10721595893530235006 : True := trivial
theorem main_law.tw2350042637993798516 : True := trivial
theorem main_law.tw13504126808124617676 : True := trivial
theorem main_law.tw17722087215052076830 : True := trivial
theorem main_law.tw14352205262045318263 : True := trivial
theorem main_law.tw10999581918664155534 : True := trivial
theorem main_law.tw861979655010901641 : True := trivial
theorem main_law.tw5481643715258063164 : True := trivial
theorem main_law.tw10895646960496474818 : True := trivial
theorem main_law.tw5744978098543616387 : True := trivial
theorem main_law.tw15022178586666424028 : True := trivial
theorem main_law.tw16609251905013705766 : True := trivial
theorem main_law.tw1547653816532681369 : True := trivial
theorem main_law.tw8962385097532271892 : True := trivial
theorem main_law.tw13104393070180716599 : True := trivial
theorem main_law.tw16303022656503719128 : True := trivial
theorem main_law.tw4202158787842144117 : True := trivial
theorem main_law.tw9016442591260762285 : True := trivial
theorem main_law.tw11338232338888868301 : True := trivial
theorem main_law.tw17585736440321494365 : True := trivial
theorem main_law.tw1213435187004711237 : True := trivial
theorem main_law.tw15073254508346500828 : True := trivial
theorem main_law.tw17489886405493091041 : True := trivial
theorem main_law.tw16386607849054649454 : True := trivial
theorem main_law.tw3880831689195804095 : True := trivial
theorem main_law.tw1676532013534000468 : True := trivial
theorem main_law.tw9331339665354660524 : True := trivial
theorem main_law.tw10301515683172179080 : True := trivial
theorem main_law.tw10426699653295671267 : True := trivial
theorem main_law.tw1177755680426109740 : True := trivial
theorem main_law.tw7763561671615140561 : True := trivial
theorem main_law.tw16760280088313828228 : True := trivial
theorem main_law.tw6477117366899672445 : True := trivial
theorem main_law.tw13404740697935561918 : True := trivial
theorem main_law.tw17055984969882478519 : True := trivial
theorem main_law.tw10376889787374487519 : True := trivial
theorem main_law.tw11448416692461013313 : True := trivial
theorem main_law.tw16541177496861496816 : True := trivial
theorem main_law.tw2699328258257973798 : True := trivial
theorem main_law.tw6271120052505989254 : True := trivial
theorem main_law.tw16865750454715405696 : True := trivial
theorem main_law.tw16009792786298581246 : True := trivial
theorem main_law.tw6739212129233368247 : True := trivial
theorem main_law.tw5388619771488064878 : True := trivial
theorem main_law.tw4964638834399372066 : True := trivial
theorem main_law.tw9317643448646461853 : True := trivial
theorem main_law.tw17443790467866220063 : True := trivial
theorem main_law.tw13566461913770884759 : True := trivial
theorem main_law.tw3704344393878324194 : True := trivial
theorem main_law.tw12006007678664152593 : True := trivial
theorem main_law.tw13013281967259298274 : True := trivial
theorem main_law.tw16099463249315408851 : True := trivial
theorem main_law.tw13345559440158255179 : True := trivial
theorem main_law.tw3967574190603234014 : True := trivial
theorem main_law.tw5481205964787949337 : True := trivial
theorem main_law.tw17144854883367821179 : True := trivial
theorem main_law.tw5528052050580724562 : True := trivial
theorem main_law.tw17101045055237343979 : True := trivial
theorem main_law.tw10308352444024640611 : True := trivial
theorem main_law.tw187005721817407560 : True := trivial
theorem main_law.tw3735669402924798490 : True := trivial
theorem main_law.tw2842690672324902094 : True := trivial
theorem main_law.tw18361000930040559917 : True := trivial
theorem main_law.tw1555685710144998247 : True := trivial
theorem main_law.tw8576731459629568552 : True := trivial
theorem main_law.tw8664850713471145342 : True := trivial
theorem main_law.tw3267097829074763508 : True := trivial
theorem main_law.tw8917252461742809107 : True := trivial
theorem main_law.tw18343058360681183212 : True := trivial
theorem main_law.tw17149351397552047506 : True := trivial
theorem main_law.tw7895607675135656812 : True := trivial
set_option Elab.async true
theorem main_law : PySem.Challenge.rw_xm0662_01.Holds := by
  w_on
  o_law
  k_head
  (case hw => w_witness2)
  w_top off
  have s_row_spec : row_spec_S main_law.heap_1_39 main_law.view_1_40 := by
    as_aux_lemma =>
    intro prog w mean mg mb dp un gd cn cs a ccd cl outer A₀ base h₀ L m news s Q E T d i tk B F X N Tp hk hdp hu hT h0 hi hret
    have m1 := hT.t
    have m2 := hT.dt
    have m3 := hT.R
    have hz := hT.z
    have hi1 := hT.row hi
    have hi2 := lt_of_row h0 hi
    refine wpAny_call ?_
    k_dflt ktr_enter
    k_steps
    exact hret _ _ (by assumption) (by assumption)
  have s_kind_spec : kind_spec_S main_law.heap_1_39 main_law.view_1_40 := by
    as_aux_lemma =>
    intro prog w mean mg mb dp un gd cn cs a ccd cl outer A₀ base h₀ L m news s Q E T d i tk B F X N Tp hk hdp hu hT h0 hi hret
    have m1 := hT.t
    have m2 := hT.dt
    have hn := hT.ns d (List.mem_of_getElem? hi)
    have m3 := hn.inst
    have m4 := hn.dict
    refine wpAny_call ?_
    k_dflt ktr_enter
    k_steps
    exact hret _ _ (by assumption) (by assumption)
  have s_children_spec : children_spec_S main_law.heap_1_39 main_law.view_1_40 := by
    as_aux_lemma =>
    intro prog w mean mg mb dp un gd cn cs a ccd cl outer A₀ base h₀ L m news s Q E T d i tk B F X N Tp hk hdp hu hT h0 hi hret
    have m1 := hT.t
    have m2 := hT.dt
    have hn := hT.ns d (List.mem_of_getElem? hi)
    have m3 := hn.inst
    have m4 := hn.dict
    have m5 := hn.ch
    have z5 := hn.chZ
    refine wpAny_call ?_
    k_dflt ktr_enter
    k_steps
    exact hret _ _ _ _ (by assumption) (by assumption) (by assumption)
  have s_attributes_spec : attributes_spec_S main_law.heap_1_39 main_law.view_1_40 := by
    as_aux_lemma =>
    intro prog w mean mg mb dp un gd cn cs a ccd cl outer A₀ base h₀ L m news s Q E T d i tk B F X N Tp hk hdp hu hT h0 hi hret
    have m1 := hT.t
    have m2 := hT.dt
    have hn := hT.ns d (List.mem_of_getElem? hi)
    have m3 := hn.inst
    have m4 := hn.dict
    have m5 := hn.at_
    have z5 := hn.atZ
    refine wpAny_call ?_
    k_dflt ktr_enter
    k_steps
    exact hret _ _ _ _ (by assumption) (by assumption) (by assumption)
  have s_beneath_spec : beneath_spec_S main_law.heap_1_39 main_law.view_1_40 := by
    as_aux_lemma =>
    intro prog w mean mg mb dp un gd cn cs a ccd cl outer A₀ base h₀ L m news s Q E T d i tk G B F X N Tp hk hdp hu hT h0 hi hG hch hz hret
    have hn := hT.ns d (List.mem_of_getElem? hi)
    have z5 := hn.chZ
    have m1 := hT.t
    have m2 := hT.dt
    refine wpAny_call ?_
    k_dflt ktr_enter
    k_steps
    show wpAny _ _ _ _ _ _
    rename News _ _ _ _ => N9
    rename Fr _ _ _ _ => F9
    have hI := hn.chI
    rw [hch] at hI
    refine wp_never (While_inv2 (fun k m₁ nx => ∃ fa la fv lv c1 c2 G' dn, m₁ (Str.ofString "tree") = some (.ref T.t) ∧ m₁ (Str.ofString "found") = some (.ref fa) ∧ m₁ (Str.ofString "left") = some (.ref la) ∧
      (fa, listOf (List.toArray fv) c1) ∈ nx ∧ (la, listOf (List.toArray lv) c2) ∈ nx ∧ fa ≠ la ∧ IntsAre fv dn ∧ IntsAre lv (Fo.tops G').reverse ∧ dn ++ G'.pre = G.pre ∧ G'.size = k ∧ Rep T.ns G' ∧ (∀ e ∈ news, e ∈ nx) ∧ (∀ p ∈ news, p.1 < fa) ∧ (∀ p ∈ news, p.1 < la)) F9 N9 (n₀ := G.size) ?_ ?_ PassesOwn.never)
    · exact ⟨_, _, [], d.chV.reverse, _, _, G, [], rfl, rfl, rfl, by k_mem, by k_mem, by k_ne, .nil, hI.reverse, rfl, rfl, hG, by kd_subs, by assumption, lt_sub (by assumption) (by kd_subs)⟩
    · rintro k m₁ nx h₁ tk₁ F₁ N₁ ⟨fa, la, fv, lv, c1, c2, G', dn, e1, e2, e3, m3, m4, hne, hI1, hI2, hpre, hsz, hR, hs, l1, l2⟩
      obtain ⟨ny, nd, N₂, s1, s2⟩ := norm_led N₁
      clear N₁ N9 F9
      replace F₁ := fr_put3 F₁ e1 e2 e3
      replace m3 := s1 _ m3
      replace m4 := s1 _ m4
      replace hs : ∀ e ∈ news, e ∈ ny := fun e he => s1 _ (hs e he)
      clear s1 s2 e1 e2 e3
      have hp := congrArg List.length hpre
      rw [List.length_append, Fo.pre_length, Fo.pre_length] at hp
      have hf := IntsAre.length hI1
      cases G' with
      | nil =>
        rw [show (Fo.tops Fo.nil).reverse = [] from rfl] at hI2
        k_steps
        rename News _ _ _ _ => N9
        rename Fr _ _ _ _ => F9
        rw [show Fo.nil.pre = [] from rfl, List.append_nil] at hpre
        exact hret fa fv c1 _ _ _ F9 N9 (by k_mem) (hpre ▸ hI1) (by kd_subs) l1
      | cons j ats kids rest =>
        rw [show (Fo.tops (Fo.cons j ats kids rest)).reverse = (rest.tops).reverse ++ [(j : Int)] from by show ((j : Int) :: rest.tops).reverse = _; rw [List.reverse_cons]] at hI2
        obtain ⟨⟨dj, hj, hcj, _, _⟩, hRk, hRr⟩ := hR
        have hj' : T.ns[((j : Nat) : Int).toNat]? = some dj := by rw [Int.toNat_natCast]; exact hj
        have hnj := hT.ns dj (List.mem_of_getElem? hj)
        have zj := hnj.chZ
        have hl := IntsAre.length hI2
        rw [List.length_append, List.length_reverse, List.length_singleton] at hl
        have htl := Fo.tops_le rest
        have hsz2 : kids.size + rest.size + 1 = k := hsz
        have hIj := hnj.chI
        rw [hcj] at hIj
        k_steps
        rename News _ _ _ _ => N9
        rename Fr _ _ _ _ => F9
        rename IntsAre (List.dropLast _) _ => hI3
        refine ⟨_, _, _, _, (kids.app rest).size, rfl, F9, N9, by rw [Fo.app_size]; omega, fa, la, fv ++ [_], lv.dropLast ++ dj.chV.reverse, _, _, kids.app rest, dn ++ [(j : Int)], rfl, rfl, rfl, by k_mem, by k_mem, hne, hI1.append (.cons _ _ .nil), ?_, ?_, rfl, hRk.app hRr, by kd_subs, l1, l2⟩
        · rw [Fo.app_tops, List.reverse_append]
          exact hI3.append hIj.reverse
        · rw [Fo.app_pre, ← hpre]
          show _ = dn ++ ((j : Int) :: (kids.pre ++ rest.pre))
          simp
  have s_all_nodes_spec : all_nodes_spec_S main_law.heap_1_39 main_law.view_1_40 := by
    as_aux_lemma =>
    intro prog w mean mg mb dp un gd cn cs a ccd cl outer A₀ base h₀ L m news s Q E T d i tk G B F X N Tp hk hdp hu hT h0 hi hG hch hz hz2 hret
    refine wpAny_call ?_
    k_dflt ktr_enter
    k_steps
    show wpAny _ _ _ _ _ _
    rename_i D9 vs9 n9 h9 tk9 news9 F9 N9 hm9 hI9 hs9 l9
    have hlen := IntsAre.length hI9
    rw [Fo.pre_length] at hlen
    refine kdl_iter (fun k m₁ nx => ∃ fa fv c1, m₁ (Str.ofString "tree") = some (.ref T.t) ∧ m₁ (Str.ofString "found") = some (.ref fa) ∧ (fa, listOf (List.toArray fv) c1) ∈ nx ∧ IntsAre fv (i :: (G.pre.take k).flatMap (fun j => j :: attsOf T.ns j)) ∧
      (∀ e ∈ news, e ∈ nx) ∧ (∀ p ∈ news, p.1 < fa) ∧ fa ≠ D9) rfl hm9 F9 N9 ?_ ?_ ?_
    · exact ⟨_, [_], _, rfl, rfl, hs9 _ (by k_mem), .cons _ _ .nil, fun e he => hs9 _ (.tail _ he), by assumption, by k_ne⟩
    · rintro k v m₁ nx h₁ tk₁ own hv hoff hl ⟨fa, fv, c1, e1, e2, m3, hI1, hs, l1, hne⟩ F₁ N₁
      have hkl : k < G.pre.length := by
        have := (List.getElem?_eq_some_iff.mp hv).1
        rw [Fo.pre_length]; omega
      obtain ⟨t9, ht⟩ := hI9.get k _ (List.getElem?_eq_getElem hkl)
      rw [ht] at hv
      cases hv
      have hkt : G.pre.take (k + 1) = G.pre.take k ++ [G.pre[k]] := by rw [List.take_add_one, List.getElem?_eq_getElem hkl]; rfl
      have hjm := List.getElem_mem hkl
      generalize G.pre[k] = j at hkt hjm ht F₁
      obtain ⟨dj, hj0, hj⟩ := Fo.pre_mem hG j hjm
      have hnj := hT.ns dj (List.mem_of_getElem? hj)
      have zj := hnj.atZ
      have hatt : attsOf T.ns j = if dj.kind = Str.ofString "element" then dj.atI else [] := by unfold attsOf; rw [hj]
      obtain ⟨ny, nd, N₂, s1, s2⟩ := norm_led N₁
      have hoff' : ∀ p ∈ own, p.1 ≠ fa := fun p hp => hoff p hp fa (List.mem_map.mpr ⟨_, m3, rfl⟩)
      have hoffD : ∀ p ∈ own, p.1 ≠ D9 := fun p hp => hoff p hp D9 (List.mem_map.mpr ⟨_, hl, rfl⟩)
      have hoffn : ∀ p ∈ own, ∀ e ∈ news, p.1 ≠ e.1 := fun p hp e he => hoff p hp e.1 (List.mem_map.mpr ⟨_, hs e he, rfl⟩)
      replace F₁ := fr_put2 F₁ (x := Str.ofString "tree") (y := Str.ofString "found") (by rw [if_neg (by decide)]; exact e1) (by rw [if_neg (by decide)]; exact e2)
      replace m3 := s1 _ (List.mem_append_left _ m3)
      replace hl := s1 _ (List.mem_append_left _ hl)
      replace hs : ∀ e ∈ news, e ∈ ny := fun e he => s1 _ (List.mem_append_left _ (hs e he))
      have ho : Hid (∀ e ∈ own, e ∈ ny) := ⟨fun e he => s1 _ (List.mem_append_right _ he)⟩
      have hlf := IntsAre.length hI1
      have hzf : fv.length < 2000 := by
        have e : (G.pre.take k).flatMap (fun j => j :: attsOf T.ns j) ++ (G.pre.drop k).flatMap (fun j => j :: attsOf T.ns j) = G.all := by
          rw [← List.flatMap_append, List.take_append_drop, Fo.all_pre hG]
        have e2 := congrArg List.length e
        rw [List.length_append] at e2
        rw [List.length_cons] at hlf
        omega
      clear N₁ N9 F9 e1 e2 s1 s2 hm9 hs9
      k_steps
      · rename News _ _ _ _ => N8
        rename Fr _ _ _ _ => F8
        rename (_ == _) = true => hq
        rename_i c9
        rw [if_pos (eq_of_beq hq)] at hatt
        refine ⟨_, _, _, _, (fa, listOf (List.toArray (fv ++ [Value.int j t9] ++ dj.atV)) c9) :: (D9, listOf vs9.toArray n9) :: news, rfl, F8, N8, ?_, ?_, ?_, .tail _ (.head _), fa, _, _, rfl, rfl, .head _, ?_, fun e he => .tail _ (.tail _ he), l1, hne⟩
        · refine List.forall_mem_cons.mpr ⟨by k_mem, List.forall_mem_cons.mpr ⟨by k_mem, by kd_subs⟩⟩
        · have ho' := ho.out
          kd_subs
        · intro p hp b hb
          rcases List.mem_cons.mp hb with rfl | hb
          · exact hoff' p hp
          · rcases List.mem_cons.mp hb with rfl | hb
            · exact hoffD p hp
            · obtain ⟨e, he, rfl⟩ := List.mem_map.mp hb
              exact hoffn p hp e he
        · rw [hkt, List.flatMap_append, List.flatMap_cons, List.flatMap_nil, List.append_nil, hatt]
          have q := (hI1.append (.cons j t9 .nil)).append hnj.atI
          simpa using q
      · rename News _ _ _ _ => N8
        rename Fr _ _ _ _ => F8
        rename (_ == _) = false => hq
        rw [if_neg (by intro h; rw [h] at hq; simp at hq)] at hatt
        refine ⟨_, _, _, _, (fa, listOf (List.toArray (fv ++ [Value.int j t9])) (c1 + 1)) :: (D9, listOf vs9.toArray n9) :: news, rfl, F8, N8, ?_, ?_, ?_, .tail _ (.head _), fa, _, _, rfl, rfl, .head _, ?_, fun e he => .tail _ (.tail _ he), l1, hne⟩
        · refine List.forall_mem_cons.mpr ⟨by k_mem, List.forall_mem_cons.mpr ⟨by k_mem, by kd_subs⟩⟩
        · have ho' := ho.out
          kd_subs
        · intro p hp b hb
          rcases List.mem_cons.mp hb with rfl | hb
          · exact hoff' p hp
          · rcases List.mem_cons.mp hb with rfl | hb
            · exact hoffD p hp
            · obtain ⟨e, he, rfl⟩ := List.mem_map.mp hb
              exact hoffn p hp e he
        · rw [hkt, List.flatMap_append, List.flatMap_cons, List.flatMap_nil, List.append_nil, hatt]
          have q := hI1.append (.cons j t9 .nil)
          simpa using q
    · rintro m₁ nx h₁ tk₁ ⟨fa, fv, c1, e1, e2, m3, hI1, hs, l1, hne⟩ F₁ N₁
      replace F₁ := fr_put2 F₁ e1 e2
      k_steps
      rename News _ _ _ _ => N8
      rename Fr _ _ _ _ => F8
      rw [hlen, ← Fo.pre_length, List.take_length, Fo.all_pre hG] at hI1
      exact hret fa fv c1 _ _ _ F8 N8 m3 hI1 hs l1
  have s_node_spec : node_spec_S main_law.heap_1_39 main_law.view_1_40 := by
    as_aux_lemma =>
    intro prog w mean mg mb dp un gd cn cs a ccd cl outer A₀ base h₀ L m news s Q E kind name uri loc val k0 k1 k2 k3 k4 par B F X N Tp hk hdp hu hret
    k_dflt (refine' call_cls ?k1 ?k2 ?k3 ?k4 ?k5 ?k6 ?_)
    case k1 => k_asm
    case k2 => k_asm
    case k3 => k_asm
    case k4 => k_is
    case k5 => k_is
    case k6 => k_is
    intro x9 d9 h9 F1 N1 l1 l2
    replace l2 := ltN l2
    k_dflt ktr_enter
    k_steps
    rename News _ _ _ _ => N9
    rename Fr _ _ _ _ => F9
    refine hret (TN.mk _ _ _ _ _ _ (PyData.keyHash w.params (Str.ofString "kind")) (PyData.keyHash w.params (Str.ofString "name")) (PyData.keyHash w.params (Str.ofString "uri")) (PyData.keyHash w.params (Str.ofString "local")) (PyData.keyHash w.params (Str.ofString "value")) (PyData.keyHash w.params (Str.ofString "parent")) (PyData.keyHash w.params (Str.ofString "children")) (PyData.keyHash w.params (Str.ofString "attributes")) (PyData.keyHash w.params (Str.ofString "namespaces")) _ _ _ _ _ _ _ _ _ _ _ _ _ _ _ _ _ _ _ _ [] [] [] _ _ _ [] [] []) _ _ F9 N9 rfl rfl rfl rfl rfl rfl ⟨?_, ?_, ?_, ?_, ?_, rfl, rfl, rfl, rfl, rfl, rfl⟩
    all_goals (dsimp only; first | assumption | exact lt_mem (by assumption) (by k_mem))
  have ph4 : Ph 4 := ⟨⟩
  have s_new_row_spec : new_row_spec_S main_law.heap_1_39 main_law.view_1_40 := by
    as_aux_lemma =>
    intro prog w mean mg mb dp un gd cn cs a ccd cl outer A₀ base h₀ L m news s Q E T kind name uri loc val k0 k1 k2 k3 k4 par B F X N Tp hk hdp hu nd hT hret
    have hz := hT.z
    refine wpAny_call ?_
    k_dflt ktr_enter
    k_steps
    rename News _ _ _ _ => N9
    rename Fr _ _ _ _ => F9
    have e : ∀ v : Value, (((T.ns.map fun (d : TN) => Value.ref d.inst) ++ [v]).length : Int) - 1 = (T.ns.length : Int) := by intro v; simp
    rw [e]
    exact hret _ _ _ _ F9 N9 (by assumption) (by assumption) (by assumption) (by assumption) (by assumption) (by assumption) (by assumption)
  have s_tree_spec : tree_spec_S main_law.heap_1_39 main_law.view_1_40 := by
    as_aux_lemma =>
    intro prog w mean mg mb dp un gd cn cs a ccd cl outer A₀ base h₀ L m news s Q E B F X N Tp hk hdp hu hret
    k_dflt (refine' call_cls ?k1 ?k2 ?k3 ?k4 ?k5 ?k6 ?_)
    case k1 => k_asm
    case k2 => k_asm
    case k3 => k_asm
    case k4 => k_is
    case k5 => k_is
    case k6 => k_is
    intro x9 d9 h9 F1 N1 l1 l2
    replace l2 := ltN l2
    k_dflt ktr_enter
    k_steps
    rename (∀ p ∈ _ :: _ :: news, p.fst < _) => l3
    rename News _ _ _ _ => N8
    rename Fr _ _ _ _ => F8
    exact hret x9 d9 _ _ _ _ _ _ F8 N8 ⟨l1, l2, l3 _ (.head _)⟩
  have ph6 : Ph 6 := ⟨⟩
  have ph7 : Ph 7 := ⟨⟩
  have s_new_row_st : new_row_st_S main_law.heap_1_39 main_law.view_1_40 := by
    as_aux_lemma =>
    intro prog w mean mg mb dp un gd cn cs a ccd cl outer A₀ base h₀ L m news s Q E σ lab b kind name uri loc val k0 k1 k2 k3 k4 par B F X N Tp hk hdp hu t e nd H P hb hret
    subst e
    refine new_row_spec_use (by with_reducible assumption) B F X N Tp hk hdp hu nd (H.tree P (by omega)) fun d tk h' tk' F' N' q0 q1 q2 q3 q4 q5 fr => ?_
    obtain ⟨lab', H', St⟩ := H.addNode fr
    exact hret d tk lab' _ h' tk' F' N' (fr.set.nd nd.set) H' St (P.addNode fr) q0 q1 q2 q3 q4 q5 fr.c.2.2.2
  have s_add_child_st : add_child_st_S main_law.heap_1_39 main_law.view_1_40 := by
    as_aux_lemma =>
    intro prog w mean mg mb dp un gd cn cs a ccd cl outer A₀ base h₀ L m news s Q E σ lab b kind name uri loc val k0 k1 k2 k3 k4 p i tk B F X N Tp hk hdp hu t e nd H P hb h0 hi hp hret
    subst e
    have hT := H.tree P (by omega)
    have hn := hT.ns p (List.mem_of_getElem? hi)
    refine wpAny_call ?_
    k_dflt ktr_enter
    k_steps
    show wpAny _ _ _ _ _ _
    rename_i d9 tk9 lab9 news9 h9 tk99 F9 N9 nd9 H9 St9 P9 q0 q1 q2 q3 q4 q5 q6
    have hT9 := H9.tree P9 (by omega)
    have hi9 : (σ.addNode d9).T.ns[i.toNat]? = some p := by
      show (σ.T.ns ++ [d9])[i.toNat]? = some p
      rw [List.getElem?_append_left (List.getElem?_eq_some_iff.mp hi).1]; exact hi
    have t1 : (σ.T.t, instObj 274 σ.T.dt) ∈ news9 := hT9.t
    have t2 : (σ.T.dt, dictOf [⟨σ.T.hr, .str (Str.ofString "rows") σ.T.tr, .ref σ.T.R⟩] σ.T.n1) ∈ news9 := hT9.dt
    have t3 : (σ.T.R, listOf ((σ.addNode d9).T.ns.map fun (d : TN) => Value.ref d.inst).toArray (σ.T.nR + 1)) ∈ news9 := hT9.R
    have t4 := hT9.row hi9
    have t5 := hT9.ns p (List.mem_of_getElem? hi9)
    have t6 := t5.chZ
    have t7 : i < (σ.T.ns.length : Int) := lt_of_row h0 hi
    have t8 := P.z
    k_steps
    rename News _ _ _ _ => N8
    rename Fr _ _ _ _ => F8
    obtain ⟨H8, S8⟩ := H9.pushCh (.int (σ.T.ns.length : Int) tk9) (σ.T.ns.length : Int) hi9
    exact hret d9 tk9 tk9 lab9 _ _ _ F8 N8 nd9.set H8 (St9.trans S8) ((P9.le (Nat.le_succ _)).setNode ((P9.n p (List.mem_of_getElem? hi9)).pushCh)) q0 q3 q6
  have s_add_element_st : add_element_st_S main_law.heap_1_39 main_law.view_1_40 := by
    as_aux_lemma =>
    intro prog w mean mg mb dp un gd cn cs a ccd cl outer A₀ base h₀ L m news s Q E σ lab b name uri loc k1 k2 k3 p i tk B F X N Tp hk hdp hu t e nd H P hb h0 hi hp hret
    subst e
    have hT := H.tree P (by omega)
    refine wpAny_call ?_
    k_dflt ktr_enter
    k_steps
    rename News _ _ _ _ => N8
    rename Fr _ _ _ _ => F8
    exact hret _ _ _ _ _ _ _ F8 N8 (by assumption) (by assumption) (by assumption) (by assumption) (by assumption) (by assumption) (by assumption)
  have s_add_text_st : add_text_st_S main_law.heap_1_39 main_law.view_1_40 := by
    as_aux_lemma =>
    intro prog w mean mg mb dp un gd cn cs a ccd cl outer A₀ base h₀ L m news s Q E σ lab b val k4 p i tk B F X N Tp hk hdp hu t e nd H P hb h0 hi hp hret
    subst e
    have hT := H.tree P (by omega)
    refine wpAny_call ?_
    k_dflt ktr_enter
    k_steps
    rename News _ _ _ _ => N8
    rename Fr _ _ _ _ => F8
    exact hret _ _ _ _ _ _ _ F8 N8 (by assumption) (by assumption) (by assumption) (by assumption) (by assumption) (by assumption) (by assumption)
  have s_add_comment_st : add_comment_st_S main_law.heap_1_39 main_law.view_1_40 := by
    as_aux_lemma =>
    intro prog w mean mg mb dp un gd cn cs a ccd cl outer A₀ base h₀ L m news s Q E σ lab b val k4 p i tk B F X N Tp hk hdp hu t e nd H P hb h0 hi hp hret
    subst e
    have hT := H.tree P (by omega)
    refine wpAny_call ?_
    k_dflt ktr_enter
    k_steps
    rename News _ _ _ _ => N8
    rename Fr _ _ _ _ => F8
    exact hret _ _ _ _ _ _ _ F8 N8 (by assumption) (by assumption) (by assumption) (by assumption) (by assumption) (by assumption) (by assumption)
  have s_add_instruction_st : add_instruction_st_S main_law.heap_1_39 main_law.view_1_40 := by
    as_aux_lemma =>
    intro prog w mean mg mb dp un gd cn cs a ccd cl outer A₀ base h₀ L m news s Q E σ lab b name val k1 k4 p i tk B F X N Tp hk hdp hu t e nd H P hb h0 hi hp hret
    subst e
    have hT := H.tree P (by omega)
    refine wpAny_call ?_
    k_dflt ktr_enter
    k_steps
    rename News _ _ _ _ => N8
    rename Fr _ _ _ _ => F8
    exact hret _ _ _ _ _ _ _ F8 N8 (by assumption) (by assumption) (by assumption) (by assumption) (by assumption) (by assumption) (by assumption)
  have s_new_root_st : new_root_st_S main_law.heap_1_39 main_law.view_1_40 := by
    as_aux_lemma =>
    intro prog w mean mg mb dp un gd cn cs a ccd cl outer A₀ base h₀ L m news s Q E σ lab b B F X N Tp hk hdp hu t e nd H P hb hret
    subst e
    have hT := H.tree P (by omega)
    refine wpAny_call ?_
    k_dflt ktr_enter
    k_steps
    unfold Halt
    k_steps
    rename News _ _ _ _ => N8
    rename Fr _ _ _ _ => F8
    exact hret _ _ _ _ _ _ F8 N8 (by assumption) (by assumption) (by assumption) (by assumption) (by assumption) (by assumption)
  have s_set_attribute_st : set_attribute_st_S main_law.heap_1_39 main_law.view_1_40 := by
    as_aux_lemma =>
    intro prog w mean mg mb dp un gd cn cs a ccd cl outer A₀ base h₀ L m news s Q E σ lab b name uri loc val k1 k2 k3 k4 p i tk B F X N Tp hk hdp hu t e nd H P hb h0 hi hp hat hret
    subst e
    have hT := H.tree P (by omega)
    have hn := hT.ns p (List.mem_of_getElem? hi)
    refine wpAny_call ?_
    k_dflt ktr_enter
    have hne : (p.kind != Str.ofString "element") = false := by rw [hp]; rfl
    k_steps
    show wpAny _ _ _ _ _ _
    rename News _ _ _ _ => N9
    rename Fr _ _ _ _ => F9
    have m5 := hn.at_
    refine iter_off [Str.ofString "known"] rfl m5 F9 N9 ?_ ?_
    · intro k v m₁ ny h tk hv ndy hs F₁ N₁
      have hkl : k < p.atI.length := by
        have := (List.getElem?_eq_some_iff.mp hv).1
        have := IntsAre.length hn.atI
        omega
      obtain ⟨t9, ht⟩ := hn.atI.get k _ (List.getElem?_eq_getElem hkl)
      rw [ht] at hv
      cases hv
      obtain ⟨hj0, dj, hj, hjl⟩ := hat _ (List.getElem_mem hkl)
      generalize p.atI[k] = j at hj0 hj ht F₁
      have hnj := hT.ns dj (List.mem_of_getElem? hj)
      have t4 := hT.row hj
      have t7 : j < (σ.T.ns.length : Int) := lt_of_row hj0 hj
      have t8 := P.z
      have hq : (dj.loc == loc) = false := by simpa using hjl
      clear N9 F9
      k_steps
      all_goals
        rename News _ _ _ _ => N9
        rename Fr _ _ _ _ => F9
        refine StaticPost.of F9 N9 fun z h1 h2 => ?_
        have h3 : z ≠ Str.ofString "known" := fun e => by rw [e] at h1; exact absurd h1 (by decide)
        simp only [if_neg h3, if_neg h2, h1, Bool.false_eq_true, if_false]
    · intro m₁ h tk F₁ N₁
      clear N9 F9
      k_steps
      unfold Halt
      rename_i d9 tk9 lab9 news9 h9 tk99 F9 N9 nd9 H9 St9 P9 q0 q1 q2 q3 q4 q5 q6
      have hT9 := H9.tree P9 (by omega)
      have hi9 : (σ.addNode d9).T.ns[i.toNat]? = some p := by
        show (σ.T.ns ++ [d9])[i.toNat]? = some p
        rw [List.getElem?_append_left (List.getElem?_eq_some_iff.mp hi).1]; exact hi
      have t5 := hT9.ns p (List.mem_of_getElem? hi9)
      have t6 := t5.atZ
      k_steps
      rename News _ _ _ _ => N8
      rename Fr _ _ _ _ => F8
      obtain ⟨H8, S8⟩ := H9.pushAt (.int (σ.T.ns.length : Int) tk9) (σ.T.ns.length : Int) hi9
      exact hret d9 tk9 tk9 lab9 _ _ _ F8 N8 nd9.set H8 (St9.trans S8) ((P9.le (Nat.le_succ _)).setNode ((P9.n p (List.mem_of_getElem? hi9)).pushAt)) q0 q3 q6
  have s_add_namespace_st : add_namespace_st_S main_law.heap_1_39 main_law.view_1_40 := by
    as_aux_lemma =>
    intro prog w mean mg mb dp un gd cn cs a ccd cl outer A₀ base h₀ L m news s Q E σ lab b name uri k1 k2 p i tk B F X N Tp hk hdp hu t e nd H P hb h0 hi hp hns hret1 hret
    subst e
    have hT := H.tree P (by omega)
    have hn := hT.ns p (List.mem_of_getElem? hi)
    refine wpAny_call ?_
    k_dflt ktr_enter
    have hne : (p.kind != Str.ofString "element") = false := by rw [hp]; rfl
    k_steps
    show wpAny _ _ _ _ _ _
    rename News _ _ _ _ => N9
    rename Fr _ _ _ _ => F9
    have m5 := hn.ns
    refine iter_off [] rfl m5 F9 N9 ?_ ?_
    · intro k v m₁ ny h tk hv ndy hs F₁ N₁
      have hkl : k < p.nsI.length := by
        have := (List.getElem?_eq_some_iff.mp hv).1
        have := IntsAre.length hn.nsI
        omega
      obtain ⟨t9, ht⟩ := hn.nsI.get k _ (List.getElem?_eq_getElem hkl)
      rw [ht] at hv
      cases hv
      obtain ⟨hj0, hjl⟩ := hns _ (List.getElem_mem hkl)
      generalize p.nsI[k] = j at hj0 hjl ht F₁
      obtain ⟨dj, hj⟩ : ∃ dj, σ.T.ns[j.toNat]? = some dj := ⟨_, List.getElem?_eq_getElem (by omega)⟩
      have hnj := hT.ns dj (List.mem_of_getElem? hj)
      have t4 := hT.row hj
      have t7 : j < (σ.T.ns.length : Int) := lt_of_row hj0 hj
      have t8 := P.z
      clear N9 F9
      k_steps
      · k_dflt (refine' set_dict ?k1 ?k2 ?k3 ?k4 ?k5 ?k6 ?k7 ?k8 ?k9 ?k10 ?k11 ?k12 ?k13 ?_)
        case k1 => k_asm
        case k2 => k_asm
        case k3 => k_asm
        case k4 => k_inst
        case k5 => exact rfl
        case k6 => k_is
        case k7 => k_is
        case k8 => k_is
        case k9 => k_is
        case k10 => exact put_value_get dj
        case k11 => exact put_value dj _ _ uri k2
        case k12 => exact upd_set ndy (hs _ hnj.dict)
        case k13 => exact Nat.le_of_ble_eq_true rfl
        intro h' F' N'
        k_steps
        refine StaticPost.ret ?_
        dsimp only
        rename News _ _ _ _ => N9
        rename Fr _ _ _ _ => F9
        obtain ⟨H8, S8⟩ := (H.mono hs).putVal uri k2 hj
        k_steps
        rename News _ _ _ _ => N7
        rename Fr _ _ _ _ => F7
        exact hret1 j dj t9 k2 lab _ _ _ F7 N7 ndy.set H8 ((Step.of_sub hs).trans S8) ((P.setNode (P.n dj (List.mem_of_getElem? hj)).putVal).le (by omega)) hj
      · rename News _ _ _ _ => N9
        rename Fr _ _ _ _ => F9
        refine StaticPost.of F9 N9 fun z h1 h2 => ?_
        simp only [if_neg h2, h1, Bool.false_eq_true, if_false]
    · intro m₁ h tk F₁ N₁
      clear N9 F9
      k_steps
      unfold Halt
      rename_i d9 tk9 lab9 news9 h9 tk99 F9 N9 nd9 H9 St9 P9 q0 q1 q2 q3 q4 q5 q6
      have hT9 := H9.tree P9 (by omega)
      have hi9 : (σ.addNode d9).T.ns[i.toNat]? = some p := by
        show (σ.T.ns ++ [d9])[i.toNat]? = some p
        rw [List.getElem?_append_left (List.getElem?_eq_some_iff.mp hi).1]; exact hi
      have t5 := hT9.ns p (List.mem_of_getElem? hi9)
      have t6 := t5.nsZ
      k_steps
      rename News _ _ _ _ => N8
      rename Fr _ _ _ _ => F8
      obtain ⟨H8, S8⟩ := H9.pushNs (.int (σ.T.ns.length : Int) tk9) (σ.T.ns.length : Int) hi9
      exact hret d9 tk9 tk9 lab9 _ _ _ F8 N8 nd9.set H8 (St9.trans S8) ((P9.le (Nat.le_succ _)).setNode ((P9.n p (List.mem_of_getElem? hi9)).pushNs)) q0 q3 q6
  have ph11 : Ph 11 := ⟨⟩
  have s_take_st : take_st_S main_law.heap_1_39 main_law.view_1_40 := by
    as_aux_lemma =>
    intro prog w mean mg mb dp un gd cn cs a ccd cl outer A₀ base h₀ L m news s Q E σ lab top tk B F X N Tp hk hdp hu t e nd H ht ht2 hret
    subst e
    have m1 := (H.ent _ _ _ .src).1
    refine wpAny_call ?_
    k_dflt ktr_enter
    k_steps
    · rename News _ _ _ _ => N9
      rename Fr _ _ _ _ => F9
      obtain ⟨H8, S8⟩ := H.setSrc (σ.sa.fdiv top) σ.sb _ σ.tb
      exact hret _ _ _ _ _ _ _ _ _ F9 N9 nd.set H8 S8 (Int.fmod_nonneg_of_pos _ ht) (Int.fmod_lt_of_pos _ ht)
    · rename News _ _ _ _ => N9
      rename Fr _ _ _ _ => F9
      obtain ⟨H8, S8⟩ := H.setSrc σ.sa ((σ.sb * 39373 + 7).fmod 2147483647) σ.ta _
      exact hret _ _ _ _ _ _ _ _ _ F9 N9 nd.set H8 S8 (Int.fmod_nonneg_of_pos _ ht) (Int.fmod_lt_of_pos _ ht)
  have ph12 : Ph 12 := ⟨⟩
  have s_one_st : one_st_S main_law.heap_1_39 main_law.view_1_40 := by
    as_aux_lemma =>
    intro prog w mean mg mb dp un gd cn cs a ccd cl outer A₀ base h₀ L m news s Q E σ lab l vs nn B F X N Tp hk hdp hu t e nd H hl hlab hz0 hz1 hret
    subst e
    refine wpAny_call ?_
    k_dflt ktr_enter
    k_steps
    show wpAny _ _ _ _ _ _
    rename_i v9 tk9 a9 b9 ta9 tb9 news9 h9 tk99 F9 N9 nd9 H9 St9 q0 q1
    have m9 := St9.keep _ hl hlab
    obtain ⟨x, hx⟩ : ∃ x, vs[v9.toNat]? = some x := ⟨_, List.getElem?_eq_getElem (by omega)⟩
    k_steps
    rename News _ _ _ _ => N8
    rename Fr _ _ _ _ => F8
    exact hret _ _ _ _ _ _ _ _ _ hx F8 N8 nd9 H9 St9
  have s_pool_st : pool_st_S main_law.heap_1_39 main_law.view_1_40 := by
    as_aux_lemma =>
    intro prog w mean mg mb dp un gd cn cs a ccd cl outer A₀ base h₀ L m news s Q E tk l vs ns B F X N Tp hk hdp hu hL hI hz hret
    refine wpAny_call ?_
    k_dflt ktr_enter
    have hL2 := Fr.lst (h₀ := h₀) (m := m) (by assumption) hL
    k_steps
    all_goals
      rename News _ _ _ _ => N8
      rename Fr _ _ _ _ => F8
      exact hret _ _ _ _ _ _ _ _ F8 N8 (by assumption)
  have ph15 : Ph 15 := ⟨⟩
  have ph16 : Ph 16 := ⟨⟩
  have s_deed_st : deed_st_S main_law.heap_1_39 main_law.view_1_40 := by
    as_aux_lemma =>
    intro prog w mean mg mb dp un gd cn cs a ccd cl outer A₀ base h₀ L m news s Q E σ lab b B F X N Tp hk hdp hu src t rl q1 q2 q3 nd H P hb hR Iv r0 hel hret
    have hT := H.tree P (by omega)
    have m1 := (H.ent _ _ _ .src).1
    have m2 := (H.ent _ _ _ .rl).1
    subst q1 q2 q3
    refine wpAny_call ?_
    k_dflt (refine' code_defC ?k1 ?k2 ?k3 ?k4 ?k5 ?kA ?kF ?kK ?k6 ?k7 ?k8 ?k9 ?kB ?kD ?_ ?c2 ?c3 ?c4; (case kA => exact rfl); (case kF => exact rfl); (case kK => assumption); (case k1 => k_asm); (case k2 => k_asm); (case k3 => k_asm); (case k4 => k_asm); (case k5 => k_asm); (case k6 => k_is); (case k7 => k_is); (case k8 => ktr_room); (case k9 => exact BindsTo.of_eq rfl); (case kB => exact rfl); (case kD => decide +kernel); (case c2 => exact rfl); (case c3 => exact rfl); (case c4 => exact rfl); k_whole; intro g9 L9 h9 tk9 cells9 FG9 F9 N9 Y9 B9 X9 T9 l9; have hY := CellsAre.one Y9; obtain ⟨o9, hE9, d9⟩ := hY; subst hE9; clear Y9; (try simp only [List.cons_append, List.nil_append] at N9); (try dsimp only); (try k_fold))
    k_steps
    unfold Halt
    have nd9 : ND ((L9 + 1, o9) :: news) := nd.cons fun p hp => Nat.lt_succ_of_lt (l9 p hp)
    refine comp_J (fun i ys nx => ys = ((σ.rows.take i).filter (isEl σ.T.ns)).map (fun (r : RW) => Value.ref r.addr) ∧ ∀ e ∈ (L9 + 1, o9) :: news, e ∈ nx) ?_ ?_ _ _ _ _ (Nat.zero_add _) ⟨by simp, fun _ h => h⟩ (.inr ⟨_, sub_cons (fun _ h => h) _ m2, rfl, _, rfl⟩)
    · rintro i ys nx v I oI C oC D m₂ h tk E' hi ⟨rfl, hs⟩ hS hv hC hx F₁ N₁ off ⟨ne1, ne2, ne3⟩
      have hil : i < σ.rows.length := by simpa using hi
      obtain ⟨r, hr⟩ : ∃ r, σ.rows[i]? = some r := ⟨_, List.getElem?_eq_getElem hil⟩
      have hv' : v = Value.ref r.addr := by
        rw [List.getElem?_toArray, List.getElem?_map, hr] at hv
        exact (Option.some.inj hv).symm
      subst hv'
      have hc9 : (L9 + 1, o9) ∈ nx := hs _ (.head _)
      replace hs : ∀ e ∈ news, e ∈ nx := fun e he => hs e (.tail _ he)
      obtain ⟨h0, d, hd, _⟩ := Iv.node r (List.mem_of_getElem? hr)
      have e1 := (H.ent _ _ _ (.row hr)).1
      unfold RW.items at e1
      have e2 := isEl_of hd
      have e3 := filt_succ (f := isEl σ.T.ns) hr
      k_steps
      · rename News _ _ _ _ => N8
        rename Fr _ _ _ _ => F8
        rename (d.kind == _) = true => hb1
        exact ⟨_, _, nx, rfl, F8, N8, off, hS, by rw [e3, if_pos (e2.trans hb1), List.map_append]; rfl, fun e he => by rcases List.mem_cons.mp he with rfl | he; exact hc9; exact hs e he⟩
      · rename News _ _ _ _ => N8
        rename Fr _ _ _ _ => F8
        rename (d.kind == _) = false => hb1
        exact ⟨_, _, nx, rfl, F8, N8, off, hS, by rw [e3, if_neg (by rw [e2, hb1]; decide)], fun e he => by rcases List.mem_cons.mp he with rfl | he; exact hc9; exact hs e he⟩
    · rintro ys nx ⟨rfl, hs⟩
      intro D h tk F8 N8 off
      rw [List.size_toArray, List.length_map, List.take_length] at N8
      obtain ⟨ny, ndy, N7, s1, s2⟩ := norm_led N8
      have mD : (D, listOf ((σ.rows.filter (isEl σ.T.ns)).map (fun (r : RW) => Value.ref r.addr)).toArray _) ∈ ny := s1 _ (.head _)
      have mc : (L9 + 1, o9) ∈ ny := s1 _ (.tail _ (hs _ (.head _)))
      have hs7 : ∀ e ∈ news, e ∈ ny := fun e he => s1 _ (.tail _ (hs _ (.tail _ he)))
      have H7 := H.mono hs7
      have lD : lab D = .no := by
        cases e : lab D <;> first | rfl | (exact absurd (H.sup D (by rw [e]; intro q; cases q)) (fun ⟨o, ho⟩ => off1_mem off _ (hs _ (.tail _ ho)) rfl))
      have lc : lab (L9 + 1) = .no := H.fresh fun p hp => Nat.lt_succ_of_lt (l9 p hp)
      have T7 := H7.tree P (by omega)
      have z1 : ((σ.rows.filter (isEl σ.T.ns)).map (fun (r : RW) => Value.ref r.addr)).length < 1000 := by
        rw [List.length_map]; have := List.length_filter_le (isEl σ.T.ns) σ.rows; omega
      have z0 : 0 < ((σ.rows.filter (isEl σ.T.ns)).map (fun (r : RW) => Value.ref r.addr)).length := by
        rw [List.length_map]; exact List.length_pos_of_mem (List.mem_filter.mpr hel)
      clear N8 F9 N9 s1 s2 off hs
      k_steps
      unfold Halt
      rename_i k9 v9 a9 b9 ta9 tb9 n1 h1 tk1 q0 F1 N1 nd1 H1 St1
      obtain ⟨j, r, hr, hre, rfl⟩ : ∃ j r, σ.rows[j]? = some r ∧ isEl σ.T.ns r = true ∧ v9 = Value.ref r.addr := by
        obtain ⟨r, hr, e⟩ := List.mem_map.mp (List.mem_of_getElem? q0)
        obtain ⟨hr1, hr2⟩ := List.mem_filter.mp hr
        obtain ⟨j, hj⟩ := List.mem_iff_getElem?.mp hr1
        exact ⟨j, r, hj, hr2, e.symm⟩
      clear q0 F8 N7 H7 T7 nd9
      k_steps
      unfold Halt
      rename_i v9 tk9' a8 b8 ta8 tb8 n2 h2 tk2 F2 N2 nd2 H2 St2 v0 v7
      obtain ⟨hr0, d, hd, _⟩ := Iv.node r (List.mem_of_getElem? hr)
      have hdk : d.kind = Str.ofString "element" := by rw [isEl_of hd] at hre; simpa using hre
      have St3 := (Step.of_sub hs7).trans (St1.trans St2)
      have P2 : PureT b ((σ.setSrc a9 b9 ta9 tb9).setSrc a8 b8 ta8 tb8).T := P
      have hr2 : ((σ.setSrc a9 b9 ta9 tb9).setSrc a8 b8 ta8 tb8).rows[j]? = some r := hr
      have hd2 : ((σ.setSrc a9 b9 ta9 tb9).setSrc a8 b8 ta8 tb8).T.ns[r.node.toNat]? = some d := hd
      have e1 := (H2.ent _ _ _ (.row hr2)).1
      unfold RW.items at e1
      have e2 := (H2.ent _ _ _ (.way hr2)).1
      have e3 : (σ.rl, listOf (σ.rows.map fun (r : RW) => Value.ref r.addr).toArray σ.nL) ∈ n2 := (H2.ent _ _ _ .rl).1
      have mc2 := (St1.trans St2).keep _ mc lc
      have lD2 : lab D = .no := lD
      have z2 := Iv.wl r (List.mem_of_getElem? hr)
      have hat2 := Iv.hat (List.mem_of_getElem? hd) hR
      have hns2 := Iv.nso d (List.mem_of_getElem? hd)
      have T2 := H2.tree P2 (by omega)
      have t1 : (σ.T.t, instObj 274 σ.T.dt) ∈ n2 := T2.t
      have hdk2 : d.kind = Str.ofString "root" ∨ d.kind = Str.ofString "element" := .inr hdk
      clear H1 N1 F1 nd1 St1 mD mc St2 hs7 H m1 m2 z1 z0
      k_steps
      · unfold Halt
        rename_i j5 dj5 tk5 tk6 lab5 n5 h5 tk7 F5 N5 nd5 H5 St5 P5 q5
        k_steps
        rename News _ _ _ _ => N8
        rename Fr _ _ _ _ => F8
        have ex := ext_set (x := dj5.putVal (Str.ofString "u") tk6) q5 rfl rfl rfl rfl
        exact hret _ lab5 n5 _ _ F8 N8 ⟨nd5, H5, (St3.trans (Step.of_sub (sub_cons fun _ h => h))).trans St5, rfl, rfl, rfl, P5, Iv.ext ex
          (fun d' h => by rcases List.mem_or_eq_of_mem_set h with h | rfl; exact .inr ⟨d', h, rfl⟩; exact .inr ⟨dj5, List.mem_of_getElem? q5, rfl⟩)
          (fun d' h i hi => by
            have hl : (σ.T.ns.set j5.toNat (dj5.putVal (Str.ofString "u") tk6)).length = σ.T.ns.length := List.length_set
            rw [show (((σ.setSrc a9 b9 ta9 tb9).setSrc a8 b8 ta8 tb8).setNode j5.toNat (dj5.putVal (Str.ofString "u") tk6)).T.ns = σ.T.ns.set j5.toNat (dj5.putVal (Str.ofString "u") tk6) from rfl, hl]
            rcases List.mem_or_eq_of_mem_set h with h | rfl
            · exact Iv.nso d' h i hi
            · exact Iv.nso dj5 (List.mem_of_getElem? q5) i hi), Nat.le_succ _, rkeep_ext Iv ex⟩
      · unfold Halt
        rename_i d5 tk5 tk6 lab5 n5 h5 tk7 F5 N5 nd5 H5 St5 P5 q5 q6 q7
        k_steps
        rename News _ _ _ _ => N8
        rename Fr _ _ _ _ => F8
        have hdd : (σ.T.ns ++ [d5])[r.node.toNat]? = some d := by rw [List.getElem?_append_left (List.getElem?_eq_some_iff.mp hd).1]; exact hd
        have ex := ext_trans (ext_app (x := d5)) (ext_set (x := d.pushNs (.int (σ.T.ns.length : Int) tk6) (σ.T.ns.length : Int)) hdd rfl rfl rfl rfl)
        have hl : ((σ.T.ns ++ [d5]).set r.node.toNat (d.pushNs (.int (σ.T.ns.length : Int) tk6) (σ.T.ns.length : Int))).length = σ.T.ns.length + 1 := by rw [List.length_set, List.length_append]; rfl
        exact hret _ lab5 n5 _ _ F8 N8 ⟨nd5, H5, (St3.trans (Step.of_sub (sub_cons fun _ h => h))).trans St5, rfl, rfl, rfl, P5, Iv.ext ex
          (fun d' h => by
            rcases List.mem_or_eq_of_mem_set h with h | rfl
            · rcases List.mem_append.mp h with h | h
              · exact .inr ⟨d', h, rfl⟩
              · rw [List.mem_singleton.mp h]; exact .inl q7.2.1
            · exact .inr ⟨d, List.mem_of_getElem? hd, rfl⟩)
          (fun d' h i hi => by
            show 0 ≤ i ∧ i < (((σ.T.ns ++ [d5]).set r.node.toNat (d.pushNs (.int (σ.T.ns.length : Int) tk6) (σ.T.ns.length : Int))).length : Int)
            rw [hl]
            rcases List.mem_or_eq_of_mem_set h with h | rfl
            · rcases List.mem_append.mp h with h | h
              · have := Iv.nso d' h i hi; omega
              · rw [List.mem_singleton.mp h, q7.2.2] at hi; cases hi
            · rcases List.mem_append.mp (show i ∈ d.nsI ++ [(σ.T.ns.length : Int)] from hi) with hi | hi
              · have := Iv.nso d (List.mem_of_getElem? hd) i hi; omega
              · rw [List.mem_singleton.mp hi]; omega), Nat.le_succ _, rkeep_ext Iv ex⟩
      · unfold Halt
        rename_i d5 tk5 tk6 lab5 n5 h5 tk7 F5 N5 nd5 H5 St5 P5 q5 q6 q7
        have e35 : (σ.rl, listOf (σ.rows.map fun (r : RW) => Value.ref r.addr).toArray σ.nL) ∈ n5 := (H5.ent _ _ _ .rl).1
        have e15 : (r.addr, listOf [Value.ref r.wayA, .int r.node r.k1, .int r.na r.k2, .int r.nc r.k3].toArray r.n) ∈ n5 := (H5.ent _ _ _ (.row (j := j) (r := r) hr2)).1
        have nrl : r.addr ≠ σ.rl := fun e => by
          have h1 := (H5.ent _ _ _ (.row (j := j) (r := r) hr2)).2
          have h2 := (H5.ent _ _ _ .rl).2
          rw [e] at h1; exact absurd (h1.symm.trans h2) nofun
        k_steps
        rename (∀ p ∈ n5, p.fst < _) => l7
        rename (∀ p ∈ _ :: _ :: _ :: n2, p.fst < _) => lw
        rename (∀ p ∈ _ :: n2, p.fst < _) => lt
        rename News _ _ _ _ => N8
        rename Fr _ _ _ _ => F8
        obtain ⟨σ', lab', ok⟩ := close_attr H2 H5 N8 St3 St5 hr2 hd2 hdk Iv l7 lw lt nd5 P5 q5 q6 q7
        exact hret σ' lab' _ _ _ F8 N8 ok
      · unfold Halt
        rename_i d5 tk5 tk6 lab5 n5 h5 tk7 F5 N5 nd5 H5 St5 P5 q5 q6 q7
        have e35 : (σ.rl, listOf (σ.rows.map fun (r : RW) => Value.ref r.addr).toArray σ.nL) ∈ n5 := (H5.ent _ _ _ .rl).1
        have e15 : (r.addr, listOf [Value.ref r.wayA, .int r.node r.k1, .int r.na r.k2, .int r.nc r.k3].toArray r.n) ∈ n5 := (H5.ent _ _ _ (.row (j := j) (r := r) hr2)).1
        have e25 : (r.wayA, listOf (r.way.map fun (x : WI) => Value.ref x.ta).toArray r.wayN) ∈ n5 := (H5.ent _ _ _ (.way (j := j) (r := r) hr2)).1
        have nrl : r.addr ≠ σ.rl := fun e => by
          have h1 := (H5.ent _ _ _ (.row (j := j) (r := r) hr2)).2
          have h2 := (H5.ent _ _ _ .rl).2
          rw [e] at h1; exact absurd (h1.symm.trans h2) nofun
        k_steps
        rename (∀ p ∈ _ :: _ :: _ :: n5, p.fst < _) => l7
        rename (∀ p ∈ _ :: _ :: n5, p.fst < _) => lw
        rename (∀ p ∈ _ :: n5, p.fst < _) => la
        rename (∀ p ∈ n5, p.fst < _) => lt
        rename News _ _ _ _ => N8
        rename Fr _ _ _ _ => F8
        obtain ⟨σ', lab', ok⟩ := close_child H5 N8 ((St3.trans (Step.of_sub (sub_cons fun _ h => h))).trans St5) hr2 hd2 hdk Iv l7 lw la lt nd5 P5 q7
        exact hret σ' lab' _ _ _ F8 N8 ok
      · unfold Halt
        rename_i d5 tk5 tk6 lab5 n5 h5 tk7 F5 N5 nd5 H5 St5 P5 q5 q6 q7
        have e35 : (σ.rl, listOf (σ.rows.map fun (r : RW) => Value.ref r.addr).toArray σ.nL) ∈ n5 := (H5.ent _ _ _ .rl).1
        have e15 : (r.addr, listOf [Value.ref r.wayA, .int r.node r.k1, .int r.na r.k2, .int r.nc r.k3].toArray r.n) ∈ n5 := (H5.ent _ _ _ (.row (j := j) (r := r) hr2)).1
        have e25 : (r.wayA, listOf (r.way.map fun (x : WI) => Value.ref x.ta).toArray r.wayN) ∈ n5 := (H5.ent _ _ _ (.way (j := j) (r := r) hr2)).1
        have nrl : r.addr ≠ σ.rl := fun e => by
          have h1 := (H5.ent _ _ _ (.row (j := j) (r := r) hr2)).2
          have h2 := (H5.ent _ _ _ .rl).2
          rw [e] at h1; exact absurd (h1.symm.trans h2) nofun
        k_steps
        rename (∀ p ∈ _ :: _ :: _ :: n5, p.fst < _) => l7
        rename (∀ p ∈ _ :: _ :: n5, p.fst < _) => lw
        rename (∀ p ∈ _ :: n5, p.fst < _) => la
        rename (∀ p ∈ n5, p.fst < _) => lt
        rename News _ _ _ _ => N8
        rename Fr _ _ _ _ => F8
        obtain ⟨σ', lab', ok⟩ := close_child H5 N8 ((St3.trans (Step.of_sub (sub_cons fun _ h => h))).trans St5) hr2 hd2 hdk Iv l7 lw la lt nd5 P5 q7
        exact hret σ' lab' _ _ _ F8 N8 ok
      · unfold Halt
        rename_i v5 tk5 a5 b5 ta5 tb5 n4 h4 tk4 F4 N4 nd4 H4 St4 u0 u1
        have T4 := H4.tree P2 (by omega)
        have t4 : (σ.T.t, instObj 274 σ.T.dt) ∈ n4 := T4.t
        have e35 : (σ.rl, listOf (σ.rows.map fun (r : RW) => Value.ref r.addr).toArray σ.nL) ∈ n4 := (H4.ent _ _ _ .rl).1
        have e15 : (r.addr, listOf [Value.ref r.wayA, .int r.node r.k1, .int r.na r.k2, .int r.nc r.k3].toArray r.n) ∈ n4 := (H4.ent _ _ _ (.row (j := j) (r := r) hr2)).1
        have e25 : (r.wayA, listOf (r.way.map fun (x : WI) => Value.ref x.ta).toArray r.wayN) ∈ n4 := (H4.ent _ _ _ (.way (j := j) (r := r) hr2)).1
        have nrl : r.addr ≠ σ.rl := fun e => by
          have h1 := (H4.ent _ _ _ (.row (j := j) (r := r) hr2)).2
          have h2 := (H4.ent _ _ _ .rl).2
          rw [e] at h1; exact absurd (h1.symm.trans h2) nofun
        have mc4 := St4.keep _ (.tail _ mc2) lc
        clear H2 N2 F2 T2 t1 e1 e2 e3 mc2
        k_steps
        all_goals
          unfold Halt
          rename_i d5 tk5 tk6 lab5 n5 h5 tk7 F5 N5 nd5 H5 St5 P5 q5 q6 q7
          have hr5 : ((((σ.setSrc a9 b9 ta9 tb9).setSrc a8 b8 ta8 tb8).setSrc a5 b5 ta5 tb5)).rows[j]? = some r := hr
          have f3 : (σ.rl, listOf (σ.rows.map fun (r : RW) => Value.ref r.addr).toArray σ.nL) ∈ n5 := (H5.ent _ _ _ .rl).1
          have f1 : (r.addr, listOf [Value.ref r.wayA, .int r.node r.k1, .int r.na r.k2, .int r.nc r.k3].toArray r.n) ∈ n5 := (H5.ent _ _ _ (.row (j := j) (r := r) hr5)).1
          have f2 : (r.wayA, listOf (r.way.map fun (x : WI) => Value.ref x.ta).toArray r.wayN) ∈ n5 := (H5.ent _ _ _ (.way (j := j) (r := r) hr5)).1
          have S5 := ((St3.trans (Step.of_sub (sub_cons fun _ h => h))).trans St4).trans St5
          clear e35 e15 e25 mc4 t4 T4 N4 F4 H4 St4 St5
          k_steps
          rename (∀ p ∈ _ :: _ :: _ :: n5, p.fst < _) => l7
          rename (∀ p ∈ _ :: _ :: n5, p.fst < _) => lw
          rename (∀ p ∈ _ :: n5, p.fst < _) => la
          rename (∀ p ∈ n5, p.fst < _) => lt
          rename News _ _ _ _ => N8
          rename Fr _ _ _ _ => F8
          obtain ⟨σ', lab', ok⟩ := close_child H5 N8 S5 hr5 hd2 hdk Iv l7 lw la lt nd5 P5 q7
          exact hret σ' lab' _ _ _ F8 N8 ok
  have ph24 : Ph 24 := ⟨⟩
  have s_new_root_x : new_root_x_S main_law.heap_1_39 main_law.view_1_40 := by
    as_aux_lemma =>
    intro prog w mean mg mb dp un gd cn cs a ccd cl outer A₀ base h₀ L m news s Q E σ lab b n B F X N Tp hk hdp hu t e nd H P hb hn hret
    subst hn
    subst e
    exact new_root_st_use (by with_reducible assumption) B F X N Tp hk hdp hu rfl nd H P hb fun d tk lab' news' h' tk' F' N' nd' H' St P' q0 q1 => hret _ d tk lab' news' h' tk' F' N' nd' H' St P' ⟨rfl, rfl, rfl, rfl⟩ rfl rfl (H'.tree P' (by omega)) (H'.ent _ _ _ .t).1 ⟨q0, q1.1, q1.2.1, q1.2.2⟩
  have s_add_element_x : add_element_x_S main_law.heap_1_39 main_law.view_1_40 := by
    as_aux_lemma =>
    intro prog w mean mg mb dp un gd cn cs a ccd cl outer A₀ base h₀ L m news s Q E σ lab b name uri loc k1 k2 k3 p i n tk B F X N Tp hk hdp hu t e nd H P hb h0 hi hp hn hret
    subst hn
    subst e
    exact add_element_st_use (by with_reducible assumption) B F X N Tp hk hdp hu rfl nd H P hb h0 hi hp fun d tk tk2 lab' news' h' tk' F' N' nd' H' St P' q0 q1 q2 => hret _ d _ tk lab' news' h' tk' F' N' nd' H' St P' ⟨rfl, rfl, rfl, rfl⟩ rfl rfl (H'.tree P' (by omega)) (H'.ent _ _ _ .t).1 ⟨rfl, rfl, rfl, rfl⟩ ⟨q0, q2.1, q2.2.1, q2.2.2⟩
  have s_set_attribute_x : set_attribute_x_S main_law.heap_1_39 main_law.view_1_40 := by
    as_aux_lemma =>
    intro prog w mean mg mb dp un gd cn cs a ccd cl outer A₀ base h₀ L m news s Q E σ lab b name uri loc val k1 k2 k3 k4 p i n tk B F X N Tp hk hdp hu t e nd H P hb h0 hi hp hat hn hret
    subst hn
    subst e
    exact set_attribute_st_use (by with_reducible assumption) B F X N Tp hk hdp hu rfl nd H P hb h0 hi hp (by rw [hat]; exact fun _ h => nomatch h) fun d tk tk2 lab' news' h' tk' F' N' nd' H' St P' q0 q1 q2 => hret _ d _ tk lab' news' h' tk' F' N' nd' H' St P' ⟨rfl, rfl, rfl, rfl⟩ rfl rfl (H'.tree P' (by omega)) (H'.ent _ _ _ .t).1 ⟨rfl, rfl, rfl, rfl⟩ ⟨q0, q2.1, q2.2.1, q2.2.2⟩ q1
  have ph25 : Ph 25 := ⟨⟩
  have ph26 : Ph 26 := ⟨⟩
  have s_all_nodes_x : all_nodes_x_S main_law.heap_1_39 main_law.view_1_40 := by
    as_aux_lemma =>
    intro prog w mean mg mb dp un gd cn cs a ccd cl outer A₀ base h₀ L m news s Q E T d i tk G B F X N Tp hk hdp hu hT t e h0 hi hG hch hz hz2 hret
    subst e
    exact all_nodes_spec_use (by with_reducible assumption) B F X N Tp hk hdp hu hT h0 hi hG hch hz hz2 hret
  k_go0
  rename IntsAre _ _ => hI
  have hlen := IntsAre.length hI
  k_steps
  unfold Halt
  rename News _ _ _ _ => N1
  rename Fr _ _ _ _ => F1
  rename (∀ p ∈ (_ :: _ :: _ :: _ :: _ :: _ :: [] : Led), p.1 < _) => k6
  rename (∀ p ∈ (_ :: _ :: _ :: _ :: _ :: [] : Led), p.1 < _) => k5
  rename (∀ p ∈ (_ :: [] : Led), p.1 < _) => k1
  rename TOrd _ _ _ _ => to
  obtain ⟨lab0, σ0, news0, H0, lc0, nd0, N0, mc0, P0, e1, e2, e3, e4, e5⟩ := setup0 N1 k6 k5 to k1
  clear N1 k6 k5 k1 to
  have t0 := H0.tf e4
  have T0 := H0.tree P0 (by omega)
  have n0 : (σ0.T.ns.length : Int) = 0 := by rw [e1]; rfl
  k_steps
  unfold Halt
  rename_i σ1 d1 tk1 lab1 news1 h1 tk1' F1 N1 nd1 H1 St1 P1 sm1 et1 en1 T1 t1 q1
  have n1 : (σ1.T.ns.length : Int) = 1 := by rw [en1, e1]; rfl
  clear H0 N0 t0 n0 T0
  k_steps
  unfold Halt
  rename_i σ2 d2 tk2 lab2 news2 h2 tk2' F2 N2 nd2 H2 St2 P2 sm2 et2 en2 T2 t2 q2
  clear H1 N1 t1 n1 T1
  k_steps
  unfold Halt
  rename News _ _ _ _ => N3
  rename Fr _ _ _ _ => F3
  rename (∀ p ∈ news2, p.1 < _) => l3
  subst e3 e4 e5
  have mc1 := St1.keep _ mc0 lc0
  have lc1 := (St1.lb _ mc0).trans lc0
  have mc2 := St2.keep _ mc1 lc1
  have lc2 := (St2.lb _ mc1).trans lc1
  have U2 : SetUp 0 σ2.T.ns σ2.rows := ⟨d1, d2, by rw [en2, en1, e1]; rfl, by rw [sm2.rows, sm1.rows, e2], q1, q2⟩
  have hRc := ne_dn l3 mc2
  refine enum_J (J1 σ0.src σ0.T.t σ0.rl _ _ tk1 tk2) rfl F3 N3 (.head _) (J1.start (σ := σ2) (lab := lab2) ⟨H2.mono (sub_cons fun _ h => h), nd2.cons l3, P2, sm2.src.trans sm1.src, et2, sm2.rl.trans sm1.rl, .tail _ mc2, lc2, ⟨_, by with_reducible assumption⟩, .head _, H2.fresh l3, rfl, rfl, rfl, rfl⟩ U2) ?_ ?_
  · clear U2 N3 F3 H2 N2 T2 St1 St2 P1 P2 t2 mc0 mc1 mc2
    intro i v T t m₁ nx h tk own hv ho hl hj hT F N
    obtain ⟨σ, lab, oc, S, U⟩ := hj
    obtain ⟨hi2, kv, rfl⟩ := two_get hv
    obtain ⟨ny, Ny, Sy, ho'⟩ := S.begin ho N
    replace F := fr_put4 F S.m1 S.m2 S.m3 S.m4
    have mc := Sy.mc
    have ndy := Sy.nd
    obtain ⟨vc, hoc⟩ := Sy.oc
    clear N S
    k_steps
    unfold Halt
    rename_i h1 F1 N1 h2 o1 F2 N2 d1
    have S1 := Sy.cell d1 hRc.symm
    have ho1 : ∀ q ∈ own, q ∈ setL _ o1 ny ∧ lab q.1 = .no ∧ q.1 ≠ _ ∧ q.1 ≠ _ := fun q hq => ⟨setL_ne (ho' q hq).1 (ho' q hq).2.2.1, (ho' q hq).2⟩
    obtain ⟨p, hp, hpk, hpc, hpl, hrl⟩ := U.find hi2
    have H1 := S1.st
    have P1 := S1.pt
    have nd1 := S1.nd
    have e1 := S1.et
    have T1 := H1.tree P1 (by omega)
    have mt1 := H1.tf e1
    have mr1 := H1.rf S1.er
    have mc1 := S1.mc
    have n1 : (σ.T.ns.length : Int) = 2 + 2 * (i : Int) := by rw [hpl]; omega
    clear N1 F1 Ny Sy ho' mc ndy hoc
    k_steps
    unfold Halt
    rename (∀ p ∈ (setL _ o1 ny), p.1 < _) => la
    rename (∀ p ∈ (_ :: setL _ o1 ny : Led), p.1 < _) => lb
    rename (∀ p ∈ (_ :: _ :: setL _ o1 ny : Led), p.1 < _) => lc
    rename News _ _ _ _ => N3
    rename Fr _ _ _ _ => F3
    obtain ⟨σ3, lab3, r1, nx3, N4, H3, St3, nd3, pu3, rd1⟩ := row1 N3 S1.er H1 nd1 la lb lc
    have P3 : PureT (2 + 4 * i) σ3.T := by rw [pu3.T]; exact P1
    have e3 : σ3.T.t = σ0.T.t := by rw [pu3.T]; exact e1
    have n3 : (σ3.T.ns.length : Int) = 2 + 2 * (i : Int) := by rw [pu3.T]; exact n1
    have hp3 : σ3.T.ns[(i : Int).toNat]? = some p := by rw [pu3.T, Int.toNat_natCast]; exact hp
    have hk3 : p.kind = Str.ofString "root" ∨ p.kind = Str.ofString "element" := .inl hpk
    have T3 := H3.tree P3 (by omega)
    have mt3 := H3.tf e3
    have mr3 := H3.rf (pu3.rl.trans S1.er)
    have mc3 := St3.keep _ mc1 S1.lc
    clear T1 mt1 mr1 la lb lc N3
    k_steps
    unfold Halt
    rename_i σ5 dd p5 tk5 lab5 n5 h5 tk5' F5 N5 nd5 H5 St5 P5 sm5 et5 en5 T5 t5 q5 q6
    rename (∀ p ∈ nx3, p.1 < _) => la
    rename (∀ p ∈ (_ :: nx3 : Led), p.1 < _) => lb
    rename (∀ p ∈ (_ :: _ :: nx3 : Led), p.1 < _) => lc
    clear T3 mt3 mr3 N4
    have mr5 := H5.rf (sm5.rl.trans (pu3.rl.trans S1.er))
    have z5 : σ5.rows.length < 100 := by rw [sm5.rows, pu3.rows, List.length_append, hrl]; show 3 * i + 1 < 100; omega
    have mc5 := St5.keep _ (.tail _ (.tail _ (.tail _ mc3))) ((St3.lb _ mc1).trans S1.lc)
    k_steps
    unfold Halt
    rename (∀ p ∈ n5, p.1 < _) => ld
    rename News _ _ _ _ => N6
    rename Fr _ _ _ _ => F6
    obtain ⟨σ6, lab6, r2, n6, N7, H6, St6, nd6, pu6, rd2⟩ := row2 N6 (sm5.rl.trans (pu3.rl.trans S1.er)) H3 H5 nd5 St3 St5 la lb lc ld
    have P6 : PureT (2 + 4 * i + 2) σ6.T := by rw [pu6.T]; exact P5
    have e6 : σ6.T.t = σ0.T.t := by rw [pu6.T]; exact et5
    have l3' : σ3.T.ns.length = 2 + 2 * i := by rw [pu3.T]; exact hpl
    have l5' : σ5.T.ns.length = 3 + 2 * i := by rw [en5, List.length_set, List.length_append, l3']; show 2 + 2 * i + 1 = _; omega
    have g6 : σ6.T.ns[(2 + 2 * (i : Int)).toNat]? = some dd := by
      rw [pu6.T, en5, show (2 + 2 * (i : Int)).toNat = 2 + 2 * i by omega, Int.toNat_natCast, List.getElem?_set_ne (by omega), List.getElem?_append_right (by omega), l3', Nat.sub_self]; rfl
    have n7 : (σ6.T.ns.length : Int) = 3 + 2 * (i : Int) := by rw [pu6.T, l5']; omega
    have j6 : σ6.rows[σ5.rows.length]? = some r2 := by rw [pu6.rows, List.getElem?_append_right (Nat.le_refl _), Nat.sub_self]; rfl
    have zr : r2.way.length = 2 := rowD_len rd2
    have er6 : σ6.rl = σ0.rl := pu6.rl.trans (sm5.rl.trans (pu3.rl.trans S1.er))
    have mr6 : (σ0.rl, listOf ((σ5.rows.map fun (r : RW) => Value.ref r.addr) ++ [Value.ref r2.addr]).toArray σ6.nL) ∈ n6 := by
      have := H6.rf er6
      rw [pu6.rows, List.map_append] at this
      exact this
    have f1 : (r2.addr, listOf [Value.ref r2.wayA, .int r2.node r2.k1, .int r2.na r2.k2, .int r2.nc r2.k3].toArray r2.n) ∈ n6 := (H6.ent _ _ _ (.row j6)).1
    have f2 : (r2.wayA, listOf (r2.way.map fun (x : WI) => Value.ref x.ta).toArray r2.wayN) ∈ n6 := (H6.ent _ _ _ (.way j6)).1
    have T6 := H6.tree P6 (by omega)
    have mt6 := H6.tf e6
    have w6 := rd2.node
    have g7 : σ6.T.ns[r2.node.toNat]? = some dd := by rw [w6]; exact g6
    have mc6 := St6.keep _ mc1 S1.lc
    have k6 := q6.kind
    have at6 := q6.at_
    clear N6 N5 F5 T5 mr5 St5 la lb lc ld
    k_steps
    unfold Halt
    rename_i σ8 d8 p8 tk8 lab8 n8 h8 tk8' F8 N8 nd8 H8 St8 P8 sm8 et8 en8 T8 t8 q8 q9 q10
    rename (∀ p ∈ n6, p.1 < _) => la
    rename (∀ p ∈ (_ :: n6 : Led), p.1 < _) => lb
    rename (∀ p ∈ (_ :: _ :: n6 : Led), p.1 < _) => lc
    have mr8 := H8.rf (sm8.rl.trans er6)
    have z8 : σ8.rows.length < 100 := by rw [sm8.rows, pu6.rows, List.length_append, sm5.rows, pu3.rows, List.length_append, hrl]; show 3 * i + 1 + 1 < 100; omega
    have j8 : σ8.rows[σ5.rows.length]? = some r2 := by rw [sm8.rows]; exact j6
    clear T6 mt6 mr6 f1 f2 N7
    k_steps
    unfold Halt
    rename (∀ p ∈ n8, p.1 < _) => ld
    rename News _ _ _ _ => N9
    rename Fr _ _ _ _ => F9
    obtain ⟨σ9, lab9, r3, n9, N10, H9, St9, nd9, pu9, rd3⟩ := row3 N9 (sm8.rl.trans er6) H6 H8 nd8 St6 j8 St8 la lc ld
    clear N9 N8 F8 T8 mr8 la lb lc ld
    k_steps
    have P9 : PureT (2 + 4 * (i + 1)) σ9.T := by rw [pu9.T]; exact P8.le (by omega)
    have er9 : σ9.rl = σ0.rl := pu9.rl.trans (sm8.rl.trans er6)
    have es9 : σ9.src = σ0.src := pu9.src.trans (sm8.src.trans (pu6.src.trans (sm5.src.trans (pu3.src.trans S1.es))))
    have U9 : SetUp (i + 1) σ9.T.ns σ9.rows := by
      have a1 : σ5.T.ns = (σ.T.ns ++ [dd]).set i p5 := by rw [en5, pu3.T, Int.toNat_natCast]
      have a2 : σ8.T.ns = (σ5.T.ns ++ [d8]).set (2 + 2 * i) p8 := by rw [en8, pu6.T, w6, show (2 + 2 * (i : Int)).toNat = 2 + 2 * i by omega]
      have a3 : p5.chI = p.chI ++ [(σ.T.ns.length : Int)] := by rw [n1]; exact q5.2.1
      have a4 : p8.atI = dd.atI ++ [(σ5.T.ns.length : Int)] := by rw [l5', q8.2.2.1]; congr 2
      have a5 : RowD r3 [((i : Int), 0), (1, 0), (0, 0)] (3 + 2 * (i : Int)) 0 0 := by
        have := rd3
        rw [rd2.w] at this
        exact this
      have a6 := U.turn hi2 hp a1 q5.1 a3 q5.2.2.1 q5.2.2.2 q6.kind ⟨q6.ch, q6.at_, q6.ns⟩ a2 q8.1 q8.2.1 a4 q8.2.2.2 q9.kind q10 ⟨q9.ch, q9.at_, q9.ns⟩ rd1 rd2 a5
      rw [pu9.T, pu9.rows, sm8.rows, pu6.rows, sm5.rows, pu3.rows]
      exact a6
    exact turn_end F9 N10 nd9 H9 St9 ho1 P9 es9 (by rw [pu9.T]; exact et8) er9 mc1 S1.lc S1.oc S1.mr S1.lr rfl rfl rfl rfl fun S' => ⟨S'.mr, σ9, lab9, o1, S', U9⟩
  · clear U2 N3 F3 H2 N2 T2 St1 St2 P1 P2 t2 mc0 mc1 mc2
    intro m₁ nx h tk hj F N
    obtain ⟨σ, lab, oc, S, U⟩ := hj
    obtain ⟨gd, gl⟩ := SetUp.good U
    replace F := fr_put4 F S.m1 S.m2 S.m3 S.m4
    have H1 := S.st
    have P1 : PureT 10 σ.T := S.pt
    have nd1 := S.nd
    have e1 := S.et
    have es1 := S.es
    have T1 := H1.tree P1 (by decide)
    have mt1 := H1.tf e1
    have mc1 := S.mc
    k_steps
    unfold Halt
    rename_i v4 tk4 a4 b4 ta4 tb4 n4 h4 tk4' F4 N4 nd4 H4 St4 v0 v9
    have mc4 := St4.keep _ mc1 S.lc
    have mr4 := St4.keep _ S.mr S.lr
    clear T1 mt1 N H1
    k_steps
    unfold Halt
    rename IsRange _ _ _ _ _ _ _ _ => r5
    rename News _ _ _ _ => N5
    rename Fr _ _ _ _ => F5
    have mr5 : (_, listOf [Value.int 0 tk1, Value.int 1 tk2].toArray 0) ∈ n4 := mr4
    refine range_J (n := (2 + v4).toNat) (J2 σ0.src σ0.T.t σ0.rl _ _ tk1 tk2) rfl r5 (small_up (by omega) (by omega)) (size_up (by omega)) F5 N5 (J2.start (σ := σ.setSrc a4 b4 ta4 tb4) (lab := lab) ⟨H4, nd4, P1, es1, e1, S.er, mc4, S.lc, S.oc, mr4, S.lr, rfl, rfl, rfl, rfl⟩ gd gl) ?_ ?_
    · clear F5 N5 r5 H4 nd4 P1 gd gl S U mc4 mr4 mr5
      intro i v m₂ nx2 h2 tk2' own hi hv ho hj F N
      obtain ⟨tv, rfl⟩ := hv
      obtain ⟨σ6, lab6, oc6, S6, G6, z6⟩ := hj
      obtain ⟨ny, Ny, Sy, ho'⟩ := S6.begin ho N
      replace F := fr_put4 F (m := fun y => if y = Str.ofString "turn" then some (Value.int (i : Int) tv) else m₂ y) (x := Str.ofString "source") (y := Str.ofString "tree") (z := Str.ofString "rows") (x4 := Str.ofString "roots") S6.m1 S6.m2 S6.m3 S6.m4
      have q1 := Sy.es
      have q2 := Sy.et
      have q3 := Sy.er
      have ndy := Sy.nd
      have Hy := Sy.st
      have Py := Sy.pt
      have hR : σ6.rows.length < 24 := by omega
      have hb : 10 + 2 * i < 300 := by omega
      have Iv := G6.inv
      have hel : ∃ r0, r0 ∈ σ6.rows ∧ isEl σ6.T.ns r0 = true := by
        obtain ⟨_, r, h1, _, h3⟩ := G6.root 0 (.inl rfl)
        exact ⟨r, h1, h3⟩
      obtain ⟨r0, hel⟩ := hel
      have mcy := Sy.mc
      clear N S6
      k_steps
      unfold Halt
      rename_i σ7 lab7 n7 h7 tk7 F7 N7 ok7
      obtain ⟨nd7, H7, St7, b1, b2, b3, P7, I7, z7, K7⟩ := ok7
      clear Ny
      k_steps
      exact turn_end F7 N7 nd7 H7 St7 ho' (P7.le (by omega)) (b1.trans q1) (b2.trans q2) (b3.trans q3) Sy.mc Sy.lc Sy.oc Sy.mr Sy.lr rfl rfl rfl rfl fun S' => ⟨σ7, lab7, oc6, S', G6.keep I7 K7, by omega⟩
    clear F5 N5 r5 H4 nd4 P1 gd gl S U mc4 mr4 mr5
    intro m₃ nx3 h3 tk3' hj F N
    obtain ⟨σ8, lab8, oc8, S8, G8, z8⟩ := hj
    replace F := fr_put4 F S8.m1 S8.m2 S8.m3 S8.m4
    have mc8 := S8.mc
    have mr8 := S8.mr
    k_steps
    unfold Halt
    rename Fr _ _ _ _ => F9
    have hv4 : (2 + v4).toNat ≤ 11 := by omega
    refine enum_J (J3 σ0.src σ0.T.t σ0.rl _ _ tk1 tk2) rfl F9 N mr8 ⟨σ8, lab8, oc8, ⟨S8.st, S8.nd, S8.pt.le (by omega), S8.es, S8.et, S8.er, mc8, S8.lc, S8.oc, mr8, S8.lr, rfl, rfl, rfl, rfl⟩, G8, by omega⟩ ?_ ?_
    · clear S8 G8 z8 F9 N mc8 mr8 St4
      intro i v T t m₄ nx4 h tk own hv ho hl hj hT F N
      obtain ⟨σ, lab, oc, S, G, z9⟩ := hj
      obtain ⟨hi2, kv, rfl⟩ := two_get hv
      obtain ⟨ny, Ny, Sy, ho'⟩ := S.begin ho N
      replace F := fr_put4 F S.m1 S.m2 S.m3 S.m4
      have mc := Sy.mc
      have ndy := Sy.nd
      obtain ⟨vc, hoc⟩ := Sy.oc
      clear N S
      k_steps
      unfold Halt
      rename_i h1 F1 N1 h2 o1 F2 N2 d1
      have S1 := Sy.cell d1 hRc.symm
      have ho1 : ∀ q ∈ own, q ∈ setL _ o1 ny ∧ lab q.1 = .no ∧ q.1 ≠ _ ∧ q.1 ≠ _ := fun q hq => ⟨setL_ne (ho' q hq).1 (ho' q hq).2.2.1, (ho' q hq).2⟩
      have H1 := S1.st
      have P1 := S1.pt
      have nd1 := S1.nd
      have e1 := S1.et
      have T1 := H1.tree P1 (by omega)
      have mt1 := H1.tf e1
      have mr1 := H1.rf S1.er
      have mc1 := S1.mc
      clear N1 F1 Ny Sy ho' mc ndy hoc
      k_steps
      unfold Halt
      refine comp_J (Gath σ (i : Int) (setL _ o1 ny)) ?_ ?_ _ _ _ _ (Nat.zero_add _) ⟨[], rfl, (fun _ h => nomatch h), rfl, fun _ h => h⟩ (.inr ⟨_, mr1, rfl, _, rfl⟩)
      · rintro j ys nx v I oI C oC D m₂ h tk E' hjn hG hS hv hC hx F₁ N₁ off ⟨ne1, ne2, ne3⟩
        have hjl : j < σ.rows.length := by simpa using hjn
        obtain ⟨r, hr⟩ : ∃ r, σ.rows[j]? = some r := ⟨_, List.getElem?_eq_getElem hjl⟩
        have hv' : v = Value.ref r.addr := by
          rw [List.getElem?_toArray, List.getElem?_map, hr] at hv
          exact (Option.some.inj hv).symm
        subst hv'
        have hs : ∀ e ∈ setL _ o1 ny, e ∈ nx := hG.choose_spec.2.2.2
        obtain ⟨x, xs, hw⟩ := way_cons G.inv (List.mem_of_getElem? hr)
        have mcx := hs _ mc1
        have f1 : (r.addr, listOf [Value.ref r.wayA, .int r.node r.k1, .int r.na r.k2, .int r.nc r.k3].toArray r.n) ∈ nx := hs _ (H1.ent _ _ _ (.row hr)).1
        have f2 : (r.wayA, listOf (Value.ref x.ta :: xs.map fun (x : WI) => Value.ref x.ta).toArray r.wayN) ∈ nx := by
          have := hs _ (H1.ent _ _ _ (.way hr)).1
          rw [hw] at this
          exact this
        have f3 : (x.ta, ({ cls := .type "tuple", data := .seq #[.int x.x x.tx, .int x.y x.ty] x.tn } : Obj)) ∈ nx := hs _ (H1.ent _ _ _ (.tup (x := x) hr (by rw [hw]; exact .head _))).1
        have hh := head_of hw (i : Int)
        clear N2 F2 hs T1 mt1 mr1
        k_steps
        · rename (∀ p ∈ ((I, oI) :: _ : Led), p.1 < _) => la
          rename (∀ p ∈ (_ :: (I, oI) :: _ : Led), p.1 < _) => lb
          rename News _ _ _ _ => N8
          rename Fr _ _ _ _ => F8
          rename (x.x, x.y) = _ => hb1
          exact comp_yes F8 N8 off hS la lb (hG.take H1 hr (hh.trans (decide_eq_true hb1)) (sub_cons (sub_cons fun _ h => h)) (.head _))
        · rename (∀ p ∈ ((I, oI) :: _ : Led), p.1 < _) => la
          rename News _ _ _ _ => N8
          rename Fr _ _ _ _ => F8
          rename ¬ (x.x, x.y) = _ => hb1
          exact comp_no F8 N8 off hS la (hG.skip hr (hh.trans (decide_eq_false hb1)) (sub_cons fun _ h => h))
      · rintro ys nx hG
        intro D h tk F8 N8 off
        have hz : (σ.rows.map fun (r : RW) => Value.ref r.addr).toArray.size = σ.rows.length := by simp
        rw [hz] at hG
        obtain ⟨ps, rfl, hps, hmap, hs⟩ := hG
        rw [List.take_length] at hmap
        obtain ⟨ny2, nd2, N9, s1, s2⟩ := norm_led N8
        have mD : (D, listOf (ps.map fun (p : PT) => Value.ref p.ta).toArray _) ∈ ny2 := s1 _ (.head _)
        have hs2 : ∀ e ∈ setL _ o1 ny, e ∈ ny2 := fun e he => s1 _ (.tail _ (hs e he))
        have hps2 : ∀ p ∈ ps, PTIn ny2 p := fun p hp => (hps p hp).mono fun e he => s1 _ (.tail _ he)
        have hk : (i : Int) = 0 ∨ (i : Int) = 1 := by omega
        obtain ⟨g1, g2, g3⟩ := gath_end G hk z9 hmap
        have T2 := T1.mono hs2
        clear N8 s1 s2 off hs hps N2 F2 T1
        k_steps
        unfold Halt
        rename_i D2 h2 c2 ps' F3 N3 l3 hpp hup
        obtain ⟨d, Gf, a1, a2, a3, a4, a5, a6⟩ := sort_end G hk z9 hmap hpp hup
        have T3 := T2.mono (sub_cons (p := (D2, listOf (ps'.map fun (p : PT) => Value.ref p.ta).toArray c2)) fun _ h => h)
        have mt3 := T3.t
        have i0 : 0 ≤ (i : Int) := by omega
        have zp : ps'.length < 64 := by rw [hpp.length_eq]; exact g2
        clear N9 F8 T2 mt1 mr1
        k_steps
        unfold Halt
        rename_i D5 vs5 n5 h5 tk5 news5 F5 N5 hm5 hI5 hs5 l5
        have mD5 := hs5 _ (.head _)
        clear N3 F3 T3
        k_steps
        k_dflt (refine LCp.ListComp_P (F₀ := by k_asm) (by with_unfolding_all rfl) (by decide) (by rfl) (by decide) (by rfl) (by rfl) (by decide) ?_)
        k_steps
        unfold Halt
        refine compP_J (Nods ps' news5) ?_ ?_ _ _ _ _ (Nat.zero_add _) ⟨rfl, fun _ h => h⟩ (.inr ⟨_, mD5, rfl, _, rfl⟩)
        · rintro j ys nx v hjn ⟨rfl, hsj⟩ hS hv
          have hjl : j < ps'.length := by simpa using hjn
          obtain ⟨p, hp⟩ : ∃ p, ps'[j]? = some p := ⟨_, List.getElem?_eq_getElem hjl⟩
          have hv' : v = Value.ref p.ta := by
            rw [List.getElem?_toArray, List.getElem?_map, hp] at hv
            exact (Option.some.inj hv).symm
          subst hv'
          have hpt := hps2 p (hpp.mem_iff.mp (List.mem_of_getElem? hp))
          refine ⟨p.ta, _, .ref p.wa, .int p.node p.k, p.c, rfl, hsj _ (hs5 _ (.tail _ hpt.t)), rfl, rfl, ?_⟩
          intro I oI C oC D6 m₂ h6 tk6 E6 hC hx hx2 F6 N6 off6 ne6
          clear N5 F5
          k_steps
          rename News _ _ _ _ => N7
          rename Fr _ _ _ _ => F7
          exact ⟨_, _, nx, rfl, F7, N7, off6, hS, by rw [List.take_add_one, hp, List.map_append]; rfl, hsj⟩
        · rintro ys nx ⟨rfl, hsj⟩
          intro D6 h6 tk6 F6 N6 off6
          have hz6 : (ps'.map fun (p : PT) => Value.ref p.ta).toArray.size = ps'.length := by simp
          rw [hz6, List.take_length] at N6
          obtain ⟨ny6, nd6, N7, s1, s2⟩ := norm_led N6
          have hI6 : IntsAre (ps'.map fun (p : PT) => Value.int p.node p.k) ((i : Int) :: Gf.all) := by rw [← a6]; exact nodes_ints ps'
          have mD6 : (D6, listOf (ps'.map fun (p : PT) => Value.int p.node p.k).toArray _) ∈ ny6 := s1 _ (.head _)
          have mD7 : (D5, listOf vs5.toArray n5) ∈ ny6 := s1 _ (.tail _ (hsj _ hm5))
          have sub6 : ∀ e ∈ setL _ o1 ny, e ∈ ny6 := fun e he => s1 _ (.tail _ (hsj _ (hs5 _ (.tail _ (hs2 e he)))))
          clear N5 F5 N6 s1 s2 hs5 hsj hm5 mD5
          k_steps
          exact turn_end F6 N7 nd6 (H1.mono sub6) (Step.of_sub sub6) ho1 P1 S1.es S1.et S1.er mc1 S1.lc S1.oc S1.mr S1.lr rfl rfl rfl rfl fun S' => ⟨S'.mr, σ, lab, o1, S', G, z9⟩
    · clear S8 G8 z8 F9 N mc8 mr8 St4
      intro m₅ nx5 h tk hj F N
      k_steps
end Mine
theorem PySem.Challenge.cw_xm0662_01_holds : PySem.Challenge.rw_xm0662_01.Holds :=
  Mine.main_law
