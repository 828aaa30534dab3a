import PyProof.Rows.All
import Wide.All
import OpenK.AllK
import Wide.FinOn
import PySem.Challenge.RW_pressnotes_k75_whole_offs_and_moves
import HandS.ForMost
import HandS.Deep
import HandS.TupLe
import HandS.Evl
import KE.SortData
import KE.DataCmp
import HandS.RaiseMore
import PyProof.ReprRoads
import KE.KDictPairs
import HandS.Set
import HandS.TupSets
import HandS.Strs
import HandS.IsInst
import KE.DataEq
set_option Elab.async false
set_option linter.all false
set_option maxRecDepth 100000
set_option maxHeartbeats 200000
/-! data without lists: what a value stands for, while tuples stand -/
namespace Pn
open PySem L2 Evl

mutual
def TD (H : Hp) : PyData → V → Prop
  | .none, v => v = .non
  | .bool b, v => v = .bl b
  | .int i, v => v = .int i
  | .str z, v => v = .str z
  | .tuple ds, v => ∃ (a : Addr) (xs : List V), v = .ref a ∧ H a = some (.tup xs) ∧ TDs H ds xs
  | .list _, _ => False
  | .dict _, _ => False
def TDs (H : Hp) : List PyData → List V → Prop
  | [], xs => xs = []
  | d :: ds, xs => ∃ (x : V) (r : List V), xs = x :: r ∧ TD H d x ∧ TDs H ds r
end

/-- the tuples of H stand in H' -/
def Tk (H H' : Hp) : Prop := ∀ a xs, H a = some (.tup xs) → H' a = some (.tup xs)
theorem Tk.rfl' (H : Hp) : Tk H H := fun _ _ h => h
theorem Tk.trans {H H1 H2 : Hp} (a : Tk H H1) (b : Tk H1 H2) : Tk H H2 := fun x o h => b x o (a x o h)
theorem Tk.ex {H H' : Hp} (e : Ex H H') : Tk H H' := fun a xs h => e a _ h

mutual
theorem TD.mono {H H' : Hp} (k : Tk H H') : ∀ {d : PyData} {v : V}, TD H d v → TD H' d v
  | .none, _, h => h
  | .bool _, _, h => h
  | .int _, _, h => h
  | .str _, _, h => h
  | .tuple _, _, h => by
    obtain ⟨a, xs, e, ha, hs⟩ := h
    exact ⟨a, xs, e, k _ _ ha, TDs.mono k hs⟩
  | .list _, _, h => h
  | .dict _, _, h => h
theorem TDs.mono {H H' : Hp} (k : Tk H H') : ∀ {ds : List PyData} {xs : List V}, TDs H ds xs → TDs H' ds xs
  | [], _, h => h
  | _ :: _, _, h => by
    obtain ⟨x, r, e, h1, h2⟩ := h
    exact ⟨x, r, e, TD.mono k h1, TDs.mono k h2⟩
end

theorem TDs.length {H : Hp} : ∀ {ds : List PyData} {xs : List V}, TDs H ds xs → xs.length = ds.length
  | [], _, h => by
    have e : _ = [] := h
    rw [e]
    rfl
  | _ :: ds, _, h => by
    obtain ⟨x, r, rfl, _, h2⟩ := h
    rw [List.length_cons, List.length_cons, TDs.length h2]
theorem TDs.get {H : Hp} : ∀ {ds : List PyData} {xs : List V} {i : Nat} {d : PyData}, TDs H ds xs → ds[i]? = some d → ∃ x, xs[i]? = some x ∧ TD H d x
  | [], _, _, _, _, e => by simp at e
  | d0 :: ds, _, i, d, h, e => by
    obtain ⟨x, r, rfl, h1, h2⟩ := h
    cases i with
    | zero =>
      have e' : d0 = d := Option.some.inj e
      subst e'
      exact ⟨x, rfl, h1⟩
    | succ i => exact TDs.get (i := i) h2 e
theorem TDs.getx {H : Hp} : ∀ {ds : List PyData} {xs : List V} {i : Nat} {x : V}, TDs H ds xs → xs[i]? = some x → ∃ d, ds[i]? = some d ∧ TD H d x
  | [], xs, i, x, h, e => by
    have e1 : xs = [] := h
    subst e1
    simp at e
  | d0 :: ds, _, i, y, h, e => by
    obtain ⟨x, r, rfl, h1, h2⟩ := h
    cases i with
    | zero =>
      have e' : x = y := Option.some.inj e
      subst e'
      exact ⟨d0, rfl, h1⟩
    | succ i => exact TDs.getx (i := i) h2 e
theorem TDs.append {H : Hp} : ∀ {ds es : List PyData} {xs ys : List V}, TDs H ds xs → TDs H es ys → TDs H (ds ++ es) (xs ++ ys)
  | [], _, xs, _, h, g => by
    have e1 : xs = [] := h
    subst e1
    exact g
  | _ :: _, _, _, _, h, g => by
    obtain ⟨x, r, rfl, h1, h2⟩ := h
    exact ⟨x, r ++ _, rfl, h1, TDs.append h2 g⟩
theorem TDs.one {H : Hp} {d : PyData} {x : V} (h : TD H d x) : TDs H [d] [x] := ⟨x, [], rfl, h, rfl⟩
theorem TDs.nil {H : Hp} : TDs H [] [] := rfl
theorem TDs.cons {H : Hp} {d : PyData} {ds : List PyData} {x : V} {xs : List V} (h : TD H d x) (g : TDs H ds xs) : TDs H (d :: ds) (x :: xs) := ⟨x, xs, rfl, h, g⟩
theorem TDs.split {H : Hp} : ∀ {ds es : List PyData} {xs : List V}, TDs H (ds ++ es) xs → ∃ ys zs, xs = ys ++ zs ∧ TDs H ds ys ∧ TDs H es zs
  | [], _, xs, h => ⟨[], xs, rfl, rfl, h⟩
  | _ :: ds, _, _, h => by
    obtain ⟨x, r, rfl, h1, h2⟩ := h
    obtain ⟨ys, zs, e, g1, g2⟩ := TDs.split (ds := ds) h2
    exact ⟨x :: ys, zs, by rw [e]; rfl, ⟨x, ys, rfl, h1, g1⟩, g2⟩
theorem TDs.take {H : Hp} : ∀ {ds : List PyData} {xs : List V} (n : Nat), TDs H ds xs → TDs H (ds.take n) (xs.take n)
  | _, _, 0, _ => rfl
  | [], xs, n + 1, h => by
    have e1 : xs = [] := h
    subst e1
    rfl
  | _ :: _, _, n + 1, h => by
    obtain ⟨x, r, rfl, h1, h2⟩ := h
    exact ⟨x, r.take n, rfl, h1, TDs.take n h2⟩
theorem TDs.drop {H : Hp} : ∀ {ds : List PyData} {xs : List V} (n : Nat), TDs H ds xs → TDs H (ds.drop n) (xs.drop n)
  | _, _, 0, h => h
  | [], xs, n + 1, h => by
    have e1 : xs = [] := h
    subst e1
    rfl
  | _ :: _, _, n + 1, h => by
    obtain ⟨x, r, rfl, h1, h2⟩ := h
    exact TDs.drop n h2
theorem TD.tup {H : Hp} {ds : List PyData} {a : Addr} {xs : List V} (h : H a = some (.tup xs)) (g : TDs H ds xs) : TD H (.tuple ds) (.ref a) := ⟨a, xs, rfl, h, g⟩

mutual
theorem TD.dp {K : PySem.W.Frag} {H : Hp} : ∀ {d : PyData} {v : V}, TD H d v → Dp K H v d
  | .none, _, h => by
    cases (show _ = V.non from h)
    exact .non
  | .bool b, _, h => by
    cases (show _ = V.bl b from h)
    exact .bl b
  | .int i, _, h => by
    cases (show _ = V.int i from h)
    exact .int i
  | .str z, _, h => by
    cases (show _ = V.str z from h)
    exact .str z
  | .tuple ds, _, h => by
    obtain ⟨a, xs, rfl, ha, hs⟩ := h
    exact .tup (SqT.of ha) (TDs.dp hs)
  | .list _, _, h => h.elim
  | .dict _, _, h => h.elim
theorem TDs.dp {K : PySem.W.Frag} {H : Hp} : ∀ {ds : List PyData} {xs : List V}, TDs H ds xs → DpAll K H xs ds
  | [], _, h => by
    cases (show _ = [] from h)
    exact .nil
  | _ :: _, _, h => by
    obtain ⟨x, r, rfl, h1, h2⟩ := h
    exact .cons (TD.dp h1) (TDs.dp h2)
end

section
variable {X : Cx} {pins : List (Addr × Obj)} {σ : L2.St} {H : Hp} {s : Shared}
theorem TD.reads (I : Inv X pins σ H s) {d : PyData} {v : V} {u : Value} (h : TD H d v) (r : RelV v u) : ∃ as, Reads s.heap u d as := Dp.reads I d v u (TD.dp h) r
theorem TDs.reads (I : Inv X pins σ H s) {ds : List PyData} {vs : List V} {us : List Value} (h : TDs H ds vs) (r : Vals vs us) : ∃ as, ReadsAll s.heap us ds as := Dp.readsAll I ds vs us (TDs.dp h) r
end

/-! ### comparing -/
section
variable {X : Cx}
/-- a < b of alike data -/
def rLtD : R2 := fun x y H Q => ∃ d e : PyData, TD H d x ∧ TD H e y ∧ PySem.W.alike d e = true ∧ d ≠ .none ∧ d.depth ≤ 8 ∧ Q (.bl (PySem.W.dataLt d e)) H
theorem op_ltD (hu : X.A.units + 64 < cLine) : OpR X (compareOp .Lt) rLtD := by
  intro pins s σ H x y v u Q I rx ry h
  obtain ⟨d, e, hd, he, al, hn, dp, q⟩ := h
  obtain ⟨as, r1⟩ := TD.reads I hd rx
  obtain ⟨bs, r2⟩ := TD.reads I he ry
  exact PySem.W.rcLt_alike d e X.A s v u as bs r1 r2 al hn (by omega) X.prog X.w _ _ ⟨.bl _, H, I, rfl, q⟩

/-- a <= b of alike data -/
def rLeD : R2 := fun x y H Q => ∃ d e : PyData, TD H d x ∧ TD H e y ∧ PySem.W.alike d e = true ∧ d ≠ .none ∧ d.depth ≤ 8 ∧ Q (.bl (!PySem.W.dataLt e d)) H
theorem op_leD (hu : X.A.units + 64 < cLine) : OpR X (compareOp .LtE) rLeD := by
  intro pins s σ H x y v u Q I rx ry h
  obtain ⟨d, e, hd, he, al, hn, dp, q⟩ := h
  obtain ⟨as, r1⟩ := TD.reads I hd rx
  obtain ⟨bs, r2⟩ := TD.reads I he ry
  exact PySem.W.rcLe_alike d e X.A s v u as bs r1 r2 al hn (by omega) X.prog X.w _ _ ⟨.bl _, H, I, rfl, q⟩

/-! ### sorted(a list) -/
theorem each_of {H : Hp} {β : Type} (enc : β → PyData) : ∀ {bs : List β} {xs : List V} {us : List Value}, TDs H (bs.map enc) xs → Vals xs us →
    PySem.W.EachIs (fun (u : Value) (b : β) => ∃ x : V, RelV x u ∧ TD H (enc b) x) us bs
  | [], _, _, h, r => by
    have e : _ = [] := h
    subst e
    cases r
    exact .nil
  | b :: bs, _, _, h, r => by
    obtain ⟨x, t, rfl, h1, h2⟩ := h
    cases r with
    | cons r1 r2 => exact .cons ⟨x, r1, h1⟩ (each_of enc h2 r2)
theorem of_each {H : Hp} {β : Type} (enc : β → PyData) : ∀ {bs : List β} {us : List Value}, PySem.W.EachIs (fun (u : Value) (b : β) => ∃ x : V, RelV x u ∧ TD H (enc b) x) us bs →
    ∃ xs : List V, TDs H (bs.map enc) xs ∧ Vals xs us
  | _, _, .nil => ⟨[], rfl, .nil⟩
  | _, _, .cons ⟨x, r, h⟩ t => by
    obtain ⟨xs, g1, g2⟩ := of_each enc t
    exact ⟨x :: xs, ⟨x, xs, rfl, h, g1⟩, .cons r g2⟩
def rSortD (K : PySem.W.Frag) {β : Type} (enc : β → PyData) : List V → Hp → VK → Prop := fun vs H Q => ∃ (l : Addr) (xs : List V) (bs : List β), vs = [V.ref l] ∧ SqL K H l xs ∧ TDs H (bs.map enc) xs ∧
  PySem.W.AllAlike (bs.map enc) ∧ PySem.W.Sortable (bs.map enc) ∧ (∀ b ∈ bs, (enc b).depth ≤ 8) ∧
  ∀ (p : Addr) (ys : List V), H p = none → TDs H ((bs.mergeSort (PySem.W.dataLe false enc)).map enc) ys → Q (.ref p) (upd H p (.lst ys))
theorem cr_sortD (hu : X.A.units + 64 < cLine) {β : Type} (enc : β → PyData) : CallR X (.builtin "sorted") (rSortD X.K enc) := by
  intro pins s σ H vs us Q I r h
  obtain ⟨l, xs, bs, rfl, hl, hd, al, so, dp, q⟩ := h
  obtain ⟨u, rfl, ru⟩ := vals1 r
  have eu : u = Value.ref l := ru
  subst eu
  obtain ⟨its, rv, pl, hz⟩ := I.list hl
  have e1 := each_of enc hd rv
  have ers : PySem.W.EachIs (fun v b => ∃ as, Reads s.heap v (enc b) as) its bs := e1.mono fun v b ⟨x, rx, tx⟩ => TD.reads I tx rx
  have hlen : bs.length ≤ sizeLine := by
    have a1 := hd.length
    rw [List.length_map] at a1
    omega
  refine PySem.W.sorted_data (vs := its) pl.isList e1 ers al so hlen (fun b hb => by have := dp b hb; omega) fun out ho ho2 => ?_
  obtain ⟨ys, ty, ry⟩ := of_each enc ho2
  obtain ⟨c, hc⟩ := PyProof.Rows.sortedAll_at s.heap its out.toArray
  have hn : H (s.heap.objs.size + 1) = none := I.hok.fresh (Nat.le_succ _)
  refine ⟨.ref (s.heap.objs.size + 1), upd H (s.heap.objs.size + 1) (.lst ys), ?_, rfl, q _ ys hn ty⟩
  refine I.laid (t' := s.toks) (fun b o e => PyProof.Rows.sortedAll_old e) (Nat.le_succ _) ⟨?_, out, c, ry, hc⟩
  have a1 := ry.length
  omega

/-! ### repr -/
def rReprD : List V → Hp → VK → Prop := fun vs H Q => ∃ (x : V) (d : PyData), vs = [x] ∧ TD H d x ∧ (∃ ds, d = .tuple ds) ∧ d.showable = true ∧ d.hasDict = false ∧ d.depth ≤ 8 ∧ d.shown.length ≤ sizeLine ∧ Q (.str d.shown) H
theorem cr_reprD (hu : X.A.units + 64 < cLine) (hg : X.A.guards = some []) : CallR X (.builtin "repr") rReprD := by
  intro pins s σ H vs us Q I r h
  obtain ⟨x, d, rfl, hd, ⟨ds, rfl⟩, sh, nd, dp, sz, q⟩ := h
  obtain ⟨u, rfl, ru⟩ := vals1 r
  obtain ⟨as, rr⟩ := TD.reads I hd ru
  obtain ⟨a, xs, ex, ha, hs⟩ := hd
  subst ex
  have eu : u = Value.ref a := ru
  subst eu
  exact PySem.repr_of_reads' rr sh (fun z => by rw [nd] at z; cases z) hg (by omega) (fun _ _ e => e) (fun h' w tk k => ⟨.str _, H, I.kept k, ⟨_, rfl⟩, q⟩) sz
def rReprN : List V → Hp → VK → Prop := fun vs H Q => vs = [.non] ∧ Q (.str "None") H
theorem cr_reprN : CallR X (.builtin "repr") rReprN := by
  intro pins s σ H vs us Q I r h
  obtain ⟨rfl, q⟩ := h
  obtain ⟨u, rfl, ru⟩ := vals1 r
  have eu : u = Value.none := ru
  subst eu
  exact PySem.P.repr_of_none ⟨.str "None", H, I.tok _, ⟨_, rfl⟩, q⟩
def rReprI : List V → Hp → VK → Prop := fun vs H Q => ∃ i : Int, vs = [.int i] ∧ i.natAbs.log2 < 1920 ∧ Q (.str (toString i)) H
theorem cr_reprI : CallR X (.builtin "repr") rReprI := by
  intro pins s σ H vs us Q I r h
  obtain ⟨i, rfl, hz, q⟩ := h
  obtain ⟨u, rfl, t, rfl⟩ := vals1 r
  exact PySem.P.repr_of_int hz ⟨.str _, H, I.tok _, ⟨_, rfl⟩, q⟩
end
end Pn
set_option maxHeartbeats 4000000
/-! dicts whose keys are None and tuples of numbers and texts -/
namespace Pn
open PySem L2 Evl

abbrev KO := Option (List Key)
def isKO (P : Program) (w : World) (h : Heap) : KO → Value → Prop
  | none, v => v = Value.none
  | some ks, v => ∃ a, v = Value.ref a ∧ IsTupleKey (mixKind P w) h ks a
def hKO (P : Program) (w : World) : KO → Int
  | none => 0xFCA86420
  | some ks => tupleKeyHash (mixKind P w) ks

section
variable {P : Program} {w : World} {A : Around} {E : Value → Shared → Prop} {s : Shared}

theorem hash_none {Q : Int → Shared → Prop} (h : Q 0xFCA86420 { s with toks := s.toks + 1 }) : wpAny (model P w) A (pyHash .none) Q E s := by
  have hT : s.TypeIs .none "NoneType" := rfl
  unfold pyHash pyHashByItsType
  have hv : [Value.none].any Value.onHeap = false := rfl
  refine wpAny_bind ?_
  rw [cRoomFor, if_neg (by rw [hv]; exact Bool.false_ne_true)]; refine wpAny_pure ?_
  refine wpAny_bind (wpAny_specialOf hT F.slot_NoneType_hash.lookup ?_)
  show wpAny _ _ (if (some (Value.builtin "NoneType.__hash__") == some Value.none) = true then _ else _) Q E s
  rw [if_neg (by rw [beq_builtin_none]; exact Bool.false_ne_true)]
  refine wpAny_bind (wpAny_specialOf hT F.slot_NoneType_hash.lookup ?_)
  show wpAny _ _ (callSpecialIfBoundUnlessNone? .none "__hash__" _ >>= _) Q E s
  refine wpAny_bind (wpAny_callSpecialIfBoundUnlessNone?_slot hT F.slot_NoneType_hash
    (wpAny_call_entry F.slot_NoneType_hash hT F.entry_NoneType_hash
      (show wpAny _ _ (do ret (← mkInt 0xFCA86420)) _ _ s from wpAny_ret_mkInt ?_) (F.args_NoneType_hash_1 _)))
  exact wpAny_pure h

theorem ko_hash {k : KO} {v : Value} {Q : Int → Shared → Prop} (hu : A.units < cLine) (hk : isKO P w s.heap k v) (h : ∀ t, Q (hKO P w k) { s with toks := t }) : wpAny (model P w) A (pyHash v) Q E s := by
  cases k with
  | none =>
    have e : v = Value.none := hk
    subst e
    exact hash_none (h _)
  | some ks =>
    obtain ⟨a, rfl, ha⟩ := hk
    exact wpAny_pyHash_tuple hu ha (h _)
theorem ko_tup {ks : List Key} {h : Heap} {a : Addr} (x : IsTupleKey (mixKind P w) h ks a) : ∃ items, h.IsTuple a items := by
  obtain ⟨o, items, n, ho, hc, hd, _⟩ := x
  exact ⟨items, o, ho, hc, n, hd⟩
theorem ko_eq {j k : KO} {u v : Value} {Q : Bool → Shared → Prop} (hu : A.units < cLine) (hj : isKO P w s.heap j u) (hk : isKO P w s.heap k v) (h : Q (decide (j = k)) s) : wpAny (model P w) A (eqBool u v) Q E s := by
  cases j with
  | none =>
    have e : u = Value.none := hj
    subst e
    cases k with
    | none =>
      have e : v = Value.none := hk
      subst e
      exact SeqAt.EqAt.same _ P w _ _ (by simpa using h)
    | some ks =>
      obtain ⟨a, rfl, ha⟩ := hk
      obtain ⟨items, hi⟩ := ko_tup ha
      exact SeqAt.EqAt.none_tuple hi hu P w _ _ (by simpa using h)
  | some js =>
    obtain ⟨b, rfl, hb⟩ := hj
    cases k with
    | none =>
      have e : v = Value.none := hk
      subst e
      obtain ⟨items, hi⟩ := ko_tup hb
      exact SeqAt.EqAt.tuple_none hi hu P w _ _ (by simpa using h)
    | some ks =>
      obtain ⟨a, rfl, ha⟩ := hk
      exact wpAny_eqBool_tuple hu hb ha (by simpa using h)
theorem ko_quiet {k : KO} {v : Value} {Q : Bool → Shared → Prop} (hk : isKO P w s.heap k v) (h : Q true s) : wpAny (model P w) A (eqIsQuiet 8 v) Q E s := by
  cases k with
  | none =>
    have e : v = Value.none := hk
    subst e
    rw [eqIsQuiet_byValue 8 rfl]
    exact wpAny_pure h
  | some ks =>
    obtain ⟨a, rfl, ha⟩ := hk
    exact wpAny_eqIsQuiet_tuple ha h
theorem ko_inj {h : Heap} {j k : KO} {v : Value} (hj : isKO P w h j v) (hk : isKO P w h k v) : j = k := by
  cases j with
  | none =>
    have e : v = Value.none := hj
    subst e
    cases k with
    | none => rfl
    | some ks =>
      obtain ⟨a, e, _⟩ := hk
      cases e
  | some js =>
    obtain ⟨b, rfl, hb⟩ := hj
    cases k with
    | none =>
      have e : Value.ref b = Value.none := hk
      cases e
    | some ks =>
      obtain ⟨a, e, ha⟩ := hk
      cases e
      rw [hb.inj ha]
theorem ko_keep {h h' : Heap} {k : KO} {v : Value} {d : Addr} {o : Obj} {es : Array DictEntry} {ep : Nat} (hk : isKO P w h k v) (ho : h.get? d = some o) (hd : o.data = .dict es ep) (hs : ∀ b u, b ≠ d → h.get? b = some u → h'.get? b = some u) : isKO P w h' k v := by
  cases k with
  | none => exact hk
  | some ks =>
    obtain ⟨a, rfl, ob, items, n, ho', hc, hd', hi⟩ := hk
    refine ⟨a, rfl, ob, items, n, hs a ob ?_ ho', hc, hd', hi⟩
    rintro rfl
    obtain rfl : ob = o := Option.some.inj (ho'.symm.trans ho)
    rw [hd] at hd'
    exact nomatch hd'
theorem ko_all {h h' : Heap} {k : KO} {v : Value} (hk : isKO P w h k v) (hs : ∀ b u, h.get? b = some u → h'.get? b = some u) : isKO P w h' k v := by
  cases k with
  | none => exact hk
  | some ks =>
    obtain ⟨a, rfl, ob, items, n, ho', hc, hd', hi⟩ := hk
    exact ⟨a, rfl, ob, items, n, hs a ob ho', hc, hd', hi⟩
theorem ko_nostr {h : Heap} {k : KO} {v : Value} (hk : isKO P w h k v) : v = Value.none ∨ ∃ a, v = Value.ref a := by
  cases k with
  | none => exact .inl hk
  | some ks =>
    obtain ⟨a, e, _⟩ := hk
    exact .inr ⟨a, e⟩

/-- a row of the dict -/
abbrev Row := KO × Value × Value
def entO (P : Program) (w : World) (x : Row) : DictEntry := ⟨hKO P w x.1, x.2.1, x.2.2⟩
/-- at d a dict with the rows L -/
structure DO (P : Program) (w : World) (h : Heap) (d : Addr) (L : List Row) : Prop where
  ex : ∃ o es ep, h.get? d = some o ∧ o.ExactDict ∧ o.data = .dict es ep ∧ es.toList = L.map (entO P w)
  nd : (L.map (·.1)).Nodup
/-- their keys are what they stand for -/
def KsO (P : Program) (w : World) (h : Heap) (L : List Row) : Prop := ∀ x ∈ L, isKO P w h x.1 x.2.1

theorem tell_quiet {k : KO} {v : Value} {st : List Value} {Q : Bool → Shared → Prop} (hk : isKO P w s.heap k v) (hst : ∀ u ∈ st, ∃ j, isKO P w s.heap j u) (h : Q false s) :
    wpAny (model P w) A (tableMayTell v st) Q E s := by
  unfold tableMayTell
  by_cases c : st.isEmpty = true
  · rw [if_pos c]
    exact wpAny_pure h
  · rw [if_neg c]
    refine wpAny_bind (ko_quiet hk ?_)
    simp only [Bool.not_true, Bool.false_eq_true, if_false]
    refine wpAny_bind (wpAny_forIn_list _ (fun left r s' => s' = s ∧ r = (none, ()) ∧ ∀ u ∈ left, ∃ j, isKO P w s.heap j u) _ ?_ ?_ _ _ ⟨rfl, rfl, hst⟩)
    · rintro x left r s' ⟨rfl, rfl, hl⟩
      obtain ⟨j, hj⟩ := hl x List.mem_cons_self
      refine wpAny_bind (ko_quiet hj ?_)
      simp only [Bool.not_true, Bool.false_eq_true, if_false]
      exact wpAny_pure ⟨rfl, rfl, fun u hu' => hl u (List.mem_cons_of_mem _ hu')⟩
    · rintro r s' ⟨rfl, rfl, _⟩
      exact wpAny_pure h

theorem key_one {L : List Row} (nd : (L.map (·.1)).Nodup) {i j : Nat} {x y : Row} (hx : L[i]? = some x) (hy : L[j]? = some y) (e : x.1 = y.1) : i = j := by
  have h1 : (L.map (·.1))[i]? = some x.1 := by rw [List.getElem?_map, hx]; rfl
  have h2 : (L.map (·.1))[j]? = some x.1 := by rw [List.getElem?_map, hy, e]; rfl
  exact (List.getElem?_inj (List.getElem?_eq_some_iff.mp h1).1 nd).mp (h1.trans h2.symm)

/-- the places of a hash -/
def PlOk (P : Program) (w : World) (L : List Row) (h : Int) (pl : List Nat) : Prop := pl.Nodup ∧ ∀ i, i ∈ pl ↔ ∃ x, L[i]? = some x ∧ hKO P w x.1 = h
theorem pl_ok {es : Array DictEntry} {L : List Row} (he : es.toList = L.map (entO P w)) (h : Int) : PlOk P w L h (placesWithHash es.size (fun i => es[i]?.map (·.hash)) h) := by
  have at_ : ∀ i : Nat, es[i]? = (L[i]?).map (entO P w) := fun i => by rw [← Array.getElem?_toList, he, List.getElem?_map]
  unfold placesWithHash
  refine ⟨List.Pairwise.filter _ List.nodup_range, fun i => ?_⟩
  rw [List.mem_filter, List.mem_range]
  dsimp only
  constructor
  · rintro ⟨_, h2⟩
    rw [at_ i] at h2
    cases q : L[i]? with
    | none => rw [q] at h2; simp at h2
    | some x =>
      rw [q] at h2
      exact ⟨x, rfl, by simpa [entO] using h2⟩
  · rintro ⟨x, hx, e⟩
    have hl : i < L.length := (List.getElem?_eq_some_iff.mp hx).1
    have hz : es.size = L.length := by rw [← Array.length_toList, he, List.length_map]
    refine ⟨by omega, ?_⟩
    rw [at_ i, hx]
    simpa [entO] using e

/-- the loop over the places of one hash -/
theorem loop_o {L : List Row} {k : KO} {pl : List Nat} (pok : PlOk P w L (hKO P w k) pl) (nd : (L.map (·.1)).Nodup) {f : Nat → Option (Option Nat) × Option Nat → Sem (ForInStep (Option (Option Nat) × Option Nat))}
    (step : ∀ (i : Nat) (x : Row) (hit : Option Nat) (R : ForInStep (Option (Option Nat) × Option Nat) → Shared → Prop), L[i]? = some x → hKO P w x.1 = hKO P w k →
      (x.1 = k → hit = none) → (x.1 = k → R (.done (some (some i), none)) s) → (x.1 = k → R (.yield (none, some i)) s) → (x.1 ≠ k → R (.yield (none, hit)) s) → wpAny (model P w) A (f i (none, hit)) R E s)
    {R : Option (Option Nat) × Option Nat → Shared → Prop} (r0 : (∀ x ∈ L, x.1 ≠ k) → R (none, none) s) (r1 : ∀ (j : Nat) (x : Row), L[j]? = some x → x.1 = k → R (none, some j) s)
    (r2 : ∀ (j : Nat) (x : Row), L[j]? = some x → x.1 = k → R (some (some j), none) s) : wpAny (model P w) A (forIn pl (none, none) f) R E s := by
  obtain ⟨pn, pm⟩ := pok
  refine wpAny_forIn_list _ (fun left b s' => s' = s ∧ ∃ done hit, b = (none, hit) ∧ pl = done ++ left ∧
    ((hit = none ∧ ∀ i ∈ done, ∀ x, L[i]? = some x → x.1 ≠ k) ∨ ∃ j x, hit = some j ∧ j ∈ done ∧ L[j]? = some x ∧ x.1 = k)) _ ?_ ?_ _ _ ⟨rfl, [], none, rfl, rfl, .inl ⟨rfl, fun _ h => nomatch h⟩⟩
  · rintro i left b s' ⟨rfl, done, hit, rfl, epl, inv⟩
    have him : i ∈ pl := by rw [epl]; exact List.mem_append_right _ List.mem_cons_self
    obtain ⟨x, hx, hh⟩ := (pm i).1 him
    have hnew : i ∉ done := fun hd => by
      rw [epl] at pn
      exact (List.nodup_append.mp pn).2.2 i hd i List.mem_cons_self rfl
    have epl2 : pl = (done ++ [i]) ++ left := by rw [epl, List.append_assoc]; rfl
    have hnone : x.1 = k → hit = none := fun ek => by
      rcases inv with ⟨h, _⟩ | ⟨j, y, h, hj, hy, ey⟩
      · exact h
      · exact absurd (key_one nd hy hx (ey.trans ek.symm) ▸ hj) hnew
    refine step i x hit _ hx hh hnone (fun ek => r2 i x hx ek) (fun ek => ?_) fun nk => ?_
    · exact ⟨rfl, done ++ [i], some i, rfl, epl2, .inr ⟨i, x, rfl, List.mem_append_right _ (List.mem_singleton.mpr rfl), hx, ek⟩⟩
    · refine ⟨rfl, done ++ [i], hit, rfl, epl2, ?_⟩
      rcases inv with ⟨h, g⟩ | ⟨j, y, h, hj, hy, ey⟩
      · refine .inl ⟨h, fun i' hi' y hy => ?_⟩
        rcases List.mem_append.mp hi' with z | z
        · exact g i' z y hy
        · rw [List.mem_singleton.mp z, hx] at hy
          exact fun ek => nk ((congrArg Prod.fst (Option.some.inj hy)).trans ek)
      · exact .inr ⟨j, y, h, List.mem_append_left _ hj, hy, ey⟩
  · rintro b s' ⟨rfl, done, hit, rfl, epl, inv⟩
    rw [List.append_nil] at epl
    rcases inv with ⟨rfl, g⟩ | ⟨j, y, rfl, hj, hy, ey⟩
    · refine r0 fun x hx ek => ?_
      obtain ⟨i, hi⟩ := List.mem_iff_getElem?.mp hx
      exact g i (epl ▸ (pm i).2 ⟨x, hi, by rw [ek]⟩) x hi ek
    · exact r1 j y hy ey

/-- the plain loop -/
theorem loop_p {L : List Row} {k : KO} {pl : List Nat} (pok : PlOk P w L (hKO P w k) pl) {f : Nat → Option (Option Nat) × Unit → Sem (ForInStep (Option (Option Nat) × Unit))}
    (step : ∀ (i : Nat) (x : Row) (R : ForInStep (Option (Option Nat) × Unit) → Shared → Prop), L[i]? = some x → hKO P w x.1 = hKO P w k →
      (x.1 = k → R (.done (some (some i), ())) s) → (x.1 ≠ k → R (.yield (none, ())) s) → wpAny (model P w) A (f i (none, ())) R E s)
    {R : Option (Option Nat) × Unit → Shared → Prop} (r0 : (∀ x ∈ L, x.1 ≠ k) → R (none, ()) s)
    (r2 : ∀ (j : Nat) (x : Row), L[j]? = some x → x.1 = k → R (some (some j), ()) s) : wpAny (model P w) A (forIn pl (none, ()) f) R E s := by
  obtain ⟨pn, pm⟩ := pok
  refine wpAny_forIn_list _ (fun left b s' => s' = s ∧ ∃ done, b = (none, ()) ∧ pl = done ++ left ∧ ∀ i ∈ done, ∀ x, L[i]? = some x → x.1 ≠ k) _ ?_ ?_ _ _ ⟨rfl, [], rfl, rfl, fun _ h => nomatch h⟩
  · rintro i left b s' ⟨rfl, done, rfl, epl, g⟩
    have him : i ∈ pl := by rw [epl]; exact List.mem_append_right _ List.mem_cons_self
    obtain ⟨x, hx, hh⟩ := (pm i).1 him
    refine step i x _ hx hh (fun ek => r2 i x hx ek) fun nk => ?_
    refine ⟨rfl, done ++ [i], rfl, by rw [epl, List.append_assoc]; rfl, fun i' hi' y hy => ?_⟩
    rcases List.mem_append.mp hi' with z | z
    · exact g i' z y hy
    · rw [List.mem_singleton.mp z, hx] at hy
      exact fun ek => nk ((congrArg Prod.fst (Option.some.inj hy)).trans ek)
  · rintro b s' ⟨rfl, done, rfl, epl, g⟩
    rw [List.append_nil] at epl
    refine r0 fun x hx ek => ?_
    obtain ⟨i, hi⟩ := List.mem_iff_getElem?.mp hx
    exact g i (epl ▸ (pm i).2 ⟨x, hi, by rw [ek]⟩) x hi ek

/-- THE LOOK-UP -/
theorem find_o {d : Addr} {o : Obj} {es : Array DictEntry} {ep : Nat} {L : List Row} {k : KO} {v : Value} {Q : Option Nat → Shared → Prop} (hu : A.units < cLine) (hk : isKO P w s.heap k v) (ho : s.heap.get? d = some o) (hd : o.data = .dict es ep)
    (he : es.toList = L.map (entO P w)) (ks : KsO P w s.heap L) (nd : (L.map (·.1)).Nodup)
    (h0 : (∀ x ∈ L, x.1 ≠ k) → Q none s) (h1 : ∀ (j : Nat) (x : Row), L[j]? = some x → x.1 = k → Q (some j) s) : wpAny (model P w) A (dictFind d v (hKO P w k)) Q E s := by
  have at_ : ∀ i : Nat, es[i]? = (L[i]?).map (entO P w) := fun i => by rw [← Array.getElem?_toList, he, List.getElem?_map]
  obtain ⟨pn, pm⟩ := pl_ok he (hKO P w k)
  have away : ∀ done : List Nat, (∀ i, i ∈ placesWithHash es.size (fun i => es[i]?.map (·.hash)) (hKO P w k) → i ∈ done) → (∀ i ∈ done, ∀ x, L[i]? = some x → x.1 ≠ k) → ∀ x ∈ L, x.1 ≠ k := fun done h2 h3 x hx e => by
    obtain ⟨i, hi⟩ := List.mem_iff_getElem?.mp hx
    exact h3 i (h2 i ((pm i).2 ⟨x, hi, by rw [e]⟩)) x hi e
  generalize hpl : placesWithHash es.size (fun i => es[i]?.map (·.hash)) (hKO P w k) = pl at pn pm away
  have inL : ∀ i ∈ pl, ∃ x, L[i]? = some x ∧ es[i]? = some (entO P w x) ∧ isKO P w s.heap x.1 x.2.1 ∧ hKO P w x.1 = hKO P w k := fun i hi => by
    obtain ⟨x, hx, e⟩ := (pm i).1 hi
    exact ⟨x, hx, by rw [at_ i, hx]; rfl, ks x (List.mem_of_getElem? hx), e⟩
  have hst : ∀ u ∈ pl.filterMap (fun i => es[i]?.map (·.key)), ∃ j, isKO P w s.heap j u := by
    intro u hu'
    obtain ⟨i, hi, e⟩ := List.mem_filterMap.mp hu'
    obtain ⟨x, _, h2, h3, _⟩ := inL i hi
    rw [h2] at e
    have e2 : x.2.1 = u := Option.some.inj e
    exact ⟨x.1, e2 ▸ h3⟩
  have hany : ∀ a, v = Value.ref a → ¬ (es.any fun e => e.key == Value.ref a && e.hash != hKO P w k) = true := by
    rintro a rfl
    rw [← Array.any_toList, he, List.any_eq_true]
    rintro ⟨e, hin, hc⟩
    obtain ⟨x, hx, rfl⟩ := List.mem_map.mp hin
    have hc' : ((x.2.1 == Value.ref a) && (hKO P w x.1 != hKO P w k)) = true := hc
    rw [Bool.and_eq_true, beq_iff_eq, bne_iff_ne] at hc'
    have h2 := ks x hx
    rw [hc'.1] at h2
    exact hc'.2 (by rw [ko_inj h2 hk])
  unfold dictFind
  try with_reducible refine wpAny_holding ?_
  refine wpAny_bind (wpAny_dictEntries ho hd ?_)
  dsimp only
  rcases ko_nostr hk with rfl | ⟨a, rfl⟩
  · dsimp only
    rw [hpl]
    by_cases hall : (Value.none :: pl.filterMap (fun i => es[i]?.map (·.key))).all carriedByValue = true
    · rw [if_pos hall]
      refine wpAny_bind (loop_p (L := L) (k := k) ⟨pn, pm⟩ (fun i x R hx hh q1 q2 => ?_) (fun z => wpAny_pure (h0 z)) fun j x hx ek => wpAny_pure (h1 j x hx ek))
      rw [at_ i, hx]
      dsimp only [Option.map_some, entO]
      rw [if_pos (beq_iff_eq.mpr hh)]
      refine wpAny_bind (wpAny_dictEpoch ho hd (wpAny_bind (ko_eq hu (ks x (List.mem_of_getElem? hx)) hk (wpAny_bind (wpAny_dictEpoch ho hd ?_)))))
      rw [if_neg (by simp)]
      by_cases ek : x.1 = k
      · rw [if_pos (decide_eq_true ek)]
        exact wpAny_bind (wpAny_rule (wpAny_pure (q1 ek)))
      · rw [if_neg (by simp [ek])]
        exact wpAny_bind (wpAny_rule (wpAny_pure (q2 ek)))
    · rw [if_neg hall]
      by_cases hone : (pl.filterMap (fun i => es[i]?.map (·.key)) == [Value.none]) = true
      · rw [if_pos hone]
        refine wpAny_bind (wpAny_pure ?_)
        rw [if_neg (by simp)]
        refine wpAny_bind (loop_o (L := L) (k := k) ⟨pn, pm⟩ nd (fun i x hit R hx hh q0 q1 q2 q3 => ?_) (fun z => wpAny_pure (h0 z)) (fun j x hx ek => wpAny_pure (h1 j x hx ek)) fun j x hx ek => wpAny_pure (h1 j x hx ek))
        rw [at_ i, hx]
        dsimp only [Option.map_some, entO]
        rw [if_pos (beq_iff_eq.mpr hh)]
        refine wpAny_bind (wpAny_dictEpoch ho hd (wpAny_bind (ko_eq hu (ks x (List.mem_of_getElem? hx)) hk (wpAny_bind (wpAny_dictEpoch ho hd ?_)))))
        try dsimp only
        rw [if_neg (by simp)]
        by_cases ek : x.1 = k
        · rw [if_pos (decide_eq_true ek)]
          have eh := q0 ek
          subst eh
          rw [if_neg (by simp)]
          refine wpAny_bind (wpAny_rule ?_)
          split
          · exact wpAny_pure (q1 ek)
          · exact wpAny_pure (q2 ek)
        · rw [if_neg (by simp [ek])]
          refine wpAny_bind (wpAny_rule ?_)
          rw [if_neg (by simp)]
          exact wpAny_pure (q3 ek)
      · rw [if_neg hone]
        refine wpAny_bind (tell_quiet hk hst ?_)
        rw [if_neg (by simp)]
        refine wpAny_bind (loop_o (L := L) (k := k) ⟨pn, pm⟩ nd (fun i x hit R hx hh q0 q1 q2 q3 => ?_) (fun z => wpAny_pure (h0 z)) (fun j x hx ek => wpAny_pure (h1 j x hx ek)) fun j x hx ek => wpAny_pure (h1 j x hx ek))
        rw [at_ i, hx]
        dsimp only [Option.map_some, entO]
        rw [if_pos (beq_iff_eq.mpr hh)]
        refine wpAny_bind (wpAny_dictEpoch ho hd (wpAny_bind (ko_eq hu (ks x (List.mem_of_getElem? hx)) hk (wpAny_bind (wpAny_dictEpoch ho hd ?_)))))
        try dsimp only
        rw [if_neg (by simp)]
        by_cases ek : x.1 = k
        · rw [if_pos (decide_eq_true ek)]
          have eh := q0 ek
          subst eh
          rw [if_neg (by simp)]
          refine wpAny_bind (wpAny_rule ?_)
          split
          · exact wpAny_pure (q1 ek)
          · exact wpAny_pure (q2 ek)
        · rw [if_neg (by simp [ek])]
          refine wpAny_bind (wpAny_rule ?_)
          rw [if_neg (by simp)]
          exact wpAny_pure (q3 ek)
  · dsimp only
    rw [hpl]
    rw [if_neg (show ¬ (Value.ref a :: pl.filterMap (fun i => es[i]?.map (·.key))).all carriedByValue = true by simp [carriedByValue])]
    rw [if_neg (hany a rfl)]
    by_cases hone : (pl.filterMap (fun i => es[i]?.map (·.key)) == [Value.ref a]) = true
    · rw [if_pos hone]
      refine wpAny_bind (wpAny_pure ?_)
      rw [if_neg (by simp)]
      refine wpAny_bind (loop_o (L := L) (k := k) ⟨pn, pm⟩ nd (fun i x hit R hx hh q0 q1 q2 q3 => ?_) (fun z => wpAny_pure (h0 z)) (fun j x hx ek => wpAny_pure (h1 j x hx ek)) fun j x hx ek => wpAny_pure (h1 j x hx ek))
      rw [at_ i, hx]
      dsimp only [Option.map_some, entO]
      rw [if_pos (beq_iff_eq.mpr hh)]
      refine wpAny_bind (wpAny_dictEpoch ho hd (wpAny_bind (ko_eq hu (ks x (List.mem_of_getElem? hx)) hk (wpAny_bind (wpAny_dictEpoch ho hd ?_)))))
      try dsimp only
      rw [if_neg (by simp)]
      by_cases ek : x.1 = k
      · rw [if_pos (decide_eq_true ek)]
        have eh := q0 ek
        subst eh
        rw [if_neg (by simp)]
        refine wpAny_bind (wpAny_rule ?_)
        split
        · exact wpAny_pure (q1 ek)
        · exact wpAny_pure (q2 ek)
      · rw [if_neg (by simp [ek])]
        refine wpAny_bind (wpAny_rule ?_)
        rw [if_neg (by simp)]
        exact wpAny_pure (q3 ek)
    · rw [if_neg hone]
      refine wpAny_bind (tell_quiet hk hst ?_)
      rw [if_neg (by simp)]
      refine wpAny_bind (loop_o (L := L) (k := k) ⟨pn, pm⟩ nd (fun i x hit R hx hh q0 q1 q2 q3 => ?_) (fun z => wpAny_pure (h0 z)) (fun j x hx ek => wpAny_pure (h1 j x hx ek)) fun j x hx ek => wpAny_pure (h1 j x hx ek))
      rw [at_ i, hx]
      dsimp only [Option.map_some, entO]
      rw [if_pos (beq_iff_eq.mpr hh)]
      refine wpAny_bind (wpAny_dictEpoch ho hd (wpAny_bind (ko_eq hu (ks x (List.mem_of_getElem? hx)) hk (wpAny_bind (wpAny_dictEpoch ho hd ?_)))))
      try dsimp only
      rw [if_neg (by simp)]
      by_cases ek : x.1 = k
      · rw [if_pos (decide_eq_true ek)]
        have eh := q0 ek
        subst eh
        rw [if_neg (by simp)]
        refine wpAny_bind (wpAny_rule ?_)
        split
        · exact wpAny_pure (q1 ek)
        · exact wpAny_pure (q2 ek)
      · rw [if_neg (by simp [ek])]
        refine wpAny_bind (wpAny_rule ?_)
        rw [if_neg (by simp)]
        exact wpAny_pure (q3 ek)


def atO (L : List Row) (k : KO) : Option Value := (L.find? fun x => decide (x.1 = k)).map (·.2.2)
theorem atO_none {L : List Row} {k : KO} (h : ∀ x ∈ L, x.1 ≠ k) : atO L k = none := by
  have e : (L.find? fun x => decide (x.1 = k)) = none := by
    rw [List.find?_eq_none]
    intro x hx hk
    exact h x hx (of_decide_eq_true hk)
  unfold atO
  rw [e]
  rfl
theorem atO_some {L : List Row} {k : KO} (nd : (L.map (·.1)).Nodup) {j : Nat} {x : Row} (hx : L[j]? = some x) (ek : x.1 = k) : atO L k = some x.2.2 := by
  unfold atO
  cases q : L.find? fun x => decide (x.1 = k) with
  | none =>
    rw [List.find?_eq_none] at q
    exact absurd (decide_eq_true ek) (q x (List.mem_of_getElem? hx))
  | some y =>
    have ey : y.1 = k := by simpa using List.find?_some q
    obtain ⟨i, hi⟩ := List.mem_iff_getElem?.mp (List.mem_of_find?_eq_some q)
    have e := key_one nd hi hx (ey.trans ek.symm)
    subst e
    rw [hi] at hx
    rw [Option.some.inj hx]
    rfl
theorem get_o {d : Addr} {L : List Row} {k : KO} {v : Value} {Q : Option Value → Shared → Prop} (hu : A.units < cLine) (hk : isKO P w s.heap k v) (D : DO P w s.heap d L) (ks : KsO P w s.heap L)
    (h : ∀ t, Q (atO L k) { s with toks := t }) : wpAny (model P w) A (dictGet d v) Q E s := by
  obtain ⟨⟨o, es, ep, ho, hc, hd, he⟩, nd⟩ := D
  have at_ : ∀ i : Nat, es[i]? = (L[i]?).map (entO P w) := fun i => by rw [← Array.getElem?_toList, he, List.getElem?_map]
  unfold dictGet
  try with_reducible refine wpAny_holding ?_
  refine wpAny_bind (ko_hash hu hk fun t => wpAny_bind (find_o (s := { s with toks := t }) hu hk ho hd he ks nd (fun hno => ?_) fun j x hx ek => ?_))
  · have e := h t
    rw [atO_none hno] at e
    exact wpAny_pure e
  · have e := h t
    rw [atO_some nd hx ek] at e
    refine wpAny_bind (wpAny_dictEntries (s := { s with toks := t }) ho hd ?_)
    rw [at_ j, hx]
    exact wpAny_pure e
/-- a new key goes to the end -/
theorem set_o {d : Addr} {L : List Row} {k : KO} {v z : Value} {Q : Unit → Shared → Prop} (hu : A.units < cLine) (hk : isKO P w s.heap k v) (D : DO P w s.heap d L) (ks : KsO P w s.heap L) (new : ∀ x ∈ L, x.1 ≠ k) (hz : L.length ≤ sizeLine)
    (h : ∀ h' t, DO P w h' d (L ++ [(k, v, z)]) → Heap.SameBut d s.heap h' → Q () { s with heap := h', toks := t }) : wpAny (model P w) A (dictSet d v z) Q E s := by
  obtain ⟨⟨o, es, ep, ho, hc, hd, he⟩, nd⟩ := D
  have hsz : es.size = L.length := by rw [← Array.length_toList, he, List.length_map]
  unfold dictSet
  try with_reducible refine wpAny_holding ?_
  refine wpAny_bind (ko_hash hu hk fun t => ?_)
  unfold dictSetHashed
  try with_reducible refine wpAny_holding ?_
  refine wpAny_bind (find_o (s := { s with toks := t }) hu hk ho hd he ks nd (fun hno => ?_) fun j x hx ek => absurd ek (new x (List.mem_of_getElem? hx)))
  refine wpAny_bind (wpAny_rule (wpAny_updateDictKeys (hz := by omega) (s := { s with toks := t }) ho hd (h _ _ ⟨⟨_, _, ep + 1, Heap.get?_update_self _ ho (Obj.isFreed_of_dict (Obj.data_mapDictKeys hd _)),
      hc.mapDictKeys _, Obj.data_mapDictKeys hd _, ?_⟩, ?_⟩ (Heap.SameBut.update ..))))
  · rw [List.map_append, ← he]
    simp [entO]
  · rw [List.map_append, List.nodup_append]
    refine ⟨nd, by simp, ?_⟩
    intro x hx y hy e
    obtain ⟨r, hr, er⟩ := List.mem_map.mp hx
    have hy' : y = k := by simpa using hy
    exact new r hr (er.trans (e.trans hy'))
theorem DO.typeIs {d : Addr} {L : List Row} (D : DO P w s.heap d L) : s.TypeIs (.ref d) "dict" := let ⟨⟨o, _, _, ho, hc, _⟩, _⟩ := D; ⟨o, ho, hc.1⟩
theorem DO.at {h h' : Heap} {d : Addr} {L : List Row} (D : DO P w h d L) (k : ∀ o, h.get? d = some o → h'.get? d = some o) : DO P w h' d L :=
  let ⟨⟨o, es, ep, ho, r⟩, nd⟩ := D; ⟨⟨o, es, ep, k o ho, r⟩, nd⟩
theorem DO.lt {h : Heap} {d : Addr} {L : List Row} (D : DO P w h d L) : d < h.objs.size := let ⟨⟨_, _, _, ho, _⟩, _⟩ := D; Heap.lt_size ho

theorem has_o {d : Addr} {L : List Row} {k : KO} {v : Value} {Q : Bool → Shared → Prop} (hu : A.in1.units < cLine) (hk : isKO P w s.heap k v) (hd : (d == sysModules) = false) (D : DO P w s.heap d L) (ks : KsO P w s.heap L)
    (h : ∀ t, Q (atO L k).isSome { s with toks := t }) : wpAny (model P w) A (contains (.ref d) v) Q E s := by
  unfold contains
  try with_reducible refine wpAny_holding ?_
  refine wpAny_bind (wpAny_specialOf D.typeIs slot_dict_contains.lookup ?_)
  show wpAny _ _ (if (some (Value.builtin "dict.__contains__") == some Value.none) = true then _ else _) _ E s
  rw [if_neg (by rw [beq_builtin_none]; exact Bool.false_ne_true)]
  refine wpAny_bind (wpAny_callSpecialUnlessNone?_slot (name := Str.ofString "__contains__") D.typeIs slot_dict_contains
    (wpAny_call_entry slot_dict_contains D.typeIs entry_dict_contains ?_ (args_dict_contains _ _)))
  show wpAny _ _ (dictGet d v >>= _) _ _ s
  refine wpAny_bind (get_o hu hk D ks fun t => ?_)
  have e := h t
  cases hf : atO L k with
  | some p =>
    rw [hf] at e
    show wpAny _ _ (ret (.bool true)) _ _ _
    exact wpAny_pure ⟨_, rfl, wpAny_truthy_bool e⟩
  | none =>
    rw [hf] at e
    show wpAny _ _ (Builtin.Dict.pendingKey? d v >>= _) _ _ _
    exact wpAny_bind (wpAny_pendingKey_other hd (wpAny_pure ⟨_, rfl, wpAny_truthy_bool e⟩))
theorem item_o {d : Addr} {L : List Row} {k : KO} {v z : Value} {Q : Value → Shared → Prop} (hu : A.in1.units < cLine) (hk : isKO P w s.heap k v) (D : DO P w s.heap d L) (ks : KsO P w s.heap L) (hz : atO L k = some z)
    (h : ∀ t, Q z { s with toks := t }) : wpAny (model P w) A (getItem (.ref d) v) Q E s := by
  unfold getItem
  try with_reducible refine wpAny_holding ?_
  refine wpAny_bind (wpAny_sequenceKey D.typeIs (by decide) ?_)
  refine wpAny_bind (wpAny_callSpecial?_slot (name := Str.ofString "__getitem__") D.typeIs slot_dict_getitem
    (wpAny_call_entry slot_dict_getitem D.typeIs entry_dict_getitem ?_ (args_dict_getitem _ _)))
  show wpAny _ _ (dictGet d v >>= _) _ _ s
  refine wpAny_bind (get_o hu hk D ks fun t => ?_)
  rw [hz]
  exact wpAny_pure ⟨z, rfl, wpAny_pure (h t)⟩
theorem size_o {d : Addr} (hd : (d == sysModules) = false) :
    MeetsIn P w (Builtin.«dict.__len__» ⟨[.ref d], []⟩) (fun _ R s => ∃ L, DO P w s.heap d L ∧ R (.ok (.ret (.int L.length s.toks))) { s with toks := s.toks + 1 }) :=
  .of_wp fun A R s ⟨L, D, h⟩ => by
    obtain ⟨⟨o, es, ep, ho, hc, hdat, he⟩, nd⟩ := D
    have hsz : es.size = L.length := by rw [← Array.length_toList, he, List.length_map]
    show wpAny _ _ (dictSize d >>= _) _ _ s
    unfold dictSize
    refine wpAny_bind (wpAny_bind (wpAny_dictEntries ho hdat (wpAny_pure ?_)))
    show wpAny _ _ (Builtin.Dict.pendingCount d >>= _) _ _ s
    refine wpAny_bind (wpAny_pendingCount_other hd ?_)
    refine wpAny_ret_mkInt ?_
    rw [Nat.add_zero, hsz]; exact h
theorem len_o {d : Addr} {L : List Row} {Q : Value → Shared → Prop} (hd : (d == sysModules) = false) (D : DO P w s.heap d L) (hz : L.length ≤ sizeLine)
    (h : ∀ u t, Q (.int L.length u) { s with toks := t }) : wpAny (model P w) A (call (.builtin "len") [.ref d]) Q E s := by
  have hb : (L.length : Int) < 2 ^ 63 := by rw [sizeLine_eq] at hz; omega
  refine Calls.call_function_entry kind_len plain_len entry_len (args_len1 _) ?_
  unfold Builtin.«len»
  refine wpAny_bind (m := oneArg "len" _) (wpAny_pure ?_)
  refine wpAny_bind (m := callSpecial? (.ref d) (Str.ofString "__len__")) (wpAny_callSpecial?_slot (name := Str.ofString "__len__") D.typeIs F.slot_dict_len
    (call_meetsIn F.slot_dict_len D.typeIs F.entry_dict_len (F.args_dict_len_1 _) (size_o (P := P) (w := w) hd) ⟨L, D, ?_⟩))
  show wpAny _ _ _ _ _ { s with toks := s.toks + 1 }
  refine wpAny_bind (wpAny_holding (wpAny_pure ?_))
  refine wpAny_bind (wpAny_letGo ?_)
  show wpAny _ _ (if ((L.length : Nat) : Int) < 0 then _ else _) _ _ _
  rw [if_neg (by omega)]
  show wpAny _ _ (if ((L.length : Nat) : Int) ≥ 2 ^ 63 then _ else _) _ _ _
  rw [if_neg (by omega)]
  exact wpAny_bind (wpAny_mkInt (wpAny_pure ⟨_, rfl, h _ _⟩))
end

/-! ### over the abstract heap -/
abbrev RowV := KO × V × V
def KeyV (H : Hp) : KO → V → Prop
  | none, v => v = .non
  | some ks, v => ∃ a, v = .ref a ∧ H a = some (.tup (ks.map kV))
theorem KeyV.mono {H H' : Hp} (e : Tk H H') {k : KO} {v : V} (h : KeyV H k v) : KeyV H' k v := by
  cases k with
  | none => exact h
  | some ks =>
    obtain ⟨a, e1, e2⟩ := h
    exact ⟨a, e1, e _ _ e2⟩
abbrev RowRel (r : RowV) (x : Row) : Prop := r.1 = x.1 ∧ RelV r.2.1 x.2.1 ∧ RelV r.2.2 x.2.2
/-- the dict at d with the rows R -/
def DicO (P : Program) (w : World) (d : Addr) (R : List RowV) : HO := .ext fun h => ∃ L : List Row, DO P w h d L ∧ Paired RowRel R L
def KsV (H : Hp) (R : List RowV) : Prop := ∀ r ∈ R, KeyV H r.1 r.2.1
theorem KsV.mono {H H' : Hp} (e : Tk H H') {R : List RowV} (h : KsV H R) : KsV H' R := fun r hr => (h r hr).mono e
def atV (R : List RowV) (k : KO) : Option V := (R.find? fun x => decide (x.1 = k)).map (·.2.2)
theorem rows_at {R : List RowV} {L : List Row} (r : Paired RowRel R L) (k : KO) : RelO (atV R k) (atO L k) := by
  unfold atV atO
  induction r with
  | nil => trivial
  | @cons a b as bs h t ih =>
    rw [List.find?_cons, List.find?_cons]
    by_cases e : a.1 = k
    · have e2 : b.1 = k := h.1.symm.trans e
      rw [decide_eq_true e, decide_eq_true e2]
      exact h.2.2
    · have e2 : ¬ b.1 = k := fun z => e (h.1.trans z)
      rw [decide_eq_false e, decide_eq_false e2]
      exact ih
theorem rows_keys {R : List RowV} {L : List Row} (r : Paired RowRel R L) : R.map (·.1) = L.map (·.1) := by
  induction r with
  | nil => rfl
  | cons h t ih => rw [List.map_cons, List.map_cons, h.1, ih]
theorem rows_mem {R : List RowV} {L : List Row} (r : Paired RowRel R L) : ∀ x ∈ L, ∃ y ∈ R, RowRel y x := by
  induction r with
  | nil => intro x hx; cases hx
  | @cons a b as bs h t ih =>
    intro x hx
    rcases List.mem_cons.mp hx with e | hx
    · exact ⟨a, List.mem_cons_self, e ▸ h⟩
    · obtain ⟨y, hy, q⟩ := ih x hx
      exact ⟨y, List.mem_cons_of_mem _ hy, q⟩
section
variable {X : Cx} {pins : List (Addr × Obj)} {σ : L2.St} {H : Hp} {s : Shared}
theorem key_is (I : Inv X pins σ H s) {k : KO} {v : V} {u : Value} (h : KeyV H k v) (r : RelV v u) : isKO X.prog X.w s.heap k u := by
  cases k with
  | none =>
    have e : v = .non := h
    subst e
    exact r
  | some ks =>
    obtain ⟨a, rfl, ha⟩ := h
    exact ⟨a, r, key_of I.hok ha⟩
theorem rows_is (I : Inv X pins σ H s) {R : List RowV} {L : List Row} (ks : KsV H R) (r : Paired RowRel R L) : KsO X.prog X.w s.heap L := fun x hx => by
  obtain ⟨y, hy, e1, e2, _⟩ := rows_mem r x hx
  rw [← e1]
  exact key_is I (ks y hy) e2
theorem dic_get (I : Inv X pins σ H s) {d : Addr} {R : List RowV} (h : H d = some (DicO X.prog X.w d R)) : ∃ L, DO X.prog X.w s.heap d L ∧ Paired RowRel R L := (I.hok d _ h).1
theorem dic_new {P : Program} {w : World} {H : Hp} {h : Heap} {d : Addr} {R : List RowV} {L : List Row} (D : DO P w h d L) (r : Paired RowRel R L) : ObjOk P w H h d (DicO P w d R) := by
  refine ⟨⟨L, D, r⟩, ?_, fun h1 h2 => ?_⟩
  · obtain ⟨⟨o, _, _, ho, _⟩, _⟩ := D
    exact ⟨o, ho⟩
  · rintro ⟨L', D', r'⟩ k
    exact ⟨L', D'.at k, r'⟩
theorem Inv.main (I : Inv X pins σ H s) : sysModules < s.heap.objs.size := I.big
/-- a name for a dict that isn't sys.modules -/
def NotSys (d : Addr) : Prop := (d == sysModules) = false

def rGetO (P : Program) (w : World) : R2 := fun x y H Q => ∃ (d : Addr) (R : List RowV) (k : KO) (z : V), x = .ref d ∧ H d = some (DicO P w d R) ∧ KsV H R ∧ KeyV H k y ∧ atV R k = some z ∧ Q z H
theorem ix_o (hu : X.A.units + 64 < cLine) : IxR X (rGetO X.prog X.w) := by
  intro value slice pins s σ H x y v u Q I rx ry h hs
  obtain ⟨d, R, k, z, rfl, hd, ks, hk, hz, q⟩ := h
  have ev : v = Value.ref d := rx
  subst ev
  obtain ⟨L, D, r⟩ := dic_get I hd
  have ra := rows_at r k
  rw [hz] at ra
  obtain ⟨zu, ez, rz⟩ := ra.some_of
  refine PyProof.Rows.tail_any D.typeIs slot_dict_getitem.lookup (item_o (by show X.A.units + 1 < cLine; omega) (key_is I hk ry) D (rows_is I ks r) ez fun t => ?_) hs
  exact ⟨z, H, I.tok _, rz, q⟩
def rInO (P : Program) (w : World) (neg : Bool) : R2 := fun x y H Q => ∃ (d : Addr) (R : List RowV) (k : KO), y = .ref d ∧ (d == sysModules) = false ∧ H d = some (DicO P w d R) ∧ KsV H R ∧ KeyV H k x ∧ Q (.bl (if neg then !(atV R k).isSome else (atV R k).isSome)) H
theorem op_inO (hu : X.A.units + 64 < cLine) : OpR X (compareOp .In) (rInO X.prog X.w false) := by
  intro pins s σ H x y v u Q I rx ry h
  obtain ⟨d, R, k, rfl, hs, hd, ks, hk, q⟩ := h
  have ev : u = Value.ref d := ry
  subst ev
  obtain ⟨L, D, r⟩ := dic_get I hd
  show wpAny _ _ (contains (Value.ref d) v >>= fun c => pure (Value.bool c)) _ _ s
  refine wpAny_bind (has_o (by show X.A.units + 1 < cLine; omega) (key_is I hk rx) hs D (rows_is I ks r) fun t => wpAny_pure ⟨.bl _, H, I.tok _, ?_, q⟩)
  show Value.bool _ = Value.bool _
  rw [← (rows_at r k).isSome_eq]
  rfl
theorem op_ninO (hu : X.A.units + 64 < cLine) : OpR X (compareOp .NotIn) (rInO X.prog X.w true) := by
  intro pins s σ H x y v u Q I rx ry h
  obtain ⟨d, R, k, rfl, hs, hd, ks, hk, q⟩ := h
  have ev : u = Value.ref d := ry
  subst ev
  obtain ⟨L, D, r⟩ := dic_get I hd
  show wpAny _ _ (contains (Value.ref d) v >>= fun c => pure (Value.bool (!c))) _ _ s
  refine wpAny_bind (has_o (by show X.A.units + 1 < cLine; omega) (key_is I hk rx) hs D (rows_is I ks r) fun t => wpAny_pure ⟨.bl _, H, I.tok _, ?_, q⟩)
  show Value.bool _ = Value.bool _
  rw [← (rows_at r k).isSome_eq]
  rfl
def rLenO (P : Program) (w : World) : List V → Hp → VK → Prop := fun xs H Q => ∃ (d : Addr) (R : List RowV), xs = [.ref d] ∧ (d == sysModules) = false ∧ H d = some (DicO P w d R) ∧ R.length ≤ sizeLine ∧ Q (.int ((R.length : Nat) : Int)) H
theorem cr_lenO : CallR X (.builtin "len") (rLenO X.prog X.w) := by
  intro pins s σ H xs us Q I r h
  obtain ⟨d, R, rfl, hs, hd, hz, q⟩ := h
  obtain ⟨u, rfl, rx⟩ := vals1 r
  have ev : u = Value.ref d := rx
  subst ev
  obtain ⟨L, D, rr⟩ := dic_get I hd
  have hl : R.length = L.length := Paired.length rr
  refine len_o hs D (by omega) fun u t => ⟨.int ((R.length : Nat) : Int), H, I.tok _, ⟨u, by rw [hl]⟩, q⟩

/-! ### dict(pairs) -/
abbrev PairV (H : Hp) (r : RowV) (x : V) : Prop := ∃ p, x = .ref p ∧ H p = some (.tup [r.2.1, r.2.2]) ∧ KeyV H r.1 r.2.1
theorem pairs_raw (I : Inv X pins σ H s) : ∀ {R : List RowV} {xs : List V} {us : List Value}, Paired (PairV H) R xs → Vals xs us →
    ∃ L : List Row, Paired RowRel R L ∧ KsO X.prog X.w s.heap L ∧ us.length = L.length ∧ ∃ Ts : Nat → Addr, ∀ (j : Nat) (x : Row), L[j]? = some x → us[j]? = some (.ref (Ts j)) ∧ s.heap.IsTuple (Ts j) #[x.2.1, x.2.2]
  | [], _, _, h, r => by
    cases h
    cases r
    exact ⟨[], .nil, fun x hx => (by cases hx), rfl, fun _ => 0, fun j x hj => by simp at hj⟩
  | r0 :: R, _, _, h, r => by
    cases h with
    | cons h1 h2 =>
      cases r with
      | cons r1 r2 =>
        obtain ⟨L, p1, p2, p3, Ts, p4⟩ := pairs_raw I h2 r2
        obtain ⟨p, rfl, hp, hk⟩ := h1
        obtain ⟨its, rv, ht, _⟩ := I.tuple (SqT.of hp)
        obtain ⟨a, b, rfl, ra, rb⟩ := vals2 rv
        refine ⟨(r0.1, a, b) :: L, .cons ⟨rfl, ra, rb⟩ p1, fun x hx => ?_, by rw [List.length_cons, List.length_cons, p3], fun j => match j with | 0 => p | j + 1 => Ts j, fun j x hj => ?_⟩
        · rcases List.mem_cons.mp hx with e | hx
          · subst e
            exact key_is I hk ra
          · exact p2 x hx
        · cases j with
          | zero =>
            have e : (r0.1, a, b) = x := Option.some.inj hj
            subst e
            exact ⟨congrArg some r1, ht⟩
          | succ j => exact p4 j x hj
/-- a tuple's own object, without a dict -/
def PlT (H : Hp) (a : Addr) (xs : List V) : Prop := ∃ o : Obj, H a = some (.frz o (.tup xs)) ∧ o.cls = .type "tuple" ∧ o.dict = none
theorem PlT.sq {K : PySem.W.Frag} {H : Hp} {a : Addr} {xs : List V} (h : PlT H a xs) : SqT K H a xs := by
  obtain ⟨o, e, _⟩ := h
  exact .inl (.inr ⟨o, e⟩)
theorem PlT.ex {H H' : Hp} {a : Addr} {xs : List V} (e : Ex H H') (h : PlT H a xs) : PlT H' a xs := by
  obtain ⟨o, h1, r⟩ := h
  exact ⟨o, e _ _ h1, r⟩
def rTupF (K : PySem.W.Frag) : List V → Hp → VK → Prop := fun vs H Q => ∃ (l : Addr) (ys : List V), vs = [.ref l] ∧ SqL K H l ys ∧ ∀ p o, H p = none → o.cls = .type "tuple" → o.dict = none → Q (.ref p) (upd H p (.frz o (.tup ys)))
theorem cr_tupF : CallR X (.type "tuple") (rTupF X.K) := by
  intro pins s σ H vs us Q I r h
  obtain ⟨l, ys, rfl, hq, q⟩ := h
  obtain ⟨u, rfl, rx⟩ := vals1 r
  have ev : u = Value.ref l := rx
  subst ev
  obtain ⟨its, r', pl, hz⟩ := I.list hq
  have hlen := r'.length
  refine PySem.call_tuple_list pl.isList (fun h' kp => ?_) (by simp only [List.size_toArray] <;> omega)
  have I1 : L2.Inv X pins σ H { s with heap := h' } := I.kept (t' := s.toks) kp
  have I2 := I1.laid (t' := s.toks) (o := .frz { cls := .type "tuple", data := .seq its.toArray } (.tup ys)) (fun b o e => Heap.get?_push_of_some _ e) (Nat.le_refl _)
    (⟨Heap.get?_push_size _ rfl, hz, its, r', PyProof.Rows.IsTup.new _ _⟩ : ObjOk X.prog X.w _ (h'.push { cls := .type "tuple", data := .seq its.toArray }) h'.objs.size (.frz { cls := .type "tuple", data := .seq its.toArray } (.tup ys)))
  exact ⟨.ref h'.objs.size, _, I2, rfl, q _ _ (I1.hok.fresh (Nat.le_refl _)) rfl rfl⟩
/-- isinstance(a tuple, tuple) -/
def rIsT (K : PySem.W.Frag) (c : String) (b : Bool) : List V → Hp → VK → Prop := fun vs H Q => ∃ (a : Addr) (ys : List V), vs = [.ref a, .ty c] ∧ SqT K H a ys ∧ PySem.W.kitOne K (.type "tuple") (.type c) = some b ∧ Q (.bl b) H
theorem cr_isT {c : String} {b : Bool} : CallR X (.builtin "isinstance") (rIsT X.K c b) := by
  intro pins s σ H vs us Q I r h
  obtain ⟨a, ys, rfl, ha, e, q⟩ := h
  obtain ⟨u1, u2, rfl, r1, r2⟩ := vals2 r
  have e1 : u1 = Value.ref a := r1
  have e2 : u2 = Value.type c := r2
  subst e1 e2
  obtain ⟨its, rv, ⟨o, ho, hc, n, hd⟩, _⟩ := I.tuple ha
  exact PySem.W.kia_one PySem.W.kitx_tuple I.kIn ⟨o, ho, hc⟩ e (fun z => nomatch z) fun tk => ⟨.bl b, H, I.tok tk, rfl, q⟩
/-- isinstance(an int, c), isinstance(a text, c) -/
def rIsF (K : PySem.W.Frag) (c : String) (b : Bool) : List V → Hp → VK → Prop := fun vs H Q => ∃ x : V, vs = [x, .ty c] ∧ ((∃ i, x = .int i ∧ PySem.W.kitOne K (.type "int") (.type c) = some b) ∨ ∃ z, x = .str z ∧ PySem.W.kitOne K (.type "str") (.type c) = some b) ∧ Q (.bl b) H
theorem cr_isF {c : String} {b : Bool} : CallR X (.builtin "isinstance") (rIsF X.K c b) := by
  intro pins s σ H vs us Q I r h
  obtain ⟨x, rfl, hx, q⟩ := h
  obtain ⟨u1, u2, rfl, r1, r2⟩ := vals2 r
  have e2 : u2 = Value.type c := r2
  subst e2
  rcases hx with ⟨i, rfl, e⟩ | ⟨z, rfl, e⟩
  · exact isinst_ok I r1 (.int i) e fun tk => ⟨.bl b, H, I.tok tk, rfl, q⟩
  · exact isinst_ok I r1 (.str z) e fun tk => ⟨.bl b, H, I.tok tk, rfl, q⟩
def rDictO (K : PySem.W.Frag) (P : Program) (w : World) : List V → Hp → VK → Prop := fun vs H Q => ∃ (a : Addr) (xs : List V) (R : List RowV), vs = [.ref a] ∧ (H a = some (.lst xs) ∨ PlT H a xs) ∧ Paired (PairV H) R xs ∧ (R.map (·.1)).Nodup ∧
  ∀ d, H d = none → (d == sysModules) = false → Q (.ref d) (upd H d (DicO P w d R))
theorem is_of {h : Heap} {its : Array Value} {L : List Row} {Ts : Nat → Addr} (hl : its.size = L.length) (hp : ∀ (j : Nat) (x : Row), L[j]? = some x → its[j]? = some (.ref (Ts j)) ∧ h.IsTuple (Ts j) #[x.2.1, x.2.2]) :
    PairItems h its Ts (L.map (·.2)) := by
  refine ⟨by rw [List.length_map]; exact hl, fun j k v hj => ?_⟩
  rw [List.getElem?_map] at hj
  cases q : L[j]? with
  | none => rw [q] at hj; cases hj
  | some x =>
    rw [q] at hj
    have e : x.2 = (k, v) := Option.some.inj hj
    obtain ⟨h1, h2⟩ := hp j x q
    have e1 : x.2.1 = k := congrArg Prod.fst e
    have e2 : x.2.2 = v := congrArg Prod.snd e
    rw [e1, e2] at h2
    exact ⟨h1, .inl h2⟩
theorem dict_core {P : Program} {w : World} {A : Around} {E : Value → Shared → Prop} {s : Shared} {T : String} {a : Addr} {fp : List Addr} {Rel : Nat → Value → Value → Prop} {OK : Heap → Prop} {L : List Row} {Q : Value → Shared → Prop}
    (Pa : PairArg P w T a fp [] L.length Rel OK) (hrel : ∀ i k v, Rel i k v → ∃ x, L[i]? = some x ∧ x.2 = (k, v)) (ok : OK s.heap) (hh : A.handled = none) (hu : A.units + 64 < cLine) (hz : L.length ≤ sizeLine) (nd : (L.map (·.1)).Nodup) (ks : KsO P w s.heap L)
    (h : ∀ h' tk, DO P w h' s.heap.objs.size L → (∀ b o, s.heap.get? b = some o → h'.get? b = some o) → Q (.ref s.heap.objs.size) { s with heap := h', toks := tk }) :
    wpAny (model P w) A (call (.type "dict") [.ref a]) Q E s := by
  refine call_dict_arg Pa ok fun s₁ hs₁ hdf ok₁ => ?_
  subst hs₁
  have ksAt : ∀ (h2 : Heap), (∀ b o, s.heap.get? b = some o → h2.get? b = some o) → KsO P w h2 L := fun h2 k x hx => ko_all (ks x hx) k
  refine updateFrom_arg (A := A.in1) (Tab := fun i h2 => DO P w h2 s.heap.objs.size (L.take i) ∧ ∀ b o, s.heap.get? b = some o → h2.get? b = some o) Pa .none hh ok₁ hdf ⟨⟨⟨_, #[], 0, Heap.get?_push_size _ rfl, ⟨rfl, rfl, rfl⟩, rfl, rfl⟩, List.nodup_nil⟩, fun b o e => Heap.get?_push_of_some _ e⟩
    (fun _ _ tb => tb.1.lt) ?_ ?_ ?_
  · intro i h1 h2 wr' hd hw tb hk
    refine ⟨tb.1.at fun o e => hk _ o hd e, fun b o e => hk b o (fun hm => ?_) (tb.2 b o e)⟩
    rcases hw b hm with z | z
    · cases z
    · have q := Heap.get?_push_of_some (({ cls := .type "dict", data := .dict #[] } : Obj)) e
      have z' : (s.heap.push { cls := .type "dict", data := .dict #[] }).get? b = none := z
      rw [q] at z'
      cases z'
  · intro i k v s' Q' E' hi hr tb _ hQ
    obtain ⟨x, hx, ex⟩ := hrel i k v hr
    have ek : x.2.1 = k := congrArg Prod.fst ex
    have ev : x.2.2 = v := congrArg Prod.snd ex
    have kk := ksAt s'.heap tb.2
    have hik : isKO P w s'.heap x.1 k := by rw [← ek]; exact kk x (List.mem_of_getElem? hx)
    refine set_o (by show A.units + 2 < cLine; omega) hik tb.1 (fun y hy => kk y (List.mem_of_mem_take hy)) (fun y hy e => ?_) (by rw [List.length_take]; omega) fun h' t D' sb => ?_
    · obtain ⟨j, hj⟩ := List.mem_iff_getElem?.mp hy
      have hji : j < i := by
        have h1 := (List.getElem?_eq_some_iff.mp hj).1
        rw [List.length_take] at h1
        omega
      rw [List.getElem?_take_of_lt hji] at hj
      have := key_one nd hj hx e
      omega
    · refine hQ h' t ⟨?_, fun b o e => (sb.2 b (Nat.ne_of_lt (Heap.lt_size e))).trans (tb.2 b o e)⟩ sb
      have e2 : L.take (i + 1) = L.take i ++ [(x.1, k, v)] := by
        rw [List.take_add_one, hx, ← ek, ← ev]
        rfl
      rw [e2]
      exact D'
  · intro h' tk tb hk
    have e : L.take L.length = L := List.take_length
    rw [e] at tb
    exact ⟨rfl, h h' tk tb.1 tb.2⟩
theorem cr_dictO (hc : X.calm = true) (hu : X.A.units + 64 < cLine) : CallR X (.type "dict") (rDictO X.K X.prog X.w) := by
  intro pins s σ H vs us Q I r h
  obtain ⟨a, xs, R, rfl, ha, hp, nd, q⟩ := h
  obtain ⟨u, rfl, rx⟩ := vals1 r
  have ev : u = Value.ref a := rx
  subst ev
  have hsys : (s.heap.objs.size == sysModules) = false := beq_eq_false_iff_ne.mpr (Nat.ne_of_gt I.big)
  have hlR : xs.length = R.length := (Paired.length hp).symm
  rcases ha with ha | ha
  · obtain ⟨hz, its, n, rv, ho⟩ := (show ObjOk X.prog X.w H s.heap a (.lst xs) from I.hok a _ ha)
    obtain ⟨L, p1, p2, p3, Ts, p4⟩ := pairs_raw I hp rv
    have hl : R.length = L.length := Paired.length p1
    have hps : (L.map (·.2)).length = L.length := List.length_map _
    have Pa := PairArg.list (prog := X.prog) (w := X.w) a its.toArray Ts (L.map (·.2))
    rw [hps] at Pa
    refine dict_core Pa (fun i k v hr => ?_) ⟨⟨_, n, ho, rfl, rfl, rfl⟩, is_of (by simpa using p3) (fun j x hj => ⟨by simpa using (p4 j x hj).1, (p4 j x hj).2⟩)⟩ (I.ok.hd hc) hu (by omega) (by rw [← rows_keys p1]; exact nd) p2 fun h' tk D k => ?_
    · have hr' : (L.map (·.2))[i]? = some (k, v) := hr
      rw [List.getElem?_map] at hr'
      cases e : L[i]? with
      | none => rw [e] at hr'; cases hr'
      | some x => rw [e] at hr'; exact ⟨x, rfl, Option.some.inj hr'⟩
    · exact ⟨.ref s.heap.objs.size, upd H s.heap.objs.size (DicO X.prog X.w s.heap.objs.size R), I.laid (t' := tk) k (Nat.le_refl _) (dic_new D p1), rfl, q _ (I.hok.fresh (Nat.le_refl _)) hsys⟩
  · obtain ⟨ob, hf, hc2, hd2⟩ := ha
    obtain ⟨ho', hz, its, rv, ob2, ho, _, n, hdt⟩ := (show ObjOk X.prog X.w H s.heap a (.frz ob (.tup xs)) from I.hok a _ hf)
    obtain rfl : ob2 = ob := Option.some.inj (ho.symm.trans ho')
    obtain ⟨L, p1, p2, p3, Ts, p4⟩ := pairs_raw I hp rv
    have hl : R.length = L.length := Paired.length p1
    have hps : (L.map (·.2)).length = L.length := List.length_map _
    have Pa := PairArg.tuple (prog := X.prog) (w := X.w) a its.toArray Ts (L.map (·.2))
    rw [hps] at Pa
    refine dict_core Pa (fun i k v hr => ?_) ⟨⟨_, n, ho, hc2, hd2, hdt⟩, is_of (by simpa using p3) (fun j x hj => ⟨by simpa using (p4 j x hj).1, (p4 j x hj).2⟩)⟩ (I.ok.hd hc) hu (by omega) (by rw [← rows_keys p1]; exact nd) p2 fun h' tk D k => ?_
    · have hr' : (L.map (·.2))[i]? = some (k, v) := hr
      rw [List.getElem?_map] at hr'
      cases e : L[i]? with
      | none => rw [e] at hr'; cases hr'
      | some x => rw [e] at hr'; exact ⟨x, rfl, Option.some.inj hr'⟩
    · exact ⟨.ref s.heap.objs.size, upd H s.heap.objs.size (DicO X.prog X.w s.heap.objs.size R), I.laid (t' := tk) k (Nat.le_refl _) (dic_new D p1), rfl, q _ (I.hok.fresh (Nat.le_refl _)) hsys⟩
end
end Pn
set_option maxHeartbeats 4000000
/-! defs that are called where no repr is under way -/
namespace Pn
open PySem L2 Evl PySem.Spec PyProof.Rows

/-- a def's promise, kept where no repr is under way -/
structure FnG (P : Program) (w : World) (K : PySem.W.Frag) (mg : Str → Option Value) (base : Heap) (k : Nat) (f : Addr) (fd : FuncData) (ps : List Str) (sp : Sp) : Prop where
  many : ∀ vs H Q E, sp vs H Q E → vs.length = ps.length
  goes : ∀ (A : Around) (fr : List Env) (s : Shared) (H : Hp) (ar : Args) (us : List Value) (vs : List V) (Q : VK) (E : XK), A.guards = some [] → Room k A → Env0 P w K mg base A fr s H → BindsTo s fd ar (ps.zip us) → Vals vs us →
    sp vs H Q E → codeAny (model P w) A (.call (.ref f) ar) (CR CX0 fr P w H s Q E) s

section
variable {P : Program} {w : World} {K : PySem.W.Frag} {mg : Str → Option Value} {base : Heap}
theorem fng_of {f : Addr} {name qual : Str} {params : Arguments} {body : List Stmt} {scope : Scope} {kV doc pm cdv ct oc : Value} {an od : Option Addr} {osl : Array (Option Value)} {N ps : List Str} {sp : Sp} {k : Nat}
    (lk : K.lookup f = some ⟨oc, od, .func (PySem.W.fnOf name qual params body scope .none kV doc pm an cdv ct), osl⟩) (hcd : PySem.W.codeIn K cdv qual = true) (S : FnScope N ps scope) (len : ∀ vs H Q E, sp vs H Q E → vs.length = ps.length)
    (hb : ∀ (A : Around) (fr : List Env) (s : Shared) (H : Hp) (vs : List V) (Q : VK) (E : XK), (A.deeper (envOfC qual scope s.heap.objs.size f cdv)).guards = some [] → Room k (A.deeper (envOfC qual scope s.heap.objs.size f cdv)) → sp vs H Q E →
      ∃ t, PSs (cxOf CX0 P w K mg base N qual scope f cdv A fr s H E).nox body t ∧ t { nx := fun _ H' => Q .non H', rt := Q } (start N vs) H) :
    FnG P w K mg base (k + 1) f (PySem.W.fnOf name qual params body scope .none kV doc pm an cdv ct) ps sp := by
  constructor
  · exact len
  intro A fr s H ar us vs Q E hg hr e0 bd r hs
  have hl := len vs H Q E hs
  have inK : K.In s.heap := e0.mod.kin.keeps fun b o e => And.left (e0.bs b o e)
  have lim : s.heap.NoLimit := e0.mod.nolimit.keeps fun b o e => And.left (e0.bs b o e)
  have slots : ∀ y ∈ ps.zip us, scope.names.lookup y.1 = some .local ∨ (scope.names.lookup y.1 = some .cell ∧ ((cellsFrom (s.heap.objs.size + 1) scope.names []).lookup y.1).isSome = true) := by
    intro y hy
    have hy1 : y.1 ∈ ps := by
      obtain ⟨n, v⟩ := y
      exact (List.of_mem_zip hy).1
    exact (S.par y.1 hy1).imp id fun q => ⟨q, PySem.W.cellsFrom_some _ _ _ (.inl q)⟩
  refine codeAny_call_function hr.depth (inK _ _ lk) rfl S.co S.gen rfl (PySem.W.codeRec_of inK hcd) (bd _ _ _ _ (wpAny_newFunctionEnv_cells S.kind slots fun env he s1 x => ?_))
  subst he
  refine ⟨lim.keeps x.toInCall.keep, codeAny_func ?_⟩
  obtain ⟨t, ht, hq⟩ := hb A fr s H vs Q E hg (hr.deeper _) hs
  have I0 := inv_start (CX := CX0) (qual := qual) (f := f) (cd := cdv) (E := E) S hr.hd e0 hl r x
  refine wpAny_mono (ht.nox.run [] s1 (start N vs) H _ I0 hq) ?_ fun e s' z => z
  intro fl s' z
  cases fl with
  | ret u =>
    obtain ⟨v, σ', H', J, rv, q⟩ := z
    exact (⟨v, H', J.os, J.bare, J.base, J.hok, rv, q⟩ : CE fr P w H s Q u s')
  | next =>
    obtain ⟨σ', H', J, q⟩ := z
    exact (⟨V.non, H', J.os, J.bare, J.base, J.hok, rfl, q⟩ : CE fr P w H s Q Value.none s')
  | brk =>
    obtain ⟨σ', H', J, q⟩ := z
    exact q.elim
  | cont =>
    obtain ⟨σ', H', J, q⟩ := z
    exact q.elim
theorem fun_okG {x qual : Str} {st : Stmt} {f : Addr} {fd : FuncData} {N ps : List Str} {k : Nat} {sp : Sp} (F : Fun K x qual st f fd) (S : FnScope N ps (defScope st)) (len : ∀ vs H Q E, sp vs H Q E → vs.length = ps.length)
    (hb : ∀ (cdv : Value) (A : Around) (fr : List Env) (s : Shared) (H : Hp) (vs : List V) (Q : VK) (E : XK), (A.deeper (envOfC qual (defScope st) s.heap.objs.size f cdv)).guards = some [] →
      Room k (A.deeper (envOfC qual (defScope st) s.heap.objs.size f cdv)) → sp vs H Q E →
      ∃ t, PSs (cxOf CX0 P w K mg base N qual (defScope st) f cdv A fr s H E).nox (defBody st) t ∧ t { nx := fun _ H' => Q .non H', rt := Q } (start N vs) H) : FnG P w K mg base (k + 1) f fd ps sp := by
  obtain ⟨oc, od, kV, doc, pm, an, cdv, ct, osl, rfl, lk, hcd⟩ := F.ex
  exact fng_of lk hcd S len fun A fr s H vs Q E => hb cdv A fr s H vs Q E
/-- one that is kept anywhere -/
theorem FnG.of {k : Nat} {f : Addr} {fd : FuncData} {ps : List Str} {sp : Sp} (F : FnOk P w K mg base CX0 k f fd ps sp) : FnG P w K mg base k f fd ps sp :=
  ⟨F.len, fun A fr s H ar us vs Q E _ => F.run A fr s H ar us vs Q E⟩
end

section
variable {X : Cx} {k : Nat} {f : Addr} {fd : FuncData} {ps : List Str} {sp : Sp} {x : Str} {p pos : Pos} {e : Expr} {es : List Expr} {t : TA}
theorem run_g {pins : List (Addr × Obj)} {σ : L2.St} {H : Hp} {s : Shared} {Q : VK} {us : List Value} {vs : List V} (F : FnG X.prog X.w X.K X.mg X.base k f fd ps sp) (hg : X.A.guards = some []) (hr : Room k X.A) (hb : Binds X.K fd ps [])
    (I : L2.Inv X pins σ H s) (r : Vals vs us) (h : sp vs H Q E0) : wpAny (model X.prog X.w) X.A (call (.ref f) us) (EP X pins σ Q) X.xe s := by
  have hl : us.length = ps.length := r.length.symm.trans (F.many _ _ _ _ h)
  have b2 := hb s us I.kIn (by simpa using hl)
  rw [List.append_nil] at b2
  refine wpAny_call (codeAny_mono (F.goes X.A X.stack s H ⟨us, []⟩ us vs Q E0 hg hr I.env0 b2 r h) fun rr s' hq => ?_)
  cases rr with
  | error e => exact False.elim hq
  | ok fl =>
    cases fl with
    | ret u => exact I.after hq
    | next => exact False.elim hq
    | brk => exact False.elim hq
    | cont => exact False.elim hq
theorem pe_callG (F : FnG X.prog X.w X.K X.mg X.base k f fd ps sp) (hgu : X.A.guards = some []) (hr : Room k X.A) (hg : Gl X x) (hm : X.mg x = some (.ref f)) (hk : PySem.W.keepIn X.K (.ref f) = true) (hb : Binds X.K fd ps [])
    (ha : PA X (e :: es) t) (hdb : (x == ("__debug__" : Str)) = false := by decide) (he : starEach (e :: es) X.env = (false, eval e X.env) :: starEach es X.env := by rfl) (hpl : (backTo pos (starEach es X.env)).any (·.1) = false := by rfl) :
    PE X (.Call (.Name x p) (e :: es) [] pos) (fun σ H Q => t σ H fun vs H1 => sp vs H1 Q E0) := by
  constructor
  intro pins s σ H Q I h
  exact wpAny_Call_Name_kw (ld_glob I hg hm (PySem.W.callWith_K (h₀ := X.base) I.ok.mod.kin hk (thn (ha.run pos pins s σ H _ I h) fun us s1 ⟨vs, H1, I1, r, q⟩ => ⟨I1.kIn, run_g F hgu hr hb I1 r q⟩) he hpl) hdb)
end

/-! ### the law's own call -/
theorem law_g {P : Program} {w : World} {K : PySem.W.Frag} {mg mb : Str → Option Value} {k : Nat} {fa a : Addr} {fd : FuncData} {x : Str} {sp : Sp} {z : Shared} {vs : List Value} {ns : List Int}
    (KX : K.In z.heap) (hns : z.heap.Ns mainGlobals mg) (hb : z.heap.Ns builtinsNs mb) (hbb : ∀ x : Str, x ≠ "__name__" → mb x = bootBuiltins x) (hlim : z.heap.NoLimit) (hg : z.gens = #[])
    (ha : z.heap.get? a = some { cls := .type "list", data := .seq vs.toArray }) (hi : IntsAre vs ns) (hl : ns.length ≤ sizeLine) (hr : Room k callerA)
    (F : ∀ base : Heap, K.In base → base.Ns mainGlobals mg → FnG P w K mg base k fa fd [x] sp) (hbind : ∀ (s : Shared) (u : Value), BindsTo s fd ⟨[u], []⟩ [(x, u)])
    (hsp : ∀ H : Hp, SqL K H a (ns.map V.int) → sp [.ref a] H (fun v _ => v = .bl true) fun _ _ _ => False) :
    codeAny (model P w) callerA (.call (.ref fa) ⟨[.ref a], []⟩) (fun r s' => r = .ok (.ret (.bool true)) ∧ OldK z.heap s'.heap ∧ s'.os = z.os ∧ AllBare s'.gens) z := by
  have rv := vals_ints hi
  have lenV := hi.length
  have main : ∀ (H : Hp), (∀ b u, H b = some u → b = a ∧ K.lookup a = none ∧ u = .frz { cls := .type "list", data := .seq vs.toArray } (.lst (ns.map V.int))) → SqL K H a (ns.map V.int) → HOk P w H z.heap →
      codeAny (model P w) callerA (.call (.ref fa) ⟨[.ref a], []⟩) (fun r s' => r = .ok (.ret (.bool true)) ∧ OldK z.heap s'.heap ∧ s'.os = z.os ∧ AllBare s'.gens) z := by
    intro H one hS hok
    have free : ∀ {b : Addr} {o : Obj}, z.heap.get? b = some o → (b = a → K.lookup a = none → False) → H b = none := fun {b o} e no => by
      cases q : H b with
      | none => rfl
      | some u =>
        obtain ⟨e1, e2, _⟩ := one b u q
        exact (no e1 e2).elim
    have inKb : K.In (hidT z.heap H) := fun b o e => hidT_get (KX b o e) (free (KX b o e) fun e1 e2 => by rw [e1, e2] at e; cases e)
    have ns_of : ∀ {b : Addr} {m : Str → Option Value}, z.heap.Ns b m → (hidT z.heap H).Ns b m := fun {b m} ⟨o, es, ep, e, d, r⟩ => ⟨o, es, ep, hidT_get e (free e fun e1 _ => by
      rw [e1, ha] at e
      cases e
      cases (show Data.seq vs.toArray _ = Data.dict es ep from d)), d, r⟩
    have hM : Mod K mg (hidT z.heap H) := ⟨inKb, ns_of hns, ⟨mb, ns_of hb, hbb⟩, by
      obtain ⟨mc, h1, h2⟩ := hlim
      exact ⟨mc, ns_of h1, h2⟩⟩
    have e0 : Env0 P w K mg (hidT z.heap H) callerA [] z H := ⟨rfl, hM, fun b o e => of_hidT e, Nat.le_of_eq (hidT_size _ _), trivial, fun b hb => (by cases hb), hok, .of_eq hg⟩
    refine codeAny_mono ((F _ inKb (ns_of hns)).goes callerA [] z H ⟨[.ref a], []⟩ [.ref a] [.ref a] _ _ rfl hr e0 (hbind z (.ref a)) (.cons rfl .nil) (hsp H hS)) fun rr s' h => ?_
    cases rr with
    | error e => exact False.elim h
    | ok fl =>
      cases fl with
      | next => exact False.elim h
      | brk => exact False.elim h
      | cont => exact False.elim h
      | ret u =>
        obtain ⟨v, H', os, bare, un, hok', r', q⟩ := h
        have q' : v = .bl true := q
        subst q'
        have eu : u = Value.bool true := r'
        subst eu
        refine ⟨rfl, OldK.of_keep fun b o e => ?_, os, bare⟩
        cases q : H b with
        | none => exact un.keep b o e q (fun z => (by cases z)) (fun z => (by cases z))
        | some u =>
          obtain ⟨e1, _, e3⟩ := one b u q
          subst e1 e3
          obtain ⟨c1, _⟩ := hok b _ q
          obtain ⟨c2, _⟩ := hok' b _ (un.frzs b _ _ q)
          rw [e] at c1
          rw [Option.some.inj c1]
          exact c2
  cases hk : K.lookup a with
  | some o =>
    have e := KX a o hk
    rw [ha] at e
    cases e
    exact main (fun _ => none) (fun b u q => (by cases q)) (.inr ⟨_, vs.toArray, _, hk, rfl, rfl, rfl, by rw [List.size_toArray, lenV]; exact hl, by simpa using rv⟩) fun b u q => (by cases (show (none : Option HO) = some u from q))
  | none =>
    have at_ : ∀ b u, (fun b => if b = a then some (HO.frz { cls := .type "list", data := .seq vs.toArray } (.lst (ns.map V.int))) else none : Hp) b = some u → b = a ∧ u = .frz { cls := .type "list", data := .seq vs.toArray } (.lst (ns.map V.int)) := fun b u q => by
      by_cases c : b = a
      · exact ⟨c, (Option.some.inj ((if_pos c).symm.trans q)).symm⟩
      · cases ((if_neg c).symm.trans q)
    refine main (fun b => if b = a then some (.frz { cls := .type "list", data := .seq vs.toArray } (.lst (ns.map V.int))) else none) (fun b u q => ⟨(at_ b u q).1, hk, (at_ b u q).2⟩) (.inl (.inr ⟨{ cls := .type "list", data := .seq vs.toArray }, if_pos rfl⟩)) fun b u q => ?_
    obtain ⟨e1, e2⟩ := at_ b u q
    subst e1 e2
    exact ⟨ha, by rw [List.length_map]; exact hl, vs, _, rv, ha⟩

theorem walk_g {l : PySem.W.OpenLaw} {n k : Nat} {q : Program} {loose : List Str} {XP : (Str → Option Value) → Heap → Prop} {YP : World → Heap → Prop} {d : DefRec} {K : Params → PySem.W.Frag} {sp : PySem.W.Frag → World → Sp} {x : Str}
    (hn : l.most = some n) (hn2 : n ≤ sizeLine) (hdf : d.params.defaults = []) (hr : Room k callerA) (hY : ∀ (w : World) (h : Heap), YP w h → (K w.params).In h)
    (F : ∀ (w : World) (mg : Str → Option Value) (fa : Addr) (h : Heap), (K w.params).In h → h.Ns mainGlobals mg → mg d.name = some (.ref fa) →
      ∃ fd : FuncData, (∀ (s : Shared) (u : Value), BindsTo s fd ⟨[u], []⟩ [(x, u)]) ∧ ∀ base : Heap, (K w.params).In base → base.Ns mainGlobals mg → FnG l.prog w (K w.params) mg base k fa fd [x] (sp (K w.params) w))
    (hsp : ∀ (w : World) (H : Hp) (a : Addr) (ns : List Int), ns.length ≤ n → SqL (K w.params) H a (ns.map V.int) → sp (K w.params) w [.ref a] H (fun v _ => v = .bl true) fun _ _ _ => False) :
    PySem.W.WalkO q loose XP YP l.row.toRowW d [] (fun f vs => PySem.call f vs) := by
  refine Att.attach_call hn hdf fun w s0 s1 mg mb fa o pm cd doc a vs ns G Y ho hd hcd hmg hobj hints hlen hg => ?_
  have KX := hY w _ Y
  obtain ⟨fd, hb, hF⟩ := F w mg fa _ KX G.T.g hmg
  exact law_g KX G.T.g G.T.b G.T.builtins G.T.nolimit hg hobj hints (Nat.le_trans hlen hn2) hr hF hb fun H hS => hsp w H a ns hlen hS
end Pn
set_option maxHeartbeats 4000000
/-! sets of tuples of numbers and texts: the table up to 512 places -/
namespace Pn
open PySem L2 Evl PySem.Spec PyProof.Rows

/-! ### the round over 512 places -/
def orbit : Nat → Nat → List Nat
  | 0, _ => []
  | n + 1, x => x :: orbit n ((x * 5 + 1) % 512)
theorem lcg_shift (m : Nat) : ∀ (k i : Nat), lcgI m i (k + 1) = lcgI m ((i * 5 + 1) % (m + 1)) k
  | 0, _ => rfl
  | k + 1, i => by
    have e := lcg_shift m k i
    show (lcgI m i (k + 1) * 5 + 1) % (m + 1) = _
    rw [e]
    rfl
theorem orbit_has : ∀ (n x j : Nat), j ∈ orbit n x → ∃ b, b < n ∧ lcgI 511 x b = j
  | 0, _, _, h => by cases h
  | n + 1, x, j, h => by
    rcases List.mem_cons.mp h with e | h
    · exact ⟨0, Nat.succ_pos n, e.symm⟩
    · obtain ⟨b, hb, e⟩ := orbit_has n _ j h
      exact ⟨b + 1, Nat.succ_lt_succ hb, by rw [lcg_shift]; exact e⟩
theorem orbit_all : ((List.range 512).all fun j => (orbit 512 0).contains j) = true := by decide +kernel
theorem lcgN_is (m : Nat) : ∀ k, lcgN m k = lcgI m 0 k
  | 0 => rfl
  | k + 1 => by
    show (lcgN m k * 5 + 1) % (m + 1) = (lcgI m 0 k * 5 + 1) % (m + 1)
    rw [lcgN_is m k]
theorem lcg511 {j : Nat} (hj : j ≤ 511) : ∃ b, b ≤ 511 ∧ lcgN 511 b = j := by
  have h := List.all_eq_true.mp orbit_all j (List.mem_range.mpr (by omega))
  obtain ⟨b, hb, e⟩ := orbit_has 512 0 j (by simpa using h)
  exact ⟨b, by omega, by rw [lcgN_is]; exact e⟩
theorem round511 : lcgN 511 512 = 0 := by decide +kernel
theorem mod511 : ∀ k, lcgN 511 (512 + k) = lcgN 511 k
  | 0 => round511
  | k + 1 => by
    show (lcgN 511 (512 + k) * 5 + 1) % (511 + 1) = (lcgN 511 k * 5 + 1) % (511 + 1)
    rw [mod511 k]
theorem all511 {i j : Nat} (hi : i ≤ 511) (hj : j ≤ 511) : ∃ k, k ≤ 511 ∧ lcgI 511 i k = j := by
  obtain ⟨a, ha, ea⟩ := lcg511 hi
  obtain ⟨b, hb, eb⟩ := lcg511 hj
  rw [← ea]
  by_cases c : a ≤ b
  · refine ⟨b - a, by omega, ?_⟩
    rw [lcgN_add, show a + (b - a) = b by omega, eb]
  · refine ⟨b + 512 - a, by omega, ?_⟩
    rw [lcgN_add, show a + (b + 512 - a) = 512 + b by omega, mod511, eb]
/-- the masks -/
def MkG (m : Nat) : Prop := MaskOk m ∨ m = 511
theorem MkG.le {m : Nat} (h : MkG m) : m ≤ 511 := by
  rcases h with (e | e | e) | e <;> omega
theorem MkG.odd {m : Nat} (h : MkG m) : m % 2 = 1 := by
  rcases h with (e | e | e) | e <;> subst e <;> rfl
theorem meets {m : Nat} (g : MkG m) (h : Int) {j : Nat} (hj : j ≤ m) : ∃ n, n ≤ m + 12 ∧ runI m (SetTable.bits h) n = j := by
  rcases g with g | g
  · exact run_meets g h hj
  · subst g
    obtain ⟨k, hk, e⟩ := all511 (runI_le 511 (SetTable.bits h) 12) hj
    exact ⟨12 + k, by omega, by rw [runI_tail (bits_lt h)]; exact e⟩
theorem way_in (m : Nat) (h : Int) (k : Nat) : way m h k ≤ m := by
  have hi : SetTable.bits h % (m + 1) ≤ m := Nat.le_of_lt_succ (Nat.mod_lt _ (Nat.succ_pos m))
  have r := runEnd_bd hi
  have q := nth_in (m := m) k (runAt m (SetTable.bits h % (m + 1)) (SetTable.bits h)) (by
    show SetTable.bits h % (m + 1) + (SetTable.runEnd m (SetTable.bits h % (m + 1)) - SetTable.bits h % (m + 1)) ≤ m
    omega)
  exact Nat.le_trans (Nat.le_add_right _ _) q

/-! ### a table whose places all are found again -/
structure TG (t : SetTable) (hs : List Int) : Prop where
  rise : Ris t.place.toList
  nodum : t.dummies = #[]
  num : t.place.size = hs.length
  mask : MkG t.mask
  within : ∀ x ∈ t.place.toList, x ≤ t.mask
  back : ∀ (i : Nat) (h : Int) (j : Nat), hs[i]? = some h → t.place.toList[i]? = some j → ∃ k, way t.mask h k = j ∧ ∀ c, c < k → way t.mask h c ∈ t.place.toList
theorem TG.empty {t : SetTable} {hs : List Int} (T : TG t hs) (few : hs.length ≤ t.mask) (h : Int) :
    ∃ K, K < 10 * SetTable.turns t.mask ∧ way t.mask h K ∉ t.place.toList ∧ ∀ c, c < K → way t.mask h c ∈ t.place.toList := by
  obtain ⟨j, hj, nj⟩ := st_missing t.place.toList (t.mask + 1) (by rw [Array.length_toList, T.num]; omega)
  obtain ⟨n, hn, en⟩ := meets T.mask h (Nat.le_of_lt_succ hj)
  obtain ⟨k, hk, ek⟩ := run_nth t.mask (SetTable.bits h) n
  have wj : way t.mask h k = j := (congrArg SetTable.Probe.j ek).trans en
  obtain ⟨K, l1, l2, l3⟩ := st_least (p := fun c => way t.mask h c ∉ t.place.toList) k (by rw [← wj] at nj; exact nj)
  refine ⟨K, Nat.lt_of_le_of_lt l1 (by unfold SetTable.turns; omega), l2, fun c hc => ?_⟩
  exact Classical.byContradiction fun z => l3 c hc z
theorem TG.ahead {t : SetTable} {hs : List Int} (T : TG t hs) {h : Int} {K i j : Nat} (nK : way t.mask h K ∉ t.place.toList) (hi : hs[i]? = some h) (hj : t.place.toList[i]? = some j) : ∃ c, c < K ∧ way t.mask h c = j := by
  obtain ⟨c, e, hb⟩ := T.back i h j hi hj
  refine ⟨c, ?_, e⟩
  apply Classical.byContradiction
  intro z
  rcases Nat.lt_or_eq_of_le (Nat.le_of_not_lt z) with y | y
  · exact nK (hb K y)
  · rw [y, e] at nK
    exact nK (List.mem_of_getElem? hj)
/-- one put in -/
theorem TG.put {t : SetTable} {hs : List Int} (T : TG t hs) {h : Int} {K p : Nat} (nK : way t.mask h K ∉ t.place.toList) (yK : ∀ c, c < K → way t.mask h c ∈ t.place.toList) (ep : p = SetTable.below t.place (way t.mask h K)) :
    p ≤ hs.length ∧ TG (t.put (way t.mask h K)).1 (hs.take p ++ h :: hs.drop p) ∧ (t.put (way t.mask h K)).1.fill = hs.length + 1 := by
  have wm := way_in t.mask h K
  generalize ej : way t.mask h K = j at nK wm ep ⊢
  obtain ⟨c1, _, _⟩ := below_cut T.rise j
  rw [← ep] at c1
  have pl : p ≤ t.place.toList.length := by rw [Array.length_toList]; exact c1
  have ph : p ≤ hs.length := by rw [← T.num]; exact c1
  have hz : t.place.toList.length = hs.length := by rw [Array.length_toList]; exact T.num
  have np : t.place[SetTable.below t.place j]? ≠ some j := fun e => nK (List.mem_of_getElem? (by rw [Array.getElem?_toList]; exact e))
  have at_ := put_place t j
  rw [← ep] at at_
  have nz : (t.put j).1.place.size = hs.length + 1 := by
    rw [← Array.length_toList, at_, len_ins _ pl, hz]
  have up : ∀ {x : Nat}, x ∈ t.place.toList → x ∈ (t.put j).1.place.toList := fun {x} hx => at_ ▸ mem_ins.2 (.inr hx)
  refine ⟨ph, ⟨ris_insert T.rise np, put_dm T.nodum j, by rw [len_ins _ ph]; exact nz, T.mask, ?_, ?_⟩, ?_⟩
  · intro x hx
    rw [at_] at hx
    rcases mem_ins.1 hx with z | z
    · exact z ▸ wm
    · exact T.within x z
  · intro i h' j' h1 h2
    rw [tins_get hs ph] at h1
    rw [at_, tins_get _ pl] at h2
    show ∃ k, way t.mask h' k = j' ∧ ∀ c, c < k → way t.mask h' c ∈ (t.put j).1.place.toList
    by_cases ci : i < p
    · rw [if_pos ci] at h1 h2
      obtain ⟨k, e, z⟩ := T.back i h' j' h1 h2
      exact ⟨k, e, fun c hc => up (z c hc)⟩
    · rw [if_neg ci] at h1 h2
      by_cases di : i = p
      · rw [if_pos di] at h1 h2
        cases h1
        cases h2
        exact ⟨K, ej, fun c hc => up (yK c hc)⟩
      · rw [if_neg di] at h1 h2
        obtain ⟨k, e, z⟩ := T.back (i - 1) h' j' h1 h2
        exact ⟨k, e, fun c hc => up (z c hc)⟩
  · unfold SetTable.fill
    rw [nz, put_dm T.nodum j]
    rfl

/-! ### all laid anew -/
theorem free_at {m : Nat} (g : MkG m) (ow : Array (Option Nat)) (h : Int) {j : Nat} (hj : j ≤ m) (hf : oAt ow j = none) :
    ∃ K, SetTable.layClean.free m ow (SetTable.turns m) (SetTable.bits h % (m + 1)) (SetTable.bits h) = some (way m h K) ∧ oAt ow (way m h K) = none ∧ ∀ c, c < K → oAt ow (way m h c) ≠ none := by
  obtain ⟨n, hn, en⟩ := meets g h hj
  have wj : way m h (off m (SetTable.bits h % (m + 1)) (SetTable.bits h) n) = j := by
    have e := congrArg SetTable.Probe.j (nth_off m n (SetTable.bits h % (m + 1)) (SetTable.bits h))
    rw [itL_run] at e
    exact e.trans en
  obtain ⟨K, k1, k2, k3⟩ := st_least (p := fun c => oAt ow (way m h c) = none) (off m (SetTable.bits h % (m + 1)) (SetTable.bits h) n) (by rw [← wj] at hf; exact hf)
  refine ⟨K, free_spec m ow (SetTable.turns m) n _ _ K (by unfold SetTable.turns; omega) k1 (fun c hc => ?_) (Option.isNone_iff_eq_none.mpr k2), k2, k3⟩
  have q := k3 c hc
  cases z : oAt ow (nth m (runAt m (SetTable.bits h % (m + 1)) (SetTable.bits h)) c).j with
  | none => exact absurd z q
  | some _ => rfl
theorem own_step {m : Nat} (g : MkG m) {dn : List Int} {ow : Array (Option Nat)} (W : Own m dn ow) (hl : dn.length ≤ m) (h : Int) :
    ∃ j, SetTable.layClean.free m ow (SetTable.turns m) (SetTable.bits h % (m + 1)) (SetTable.bits h) = some j ∧ Own m (dn ++ [h]) (ow.setIfInBounds j (some dn.length)) := by
  obtain ⟨ps, lp, ip⟩ := W.ps
  obtain ⟨j0, a0, b0⟩ := st_missing ps (m + 1) (by omega)
  have f0 : oAt ow j0 = none := Classical.byContradiction fun z => b0 (ip j0 (Nat.le_of_lt_succ a0) z)
  obtain ⟨K, e1, e2, e3⟩ := free_at g ow h (Nat.le_of_lt_succ a0) f0
  have wm := way_in m h K
  generalize ej : way m h K = j at e1 e2 wm
  have self := oAt_set_self (some dn.length) (show j < ow.size by rw [W.sz]; omega)
  have keep : ∀ {i : Nat}, oAt ow i ≠ none → oAt (ow.setIfInBounds j (some dn.length)) i ≠ none := fun {i} hi => by
    by_cases c : i = j
    · rw [c, self]
      simp
    · rw [oAt_set_ne _ c]
      exact hi
  have lz : (dn ++ [h]).length = dn.length + 1 := by simp
  refine ⟨j, e1, ⟨by rw [Array.size_setIfInBounds]; exact W.sz, ?_, ?_, ⟨j :: ps, by rw [List.length_cons, lp, lz], ?_⟩⟩⟩
  · intro i k hi e
    by_cases c : i = j
    · rw [c, self] at e
      have ek := Option.some.inj e
      refine ⟨h, K, ?_, ej.trans c.symm, fun c' hc' => keep (e3 c' hc')⟩
      rw [← ek]
      simp
    · rw [oAt_set_ne _ c] at e
      obtain ⟨h', K', a1, a2, a3⟩ := W.at_ i k hi e
      refine ⟨h', K', ?_, a2, fun c' hc' => keep (a3 c' hc')⟩
      rw [List.getElem?_append_left (List.getElem?_eq_some_iff.mp a1).1]
      exact a1
  · intro k hk
    rw [lz] at hk
    by_cases c : k = dn.length
    · exact ⟨j, wm, by rw [self, c]⟩
    · obtain ⟨i, hi, e⟩ := W.all k (by omega)
      refine ⟨i, hi, ?_⟩
      rw [oAt_set_ne _ fun z => by rw [z, e2] at e; cases e]
      exact e
  · intro i hi e
    by_cases c : i = j
    · exact List.mem_cons.mpr (.inl c)
    · rw [oAt_set_ne _ c] at e
      exact List.mem_cons.mpr (.inr (ip i hi e))
theorem own_all {m : Nat} (g : MkG m) : ∀ (todo dn : List Int) (ow : Array (Option Nat)), Own m dn ow → dn.length + todo.length ≤ m →
    ∃ ow', todo.foldl (stepF m) (some (ow, dn.length)) = some (ow', dn.length + todo.length) ∧ Own m (dn ++ todo) ow'
  | [], dn, ow, W, _ => ⟨ow, rfl, by rw [List.append_nil]; exact W⟩
  | h :: todo, dn, ow, W, hl => by
    rw [List.length_cons] at hl
    obtain ⟨j, e, W1⟩ := own_step g W (by omega) h
    have lz : (dn ++ [h]).length = dn.length + 1 := by simp
    obtain ⟨ow', f, W2⟩ := own_all g todo (dn ++ [h]) _ W1 (by rw [lz]; omega)
    refine ⟨ow', ?_, by rw [List.append_cons]; exact W2⟩
    rw [List.foldl_cons, stepF_some e, List.length_cons]
    rw [lz] at f
    rw [f]
    congr 2
    omega
theorem lay_ok {m : Nat} (g : MkG m) {hs : Array Int} (hn : hs.size ≤ m) : ∃ ow, SetTable.layClean m hs = some ow ∧ Own m hs.toList ow := by
  obtain ⟨ow, f, W⟩ := own_all g hs.toList [] _ (Own.init m) (by simpa using hn)
  refine ⟨ow, ?_, W⟩
  rw [layClean_eq]
  have f2 : hs.toList.foldl (stepF m) (some (Array.replicate (m + 1) none, 0)) = some (ow, 0 + hs.toList.length) := f
  rw [f2]
  rfl
theorem anew (t : SetTable) {hs : Array Int} {wanted M : Nat} (hw : SetTable.sizeAbove wanted - 1 = M) (g : MkG M) (hn : hs.size ≤ M) :
    ∃ t' order, t.relaid hs wanted = some (t', order) ∧ order.toList.Perm (List.range hs.size) ∧ TG t' (order.toList.map fun i => hs.getD i 0) ∧ t'.mask = M ∧ t'.led = t.led ∧ t'.dummies = #[] := by
  obtain ⟨ow, e, W⟩ := lay_ok g hn
  have lr := ris_live (fun j => ow.getD j none) (List.range (M + 1)) (by
    unfold Ris
    first | exact List.pairwise_lt_range | exact List.pairwise_lt_range _)
  have r1 : Ris ((liveOf M ow).map (·.1)) := lr.1
  have r2 : ∀ x ∈ (liveOf M ow).map (·.1), x ∈ List.range (M + 1) := lr.2
  have key : ∀ j k, (j, k) ∈ liveOf M ow ↔ j ≤ M ∧ oAt ow j = some k := fun j k => mem_live W.sz
  have allK : ∀ k, k < hs.size → k ∈ (liveOf M ow).map (·.2) := fun k hk => by
    obtain ⟨j, b1, b2⟩ := W.all k (by rw [Array.length_toList]; exact hk)
    exact List.mem_map.mpr ⟨(j, k), (key j k).2 ⟨b1, b2⟩, rfl⟩
  have num : (liveOf M ow).length = hs.size := by
    obtain ⟨ps, p1, p2⟩ := W.ps
    have nd1 : ((liveOf M ow).map (·.1)).Nodup := List.Pairwise.imp (fun z => Nat.ne_of_lt z) (show List.Pairwise (· < ·) _ from r1)
    have a := nat_nodup_len ((liveOf M ow).map (·.1)) ps nd1 fun x hx => by
      obtain ⟨⟨y, k⟩, hq, rfl⟩ := List.mem_map.mp hx
      obtain ⟨b1, b2⟩ := (key y k).1 hq
      exact p2 y b1 (by rw [b2]; simp)
    have b := nat_nodup_len (List.range hs.size) ((liveOf M ow).map (·.2)) List.nodup_range fun k hk => allK k (List.mem_range.mp hk)
    have hz : hs.toList.length = hs.size := rfl
    rw [List.length_map, p1] at a
    rw [List.length_map, List.length_range] at b
    omega
  refine ⟨tabOf t M ow, ((liveOf M ow).map (·.2)).toArray, by rw [relaid_eq, hw, e]; rfl, perm_range hs.size _ (by simpa using num) allK, ⟨r1, rfl, by simp [tabOf], g, fun x hx => Nat.le_of_lt_succ (List.mem_range.mp (r2 x hx)), ?_⟩, rfl, rfl, rfl⟩
  intro i h j h1 h2
  have h1' : (((liveOf M ow).map (·.2)).map fun i => hs.getD i 0)[i]? = some h := h1
  have h2' : ((liveOf M ow).map (·.1))[i]? = some j := h2
  rw [List.getElem?_map, List.getElem?_map] at h1'
  rw [List.getElem?_map] at h2'
  cases hq : (liveOf M ow)[i]? with
  | none => rw [hq] at h2'; cases h2'
  | some q =>
    obtain ⟨y, k⟩ := q
    rw [hq] at h1' h2'
    have ej : y = j := Option.some.inj h2'
    have eh : hs.getD k 0 = h := Option.some.inj h1'
    subst ej
    obtain ⟨b1, b2⟩ := (key y k).1 (List.mem_of_getElem? hq)
    obtain ⟨h0, K, a1, a2, a3⟩ := W.at_ y k b1 b2
    have e0 : hs.getD k 0 = h0 := by
      rw [Array.getD_eq_getD_getElem?, ← Array.getElem?_toList, a1]
      rfl
    obtain rfl : h0 = h := e0.symm.trans eh
    refine ⟨K, a2, fun c hc => ?_⟩
    show way M h0 c ∈ (liveOf M ow).map (·.1)
    cases z : oAt ow (way M h0 c) with
    | none => exact absurd z (a3 c hc)
    | some k2 => exact List.mem_map.mpr ⟨(way M h0 c, k2), (key _ k2).2 ⟨way_in M h0 c, z⟩, rfl⟩
end Pn
set_option maxHeartbeats 4000000
/-! sets of tuples of numbers and texts: members, adding -/
namespace Pn
open PySem L2 Evl PySem.Spec PyProof.Rows

abbrev TK2 (P : Program) (w : World) (h : Heap) (k : List Key) (a : Addr) : Prop := IsTupleKey (mixKind P w) h k a
abbrev th (P : Program) (w : World) (k : List Key) : Int := tupleKeyHash (mixKind P w) k

section
variable {P : Program} {w : World} {A : Around} {E : Value → Shared → Prop} {s : Shared}

theorem items_flat {k : List Key} {vs : List Value} (h : ItemsAre (mixKind P w) k vs) : ∀ v ∈ vs, (∃ i t, v = Value.int i t) ∨ ∃ x t, v = Value.str x t := by
  induction h with
  | nil => intro v hv; cases hv
  | @cons k0 v' ks vs h1 _ ih =>
    intro v hv
    rcases List.mem_cons.mp hv with e | hv
    · rw [e]
      rcases keyIs_shape h1 with ⟨i, t, _, e2⟩ | ⟨x, t, _, e2⟩
      · exact .inl ⟨i, t, e2⟩
      · exact .inr ⟨x, t, e2⟩
    · exact ih v hv
theorem noclass {k : List Key} {b : Addr} {Q : Bool → Shared → Prop} (hk : TK2 P w s.heap k b) (q : Q false s) : wpAny (model P w) A (ofAClassStatement 8 (.ref b)) Q E s := by
  have ty := hk.typeIs
  obtain ⟨o, its, n, ho, _, hd, hi⟩ := hk
  unfold ofAClassStatement
  refine wpAny_bind (wpAny_typeOf ty ?_)
  dsimp only
  have e : (("tuple" : String) == "tuple") = true := by decide
  simp only [e, if_true, Bool.not_true, Bool.false_eq_true, if_false]
  try refine wpAny_bind (wpAny_pure ?_)
  try simp only [Bool.not_true, Bool.false_eq_true, if_false]
  show wpAny _ _ (seqItems? (.ref b) >>= _) _ _ s
  refine wpAny_bind (wpAny_seqItems ho hd ?_)
  dsimp only
  refine wpAny_bind ?_
  show wpAny _ _ (forIn its _ _) _ _ s
  rw [← Array.forIn_toList]
  refine wpAny_forIn_list _ (fun todo r s' => r.1 = none ∧ s' = s ∧ ∀ v ∈ todo, (∃ i t, v = Value.int i t) ∨ ∃ x t, v = Value.str x t) _ ?_ ?_ _ _ ⟨rfl, rfl, items_flat hi⟩
  · rintro v todo r s' ⟨hr, rfl, hall⟩
    have more : ∀ u ∈ todo, (∃ i t, u = Value.int i t) ∨ ∃ x t, u = Value.str x t := fun u hu' => hall u (List.mem_cons_of_mem _ hu')
    rcases hall v List.mem_cons_self with ⟨i, t, rfl⟩ | ⟨x, t, rfl⟩
    · exact wpAny_bind (wpAny_pure (by simp only [Bool.false_eq_true, if_false]; exact wpAny_pure ⟨rfl, rfl, more⟩))
    · exact wpAny_bind (wpAny_pure (by simp only [Bool.false_eq_true, if_false]; exact wpAny_pure ⟨rfl, rfl, more⟩))
  · rintro ⟨r1, r2⟩ s' ⟨hr, rfl, _⟩
    have hr' : r1 = none := hr
    subst hr'
    exact wpAny_pure q
/-- whether a tuple's hash hangs on its value alone: either -/
theorem hash_by {k : List Key} {b : Addr} {Q : Bool → Shared → Prop} (hk : TK2 P w s.heap k b) (q : ∀ c, Q c s) : wpAny (model P w) A (hashByValue 8 (.ref b)) Q E s := by
  have ty := hk.typeIs
  obtain ⟨o, its, n, ho, _, hd, hi⟩ := hk
  unfold hashByValue
  refine wpAny_bind (wpAny_specialOf ty F.slot_tuple_hash.lookup ?_)
  show wpAny _ _ (seqItems? (.ref b) >>= _) _ _ s
  refine wpAny_bind (wpAny_seqItems ho hd ?_)
  refine wpAny_bind ?_
  show wpAny _ _ (forIn its _ _) _ _ s
  rw [← Array.forIn_toList]
  refine wpAny_forIn_list _ (fun todo r s' => (r.1 = none ∨ r.1 = some false) ∧ s' = s ∧ ∀ v ∈ todo, (∃ i t, v = Value.int i t) ∨ ∃ x t, v = Value.str x t) _ ?_ ?_ _ _ ⟨.inl rfl, rfl, items_flat hi⟩
  · rintro v todo r s' ⟨hr, rfl, hall⟩
    have more : ∀ u ∈ todo, (∃ i t, u = Value.int i t) ∨ ∃ x t, u = Value.str x t := fun u hu' => hall u (List.mem_cons_of_mem _ hu')
    rcases hall v List.mem_cons_self with ⟨i, t, rfl⟩ | ⟨x, t, rfl⟩
    · refine wpAny_bind (wpAny_pure ?_)
      simp only [Bool.not_true, Bool.false_eq_true, if_false]
      exact wpAny_pure ⟨.inl rfl, rfl, more⟩
    · refine wpAny_bind (wpAny_pure ?_)
      simp only [Bool.not_false, if_true]
      exact wpAny_pure (wpAny_pure (q false))
  · rintro ⟨r1, r2⟩ s' ⟨hr, rfl, _⟩
    rcases hr with hr | hr
    · have hr' : r1 = none := hr
      subst hr'
      exact wpAny_pure (q true)
    · have hr' : r1 = some false := hr
      subst hr'
      exact wpAny_pure (q false)
theorem unseen {k : List Key} {b : Addr} {Q : Bool → Shared → Prop} (hk : TK2 P w s.heap k b) {ys : List Value} (hy : ∀ y ∈ ys, ∃ k' c, y = Value.ref c ∧ TK2 P w s.heap k' c) (q : Q false s) :
    wpAny (model P w) A (searchCouldBeSeen (.ref b) ys) Q E s := by
  unfold searchCouldBeSeen
  refine wpAny_bind ?_
  refine wpAny_forIn_list _ (fun todo r s' => r.1 = none ∧ s' = s ∧ ∀ y ∈ todo, ∃ k' c, y = Value.ref c ∧ TK2 P w s.heap k' c) _ ?_ ?_ _ _ ⟨rfl, rfl, hy⟩
  · rintro v todo r s' ⟨hr, rfl, hall⟩
    obtain ⟨k', c, rfl, hc⟩ := hall v List.mem_cons_self
    have more : ∀ y ∈ todo, ∃ k' c, y = Value.ref c ∧ TK2 P w s'.heap k' c := fun u hu' => hall u (List.mem_cons_of_mem _ hu')
    dsimp only
    split
    · exact wpAny_pure ⟨rfl, rfl, more⟩
    · refine wpAny_bind (wpAny_eqIsQuiet_tuple hk ?_)
      simp only [Bool.not_true, Bool.false_eq_true, if_false]
      refine wpAny_bind (wpAny_eqIsQuiet_tuple hc ?_)
      simp only [Bool.not_true, Bool.false_eq_true, if_false]
      refine wpAny_bind (noclass hk ?_)
      simp only [Bool.false_eq_true, if_false]
      refine wpAny_bind (noclass hc ?_)
      simp only [Bool.false_eq_true, if_false]
      exact wpAny_pure ⟨rfl, rfl, more⟩
  · rintro ⟨r1, r2⟩ s' ⟨hr, rfl, _⟩
    have hr' : r1 = none := hr
    subst hr'
    exact wpAny_pure q

/-! ### the set -/
abbrev Mem := Addr × List Key
def rowG (P : Program) (w : World) (p : Mem) : Int × Value := (th P w p.2, Value.ref p.1)
structure SG (P : Program) (w : World) (h : Heap) (a : Addr) (L : List Mem) (es : Array (Int × Value)) (ep : Nat) (t : SetTable) : Prop where
  here : ∃ o, h.get? a = some o ∧ o.ExactSet ∧ o.data = .set es ep t
  rows : es.toList = L.map (rowG P w)
  tab : TG t (L.map fun p => th P w p.2)
  nd : (L.map (·.2)).Nodup
  led : w.params.followText "set-order" = true ∨ t.led = true
  room : L.length * 5 < t.mask * 3
  few : L.length < 128
def AllT (P : Program) (w : World) (h : Heap) (L : List Mem) : Prop := ∀ p ∈ L, TK2 P w h p.2 p.1
variable {a : Addr} {L : List Mem} {es : Array (Int × Value)} {ep : Nat} {t : SetTable}
theorem SG.size {h : Heap} (R : SG P w h a L es ep t) : es.size = L.length := by
  rw [← Array.length_toList, R.rows, List.length_map]
theorem fits_of {t : SetTable} {n : Nat} (h1 : t.place.size = n) (h2 : t.dummies = #[]) (h3 : n ≤ t.mask) : t.fits n = true := by
  unfold SetTable.fits SetTable.fill
  rw [h2, h1]
  simp [h3]
theorem SG.fits {h : Heap} (R : SG P w h a L es ep t) : t.fits es.size = true := by
  have h1 := R.tab.num
  rw [List.length_map] at h1
  have h2 := R.room
  exact fits_of (h1.trans R.size.symm) R.tab.nodum (by rw [R.size]; omega)
theorem SG.row {h : Heap} (R : SG P w h a L es ep t) {i : Nat} {p : Mem} (e : L[i]? = some p) : es[i]? = some (th P w p.2, Value.ref p.1) := by
  rw [← Array.getElem?_toList, R.rows, List.getElem?_map, e]
  rfl
theorem SG.odd {h : Heap} (R : SG P w h a L es ep t) : ¬ t.gaveWay = true := by
  unfold SetTable.gaveWay
  rw [R.tab.mask.odd]
  decide

/-- the way of a hash, from its c-th step on -/
abbrev wayP (m : Nat) (h : Int) (c : Nat) : SetTable.Probe := nth m (runAt m (SetTable.bits h % (m + 1)) (SetTable.bits h)) c
theorem wayP_nodum (m : Nat) (h : Int) (c : Nat) : (wayP m h c).dummy = none := by
  have key : ∀ (n : Nat) (p : SetTable.Probe), p.dummy = none → (nth m p n).dummy = none := by
    intro n
    induction n with
    | zero => exact fun p e => e
    | succ n ih =>
      intro p e
      refine ih (adv m p) ?_
      unfold adv
      split <;> exact e
  exact key c _ rfl
theorem wayP_more (m : Nat) (h : Int) (c q : Nat) : nth m (wayP m h c) q = wayP m h (c + q) := (nth_add m c _ q).symm

theorem look_from (R : SG P w s.heap a L es ep t) (al : AllT P w s.heap L) {x : Addr} {k : List Key} (hx : TK2 P w s.heap k x) (hu : A.units < cLine) {K : Nat} (fK : K < 10 * SetTable.turns t.mask)
    (nK : way t.mask (th P w k) K ∉ t.place.toList) (yK : ∀ c, c < K → way t.mask (th P w k) c ∈ t.place.toList) {Q : SetFound → Shared → Prop}
    (qi : k ∈ L.map (·.2) → Q (.there none) s) (qo : k ∉ L.map (·.2) → Q (.free (way t.mask (th P w k) K) false) s) :
    ∀ (f c : Nat) (st : Option SetTable.Probe), st.getD (t.probeStart (th P w k)) = wayP t.mask (th P w k) c → c ≤ K → K - c < f →
      (∀ (i : Nat) (p : Mem), L[i]? = some p → p.2 = k → ∃ c', c ≤ c' ∧ c' < K ∧ t.place.toList[i]? = some (way t.mask (th P w k) c')) →
      wpAny (model P w) A (setSearchFrom a (.ref x) (th P w k) true f st) Q E s
  | 0, c, st, _, _, hf, _ => absurd hf (Nat.not_lt_zero _)
  | f + 1, c, st, est, hc, hf, seen => by
    obtain ⟨o, ho, _, hd⟩ := R.here
    rw [setSearchFrom_succ]
    refine wpAny_bind (wpAny_setState_of ho hd R.fits ?_)
    dsimp only
    refine wp_if_neg R.odd ?_
    try refine wpAny_bind (wpAny_pure ?_)
    have ej : ∀ q, (nth t.mask (wayP t.mask (th P w k) c) q).j = way t.mask (th P w k) (c + q) := fun q => congrArg SetTable.Probe.j (wayP_more t.mask (th P w k) c q)
    have hAt : ∀ (i : Nat) (p : Mem), L[i]? = some p → (es[i]?.map (·.1)).getD 0 = th P w p.2 := fun i p e => by
      rw [R.row e]
      rfl
    have two := go_spec t R.tab.rise R.tab.nodum (fun i => (es[i]?.map (·.1)).getD 0) (th P w k) (10 * SetTable.turns t.mask) (K - c) _ (wayP_nodum t.mask (th P w k) c) (by omega)
      (fun q hq => by rw [ej]; exact yK (c + q) (by omega)) (by rw [ej, show c + (K - c) = K by omega]; exact nK)
    rcases two with ⟨q, i, hq, hi, hh, hno, hgo⟩ | ⟨hno, hgo⟩
    · have pr : t.probe (fun i => (es[i]?.map (·.1)).getD 0) (th P w k) (st.getD (t.probeStart (th P w k))) = some (.candidate (way t.mask (th P w k) (c + q)) i (wayP t.mask (th P w k) (c + (q + 1)))) := by
        rw [est, ← ej, ← wayP_more]
        exact hgo
      rw [pr]
      dsimp only
      rw [ej] at hi
      have il : i < L.length := by
        have h1 : i < t.place.toList.length := (List.getElem?_eq_some_iff.mp hi).1
        have h2 := R.tab.num
        rw [List.length_map] at h2
        rw [Array.length_toList] at h1
        omega
      obtain ⟨p, hp⟩ : ∃ p, L[i]? = some p := ⟨_, List.getElem?_eq_getElem il⟩
      have pin : p ∈ L := List.mem_of_getElem? hp
      have behind : wpAny (model P w) A (searchRest a (.ref x) (th P w k) true f es t (way t.mask (th P w k) (c + q)) i (wayP t.mask (th P w k) (c + (q + 1)))) Q E s := by
        unfold searchRest
        rw [R.row hp]
        dsimp only
        refine wpAny_bind (wpAny_holding (wpAny_eqBool_tuple hu (al p pin) hx ?_))
        refine wpAny_bind (wpAny_setState_of ho hd R.fits ?_)
        dsimp only
        by_cases ek : p.2 = k
        · exact wp_if_pos (by simp [ek]) (wpAny_pure (qi (List.mem_map.mpr ⟨p, pin, ek⟩)))
        · refine wp_if_neg (by simp [ek]) ?_
          try refine wpAny_bind (wpAny_pure ?_)
          rw [sameMem]
          dsimp only
          have sl : t.slot (way t.mask (th P w k) (c + q)) = .live i := slot_live R.tab.rise hi
          simp only [if_true, sl, R.row hp]
          refine wpAny_bind (wpAny_isSame_ref_self (wpAny_bind (wpAny_pure ?_)))
          simp only [if_true]
          refine wp_if_neg (by simp [ek]) ?_
          refine look_from R al hx hu fK nK yK qi qo f (c + (q + 1)) _ rfl (by omega) (by omega) fun i0 p0 h0 k0 => ?_
          obtain ⟨c', a1, a2, a3⟩ := seen i0 p0 h0 k0
          refine ⟨c', ?_, a2, a3⟩
          apply Classical.byContradiction
          intro z
          rcases Nat.lt_or_eq_of_le (show c' ≤ c + q by omega) with y | y
          · refine hno (c' - c) i0 (by omega) (by rw [ej, show c + (c' - c) = c' by omega]; exact a3) ?_
            exact (hAt i0 p0 h0).trans (congrArg (th P w) k0)
          · rw [y] at a3
            have s0 := slot_live R.tab.rise a3
            rw [sl] at s0
            injection s0 with s0
            rw [← s0, hp] at h0
            exact ek ((congrArg Prod.snd (Option.some.inj h0)).trans k0)
      by_cases hl : t.led = true
      · refine wp_if_neg (by simp [hl]) ?_
        try refine wpAny_bind (wpAny_pure ?_)
        exact behind
      · refine wp_if_pos (by simp [hl]) ?_
        refine wpAny_bind (unseen hx (fun y hy => ?_) (wp_if_neg (by decide) ?_))
        · obtain ⟨e, he, ee⟩ := List.mem_map.mp hy
          have he1 : e ∈ es ∧ e.1 = th P w k := by simpa using he
          have he2 : e ∈ es.toList := Array.mem_toList_iff.mpr he1.1
          rw [R.rows] at he2
          obtain ⟨p2, hp2, e2⟩ := List.mem_map.mp he2
          exact ⟨p2.2, p2.1, by rw [← ee, ← e2]; rfl, al p2 hp2⟩
        · try refine wpAny_bind (wpAny_pure ?_)
          exact behind
    · have pr : t.probe (fun i => (es[i]?.map (·.1)).getD 0) (th P w k) (st.getD (t.probeStart (th P w k))) = some (.empty (way t.mask (th P w k) K) none) := by
        have e2 : way t.mask (th P w k) K = (nth t.mask (wayP t.mask (th P w k) c) (K - c)).j := by rw [ej, show c + (K - c) = K by omega]
        rw [est, e2]
        exact hgo
      rw [pr]
      dsimp only
      refine wpAny_pure (qo fun hm => ?_)
      obtain ⟨p0, h0, k0⟩ := List.mem_map.mp hm
      obtain ⟨i0, e0⟩ := List.mem_iff_getElem?.mp h0
      obtain ⟨c', a1, a2, a3⟩ := seen i0 p0 e0 k0
      exact hno (c' - c) i0 (by omega) (by rw [ej, show c + (c' - c) = c' by omega]; exact a3) ((hAt i0 p0 e0).trans (congrArg (th P w) k0))
theorem look (R : SG P w s.heap a L es ep t) (al : AllT P w s.heap L) {x : Addr} {k : List Key} (hx : TK2 P w s.heap k x) (hu : A.units < cLine) {Q : SetFound → Shared → Prop} (qi : k ∈ L.map (·.2) → Q (.there none) s)
    (qo : ∀ K, k ∉ L.map (·.2) → way t.mask (th P w k) K ∉ t.place.toList → (∀ c, c < K → way t.mask (th P w k) c ∈ t.place.toList) → Q (.free (way t.mask (th P w k) K) false) s) :
    wpAny (model P w) A (setSearch a (.ref x) (th P w k) true) Q E s := by
  have hr := R.room
  have hm := R.tab.mask.le
  obtain ⟨K, fK, nK, yK⟩ := R.tab.empty (by rw [List.length_map]; omega) (th P w k)
  have big : K < 100000 := by
    unfold SetTable.turns at fK
    omega
  unfold setSearch
  refine look_from R al hx hu fK nK yK qi (fun hn => qo K hn nK yK) 100000 0 none rfl (Nat.zero_le _) (by omega) fun i p hp hk => ?_
  have hi : (L.map fun p => th P w p.2)[i]? = some (th P w k) := by rw [List.getElem?_map, hp, ← hk]; rfl
  have il : i < t.place.toList.length := by
    have h1 : i < L.length := (List.getElem?_eq_some_iff.mp hp).1
    have h2 := R.tab.num
    rw [List.length_map] at h2
    rw [Array.length_toList]
    omega
  have hj := List.getElem?_eq_getElem il
  obtain ⟨c, hc, e⟩ := R.tab.ahead nK hi hj
  exact ⟨c, Nat.zero_le _, hc, by rw [hj, e]⟩
end
end Pn
set_option maxHeartbeats 4000000
/-! adding to a set of tuples -/
namespace Pn
open PySem L2 Evl PySem.Spec PyProof.Rows

section
variable {P : Program} {w : World} {A : Around} {E : Value → Shared → Prop} {s : Shared} {a : Addr} {L : List Mem} {es : Array (Int × Value)} {ep : Nat} {t : SetTable}
theorem tk_same {h h' : Heap} {k : List Key} {b : Addr} {o : Obj} (x : TK2 P w h k b) (ho : h.get? a = some o) (hd : o.data = .set es ep t) (sb : Heap.SameBut a h h') : TK2 P w h' k b := by
  obtain ⟨u, its, n, hu, hc, hdu, hi⟩ := x
  refine ⟨u, its, n, (sb.2 b ?_).trans hu, hc, hdu, hi⟩
  rintro rfl
  rw [ho] at hu
  cases hu
  rw [hd] at hdu
  cases hdu
theorem tk_keep {h h' : Heap} {k : List Key} {b : Addr} (x : TK2 P w h k b) (kp : ∀ c u, h.get? c = some u → h'.get? c = some u) : TK2 P w h' k b := by
  obtain ⟨u, its, n, hu, r⟩ := x
  exact ⟨u, its, n, kp _ _ hu, r⟩
theorem SG.keep {h h' : Heap} (R : SG P w h a L es ep t) (kp : ∀ o, h.get? a = some o → h'.get? a = some o) : SG P w h' a L es ep t := by
  obtain ⟨⟨o, ho, r⟩, b, c, d, e, f, g⟩ := R
  exact ⟨⟨o, kp o ho, r⟩, b, c, d, e, f, g⟩
theorem sg_size {L : List Mem} {es : Array (Int × Value)} (hr : es.toList = L.map (rowG P w)) : es.size = L.length := by rw [← Array.length_toList, hr, List.length_map]

/-- the rows by another order -/
theorem by_order (L : List Mem) (es : Array (Int × Value)) (order : Array Nat) (hr : es.toList = L.map (rowG P w)) (hp : order.toList.Perm (List.range L.length)) :
    ∃ L2 : List Mem, (order.filterMap (es[·]?)).toList = L2.map (rowG P w) ∧ L2.Perm L ∧ (L2.map fun p => th P w p.2) = order.toList.map fun i => (es.map (·.1)).getD i 0 := by
  have at_ : ∀ i : Nat, es[i]? = (L[i]?).map (rowG P w) := fun i => by rw [← Array.getElem?_toList, hr, List.getElem?_map]
  have one : ∀ l : List Nat, (∀ i ∈ l, i < L.length) → (l.filterMap fun i => es[i]?) = (l.filterMap fun i => L[i]?).map (rowG P w) ∧ ((l.filterMap fun i => L[i]?).map fun p => th P w p.2) = l.map fun i => (es.map (·.1)).getD i 0 := by
    intro l
    induction l with
    | nil => exact fun _ => ⟨rfl, rfl⟩
    | cons i l ih =>
      intro hl
      have hi := hl i List.mem_cons_self
      obtain ⟨e1, e2⟩ := ih fun j hj => hl j (List.mem_cons_of_mem _ hj)
      have gi := List.getElem?_eq_getElem hi
      have gs : es[i]? = some (rowG P w L[i]) := by rw [at_ i, gi]; rfl
      rw [List.filterMap_cons_some gs, List.filterMap_cons_some gi, e1]
      refine ⟨rfl, ?_⟩
      rw [List.map_cons, List.map_cons, e2]
      have g2 : (es.map (·.1))[i]? = some (th P w (L[i]).2) := by
        rw [Array.getElem?_map, gs]
        rfl
      congr 1
      simp [Array.getD_eq_getD_getElem?, g2]
  obtain ⟨e1, e2⟩ := one order.toList fun i hi => List.mem_range.mp (hp.mem_iff.mp hi)
  refine ⟨order.toList.filterMap fun i => L[i]?, by simpa using e1, ?_, e2⟩
  have e3 : ∀ n, n ≤ L.length → ((List.range n).filterMap fun i => L[i]?) = L.take n := by
    intro n
    induction n with
    | zero => exact fun _ => rfl
    | succ n ih =>
      intro hn
      have g := List.getElem?_eq_getElem (show n < L.length from hn)
      rw [List.range_succ, List.filterMap_append, ih (Nat.le_of_lt hn), List.take_add_one, g, List.filterMap_cons_some g]
      rfl
  have e4 := e3 L.length (Nat.le_refl _)
  rw [List.take_length] at e4
  have e5 : (order.toList.filterMap fun i => L[i]?).Perm ((List.range L.length).filterMap fun i => L[i]?) := hp.filterMap _
  rw [e4] at e5
  exact e5

theorem relay_g {o : Obj} (ho : s.heap.get? a = some o) (hex : o.ExactSet) (hd : o.data = .set es ep t) (hr : es.toList = L.map (rowG P w)) (hz : t.place.size = es.size) (hdm : t.dummies = #[]) (hfl : es.size ≤ t.mask)
    (nd : (L.map (·.2)).Nodup) (ld : w.params.followText "set-order" = true ∨ t.led = true) (few : L.length < 128) {wanted M : Nat} (hw : SetTable.sizeAbove wanted - 1 = M) (g : MkG M) (hw2 : SetTable.sizeAbove wanted ≤ 512) (hn : L.length * 5 < M * 3)
    {Q : Unit → Shared → Prop} (hQ : ∀ h' L' es' ep' t', Heap.SameBut a s.heap h' → SG P w h' a L' es' ep' t' → L'.Perm L → Q () { s with heap := h' }) : wpAny (model P w) A (setRelay a wanted) Q E s := by
  have sl := sg_size hr
  obtain ⟨t', order, e, hp, T, em, el, ed⟩ := anew t (hs := es.map (·.1)) (wanted := wanted) hw g (by rw [Array.size_map, sl]; omega)
  rw [Array.size_map, sl] at hp
  obtain ⟨L2, r1, r2, r3⟩ := by_order L es order hr hp
  rw [← r3] at T
  have s2 : (order.filterMap (es[·]?)).size = es.size := by rw [sg_size r1, r2.length_eq, sl]
  rw [setRelay_eq]
  refine wpAny_bind (wpAny_setState_of ho hd (fits_of hz hdm hfl) ?_)
  dsimp only
  refine wp_if_neg (by rw [sizeLine_eq]; omega) ?_
  try refine wpAny_bind (wpAny_pure ?_)
  rw [e]
  dsimp only
  refine wpAny_bind (wp_if_neg (by rw [s2]; simp) ?_)
  try refine wpAny_bind (wpAny_pure ?_)
  refine wpAny_pure ?_
  dsimp only
  refine wpAny_storeSet_of ho hd (hQ _ L2 _ (ep + 1) t' (Heap.SameBut.update ..) ⟨⟨_, store_at ho hd, ⟨hex.1, hex.2.1, hex.2.2⟩, rfl⟩, r1, T, (r2.map (·.2)).nodup_iff.mpr nd, by rw [el]; exact ld, ?_, by rw [r2.length_eq]; exact few⟩ r2) ?_
  · rw [r2.length_eq, em]
    exact hn
  · rw [s2, sl, sizeLine_eq]
    omega

theorem grown5 : SetTable.sizeAbove (SetTable.grown 5) = 32 := by decide +kernel
theorem grown19 : SetTable.sizeAbove (SetTable.grown 19) = 128 := by decide +kernel
theorem grown77 : SetTable.sizeAbove (SetTable.grown 77) = 512 := by decide +kernel
theorem plain_off {t : SetTable} {hs : List Int} (T : TG t hs) : TG { t with plain := false } hs := ⟨T.rise, T.nodum, T.num, T.mask, T.within, T.back⟩

/-- behind the search: the new row is stored, the table perhaps laid anew -/
theorem put_tail {o : Obj} (ho : s.heap.get? a = some o) (hex : o.ExactSet) (hd : o.data = .set es ep t) {es1 : Array (Int × Value)} {t1 : SetTable} {L1 : List Mem} (h1 : es1.toList = L1.map (rowG P w)) (T1 : TG t1 (L1.map fun p => th P w p.2))
    (nd1 : (L1.map (·.2)).Nodup) (ld1 : w.params.followText "set-order" = true ∨ t1.led = true) (few : L1.length < 128) {n : Nat} (hl : L1.length = n + 1) (room : n * 5 < t1.mask * 3) {Q : Bool → Shared → Prop}
    (hQ : ∀ h' L' es' ep' t', Heap.SameBut a s.heap h' → SG P w h' a L' es' ep' t' → L'.Perm L1 → Q true { s with heap := h' }) :
    wpAny (model P w) A (do
      storeSet a es1 t1
      if (!false && t1.tooFull) = true then do
        setRelay a (SetTable.grown (n + 1))
        pure true
      else pure true) Q E s := by
  have z1 := sg_size h1
  have n1 : t1.place.size = es1.size := by
    have e := T1.num
    rw [List.length_map] at e
    rw [e, z1]
  have full : t1.tooFull = true ↔ (n + 1) * 5 ≥ t1.mask * 3 := by
    unfold SetTable.tooFull SetTable.fill
    rw [T1.nodum, n1, z1, hl, decide_eq_true_eq]
    exact Iff.rfl
  refine wpAny_bind (wpAny_storeSet_of ho hd ?_ (by rw [z1, sizeLine_eq]; omega))
  have sb : Heap.SameBut a s.heap (s.heap.update a (Obj.putSet es1 t1)) := Heap.SameBut.update ..
  have ho1 := store_at (es' := es1) (t' := t1) ho hd
  by_cases hf : t1.tooFull = true
  · refine wp_if_pos (by simp [hf]) (wpAny_bind ?_)
    have ff := full.mp hf
    have go : ∀ M, SetTable.sizeAbove (SetTable.grown (n + 1)) - 1 = M → MkG M → SetTable.sizeAbove (SetTable.grown (n + 1)) ≤ 512 → (n + 1) * 5 < M * 3 → n + 1 ≤ t1.mask →
        wpAny (model P w) A (setRelay a (SetTable.grown (n + 1))) (fun _ s' => wpAny (model P w) A (pure true) Q E s') E { s with heap := s.heap.update a (Obj.putSet es1 t1) } := fun M m1 m2 m3 m4 m5 =>
      relay_g (s := { s with heap := s.heap.update a (Obj.putSet es1 t1) }) ho1 ⟨hex.1, hex.2.1, hex.2.2⟩ rfl h1 n1 T1.nodum (by rw [z1, hl]; exact m5) nd1 ld1 few m1 m2 m3 (by rw [hl]; exact m4) fun h2 L2 es2 ep2 t2 sb2 R2 pm =>
        wpAny_pure (hQ h2 L2 es2 ep2 t2 (sb.trans sb2) R2 pm)
    rcases T1.mask with (e | e | e) | e
    · have en : n = 4 := by omega
      subst en
      exact go 31 (by rw [grown5]) (.inl (.inr (.inl rfl))) (by rw [grown5]; decide) (by decide) (by omega)
    · have en : n = 18 := by omega
      subst en
      exact go 127 (by rw [grown19]) (.inl (.inr (.inr rfl))) (by rw [grown19]; decide) (by decide) (by omega)
    · have en : n = 76 := by omega
      subst en
      exact go 511 (by rw [grown77]) (.inr rfl) (by rw [grown77]; decide) (by decide) (by omega)
    · omega
  · refine wp_if_neg (by simp [hf]) (wpAny_pure (hQ _ L1 es1 (ep + 1) t1 sb ⟨⟨_, ho1, ⟨hex.1, hex.2.1, hex.2.2⟩, rfl⟩, h1, T1, nd1, ld1, ?_, few⟩ (List.Perm.refl _)))
    have ff : ¬ (n + 1) * 5 ≥ t1.mask * 3 := fun z => hf (full.mpr z)
    rw [hl]
    omega

theorem add_g (R : SG P w s.heap a L es ep t) (al : AllT P w s.heap L) {x : Addr} {k : List Key} (hx : TK2 P w s.heap k x) (hu : A.units < cLine) (few : L.length + 1 < 128) {Q : Bool → Shared → Prop}
    (hQ : ∀ b h' L' es' ep' t', Heap.SameBut a s.heap h' → SG P w h' a L' es' ep' t' → (k ∈ L.map (·.2) → L' = L) → (k ∉ L.map (·.2) → L'.Perm ((x, k) :: L)) → Q b { s with heap := h' }) :
    wpAny (model P w) A (setAddHashed a (.ref x) (th P w k)) Q E s := by
  obtain ⟨o, ho, hex, hd⟩ := R.here
  have sl := R.size
  have room := R.room
  unfold setAddHashed
  refine wpAny_holding ?_
  rw [show (100000 : Nat) = 99999 + 1 from rfl, setAddHashedIn_succ]
  refine wpAny_bind (wpAny_setState_of ho hd R.fits ?_)
  dsimp only
  refine wp_if_neg (by simp [byScan, Value.scannable]) ?_
  try refine wpAny_bind (wpAny_pure ?_)
  refine wpAny_bind (look R al hx hu (fun hm => ?_) fun K hm nK yK => ?_)
  · dsimp only
    exact wpAny_pure (hQ false s.heap L es ep t (Heap.SameBut.refl a s.heap) R (fun _ => rfl) fun z => absurd hm z)
  · dsimp only
    refine wpAny_bind (wpAny_setState_of ho hd R.fits ?_)
    dsimp only
    obtain ⟨q1, T1, _⟩ := R.tab.put nK yK rfl
    have hin : (SetTable.insertAt es (SetTable.below t.place (way t.mask (th P w k) K)) (th P w k, Value.ref x)).toList = (L.take (SetTable.below t.place (way t.mask (th P w k) K)) ++ (x, k) :: L.drop (SetTable.below t.place (way t.mask (th P w k) K))).map (rowG P w) := by
      rw [SetTable.toList_insertAt, R.rows, List.map_append, List.map_cons, List.map_take, List.map_drop]
      rfl
    have ep1 : (t.put (way t.mask (th P w k) K)).2 = SetTable.below t.place (way t.mask (th P w k) K) := rfl
    have em : (t.put (way t.mask (th P w k) K)).1.mask = t.mask := rfl
    have el : (t.put (way t.mask (th P w k) K)).1.led = t.led := rfl
    generalize t.put (way t.mask (th P w k) K) = pt at T1 ep1 em el ⊢
    obtain ⟨t1, p⟩ := pt
    dsimp only at T1 ep1 em el ⊢
    subst ep1
    generalize SetTable.below t.place (way t.mask (th P w k) K) = p at T1 hin ⊢
    have pm := put_perm L p (x, k)
    have hl : (L.take p ++ (x, k) :: L.drop p).length = L.length + 1 := pm.length_eq
    have hs : (L.take p ++ (x, k) :: L.drop p).map (fun p => th P w p.2) = (L.map fun p => th P w p.2).take p ++ th P w k :: (L.map fun p => th P w p.2).drop p := by
      rw [List.map_append, List.map_cons, List.map_take, List.map_drop]
    rw [← hs] at T1
    have nd1 : ((L.take p ++ (x, k) :: L.drop p).map (·.2)).Nodup := (pm.map (·.2)).nodup_iff.mpr (List.nodup_cons.mpr ⟨hm, R.nd⟩)
    generalize SetTable.insertAt es p (th P w k, Value.ref x) = es1 at hin ⊢
    generalize L.take p ++ (x, k) :: L.drop p = L1 at pm hl nd1 hin T1
    have ld1 : w.params.followText "set-order" = true ∨ t1.led = true := by rw [el]; exact R.led
    have fin : ∀ h' L' es' ep' t', Heap.SameBut a s.heap h' → SG P w h' a L' es' ep' t' → L'.Perm L1 → Q true { s with heap := h' } := fun h' L' es' ep' t' sb R' pm' =>
      hQ true h' L' es' ep' t' sb R' (fun z => absurd z hm) fun _ => pm'.trans pm
    have tl1 := put_tail (A := A) (E := E) ho hex hd hin T1 nd1 ld1 (by rw [hl]; exact few) hl (by rw [em]; exact room) fin
    have tl2 := put_tail (A := A) (E := E) ho hex hd hin (plain_off T1) nd1 ld1 (by rw [hl]; exact few) hl (by show _ < t1.mask * 3; rw [em]; exact room) fin
    rw [sl]
    by_cases hp : t1.plain = true
    · first
        | (refine wpAny_bind ?_; refine wp_if_pos hp ?_; refine hash_by hx fun c => ?_)
        | refine wp_if_pos hp (wpAny_bind (hash_by hx fun c => ?_))
      cases c with
      | true => exact tl1
      | false => exact tl2
    · first
        | (refine wpAny_bind ?_; refine wp_if_neg hp (wpAny_pure ?_))
        | refine wp_if_neg hp (wpAny_bind (wpAny_pure ?_))
      exact tl1
end
end Pn
set_option maxHeartbeats 4000000
/-! set(xs), sorted(set) -/
namespace Pn
open PySem L2 Evl PySem.Spec PyProof.Rows

section
variable {P : Program} {w : World} {A : Around} {E : Value → Shared → Prop} {s : Shared}

/-- the loop of set(xs), whatever is known of the set behind i items -/
theorem set_loop {I : Addr} {fp wr : List Addr} {G : Array GenState → Array GenState → Prop} {n : Nat} {Pv : Nat → Value → Prop} {St : Nat → Shared → Prop} {R : Result → Shared → Prop} (W : WalksS P w A.in1 I fp wr G n Pv St) (S : Addr) (hSf : S ∉ fp)
    (h0 : Heap) (noS : h0.get? S = none) (noW : ∀ b ∈ wr, h0.get? b = none) (Tab : Nat → Heap → Prop) (keepT : ∀ i h h', Tab i h → (∀ o, h.get? S = some o → h'.get? S = some o) → Tab i h')
    (step : ∀ (i : Nat) (v : Value) (z : Shared) (Q : Bool → Shared → Prop) (E' : Value → Shared → Prop), i < n → Pv i v → Tab i z.heap → (∀ b o, h0.get? b = some o → z.heap.get? b = some o) →
      (∀ c h' tk, z.toks ≤ tk → Tab (i + 1) h' → Heap.SameBut S z.heap h' → Q c { z with heap := h', toks := tk }) → wpAny (model P w) A.in1 (setAdd S v) Q E' z) :
    ∀ (k i : Nat) (z : Shared), n - i = k → i ≤ n → St i z → (∀ b o, h0.get? b = some o → z.heap.get? b = some o) → Tab i z.heap →
      (∀ z', Moved (S :: wr) G z z' → Tab n z'.heap → (∀ b o, h0.get? b = some o → z'.heap.get? b = some o) → R (.ok (.ret .none)) z') →
      codeAny (model P w) A (.builtin "set.update.loop" ⟨[.ref S, .ref I], []⟩) R z := by
  have hSw : S ∉ wr := fun z => hSf (W.sub _ z)
  have more : ∀ b ∈ wr, b ∈ S :: wr := fun b hb => List.mem_cons_of_mem _ hb
  have kept : ∀ {z z' : Shared}, Moved wr G z z' → (∀ b o, h0.get? b = some o → z.heap.get? b = some o) → ∀ b o, h0.get? b = some o → z'.heap.get? b = some o := fun hm hk b o e =>
    hm.heap b o (fun hb => by rw [noW b hb] at e; cases e) (hk b o e)
  intro k
  induction k with
  | zero =>
    intro i z ek hi hst hk tb hR
    obtain rfl : i = n := by omega
    refine codeAny_builtin F.entry_set_update_loop ?_
    rw [Around.under_plainId F.plain_set_update_loop _]
    show wpAny _ A.in1 (pyNext (.ref I) >>= _) _ _ z
    refine wpAny_bind (W.done z _ _ hst fun z' hm => ?_)
    exact wpAny_pure (hR z' (hm.mono more) (keepT _ _ _ tb fun o e => hm.heap S o hSw e) (kept hm hk))
  | succ k ih =>
    intro i z ek hi hst hk tb hR
    have lt : i < n := by omega
    refine codeAny_builtin F.entry_set_update_loop ?_
    rw [Around.under_plainId F.plain_set_update_loop _]
    show wpAny _ A.in1 (pyNext (.ref I) >>= _) _ _ z
    refine wpAny_bind (W.item i z _ _ lt hst fun v z' hP hst' hm => ?_)
    have hk' := kept hm hk
    refine wpAny_bind (wpAny_holding ?_)
    refine step i v z' _ _ lt hP (keepT _ _ _ tb fun o e => hm.heap S o hSw e) hk' fun c h' tk htk tb' sb => ?_
    have hk2 : ∀ b o, h0.get? b = some o → h'.get? b = some o := fun b o e => (sb.2 b (fun y => by rw [y, noS] at e; cases e)).trans (hk' b o e)
    refine wpAny_pure ⟨plainId_quiet F.plain_set_update_loop _, ih (i + 1) _ (by omega) lt (W.frame _ z' _ _ hst' htk fun b hb o e => (sb.2 b (fun y => hSf (by rw [← y]; exact hb))).trans e) hk2 tb' fun z2 hm2 tb2 hk3 => ?_⟩
    refine hR z2 (Moved.trans W.gtrans ((hm.mono more).then_heap htk fun b o hb e => ?_) hm2) tb2 hk3
    exact (sb.2 b fun y => hb (by rw [y]; exact List.mem_cons_self)).trans e

abbrev fresh0 (w : World) : Obj := { cls := .type "set", dict := none, data := .set #[] 0 (.fresh 0 0 (!w.params.followText "set-order")) }
/-- set(l), l a list -/
theorem set_call {l : Addr} {its : Array Value} {Q : Value → Shared → Prop} (hh : A.handled = none) (hl : s.heap.IsList l its) (Tab : Nat → Heap → Prop) (keepT : ∀ i h h', Tab i h → (∀ o, h.get? s.heap.objs.size = some o → h'.get? s.heap.objs.size = some o) → Tab i h')
    (first : ∀ h, h.get? s.heap.objs.size = some (fresh0 w) → Tab 0 h)
    (step : ∀ (i : Nat) (v : Value) (z : Shared) (Q : Bool → Shared → Prop) (E' : Value → Shared → Prop), i < its.size → its[i]? = some v → Tab i z.heap → (∀ b o, s.heap.get? b = some o → z.heap.get? b = some o) →
      (∀ c h' tk, z.toks ≤ tk → Tab (i + 1) h' → Heap.SameBut s.heap.objs.size z.heap h' → Q c { z with heap := h', toks := tk }) → wpAny (model P w) A.in1.in1.in1 (setAdd s.heap.objs.size v) Q E' z)
    (h : ∀ (h' : Heap) (tk : Nat), Tab its.size h' → (∀ b o, s.heap.get? b = some o → h'.get? b = some o) → Q (.ref s.heap.objs.size) { s with heap := h', toks := tk }) :
    wpAny (model P w) A (call (.type "set") [.ref l]) Q E s := by
  obtain ⟨c, tl, hmro⟩ := F.called_set.mro
  have k1 := F.called_set.made
  have k2 := F.called_set.sub
  refine wpAny_call (codeAny_of_tree ?_)
  show wpAny _ _ (callAny (.type "set") _) _ _ _
  refine wpAny_pure ⟨Code.quiet_builtin _ (by decide +kernel), codeAny_builtin F.entry_type_call ?_⟩
  rw [Around.under_plain (weight_type_call_type "set" [.ref l] []) rfl]
  have k3 := F.called_set.notType
  have k4 := F.called_set.canCreate
  have k5 := F.typeCall_set_1 (.ref l)
  repeat (any_goals (first | assumption | wp_step))
  refine codeAny_mono (code_set_led1 (.ref l) (E := E) (Q₁ := fun obj z => obj = .ref s.heap.objs.size ∧ z = { s with heap := s.heap.push (fresh0 w) }) ⟨rfl, rfl⟩) fun r z hr => ?_
  cases r with
  | error e => exact hr
  | ok fl =>
    cases fl with
    | ret obj =>
      obtain ⟨rfl, rfl⟩ := hr
      have hS : (s.heap.push (fresh0 w)).get? s.heap.objs.size = some (fresh0 w) := Heap.get?_push_size _ rfl
      have hT : Shared.TypeIs { s with heap := s.heap.push (fresh0 w) } (.ref s.heap.objs.size) "set" := ⟨_, hS, rfl⟩
      have k6 := F.called_set.init.lookup
      have k7 := F.called_set.init.bind (.ref s.heap.objs.size)
      repeat (any_goals (first | assumption | wp_step))
      refine codeAny_mono (codeAny_call_builtin (R := wants (fun r z => r = .none ∧ ∃ h' tk, z = { s with heap := h', toks := tk } ∧ Tab its.size h' ∧ (∀ b o, s.heap.get? b = some o → h'.get? b = some o)) E) F.called_set.init.plain F.entry_set_init (check_set_init_1 hT ?_)) fun r2 z2 hr2 => ?_
      · obtain ⟨ol, hol, hcl, nl, hdl⟩ := id hl
        obtain ⟨ocls, odict, odata, oslots⟩ := ol
        simp only at hcl hdl
        subst hcl; subst hdl
        have hol1 : (s.heap.push (fresh0 w)).get? l = some { cls := .type "list", dict := odict, data := .seq its nl, slots := oslots } := Heap.get?_push_of_some _ hol
        have k8 := F.sub_list_set
        have k9 := F.sub_list_frozenset
        have k0 : (Value.type "list" == Value.type "dict") = false := by decide
        have hl1 : (s.heap.push (fresh0 w)).IsList l its := ⟨_, hol1, rfl, nl, rfl⟩
        have lS : l < s.heap.objs.size := Heap.lt_size hol
        have hh3 : A.in1.in1.in1.handled = none := by simp [hh]
        have z1 : (s.heap.push (fresh0 w)).objs.size = s.heap.objs.size + 1 := Heap.size_push ..
        have fresh : ∀ b, s.heap.objs.size ≤ b → s.heap.get? b = none := fun b hb => Heap.get?_none_of_le hb
        unfold Builtin.«set.__init__» noKeywords Builtin.Frozenset.updateFrom
        generalize hPI : pyIter = PI
        wp_walk
        subst hPI
        refine wpAny_pyIter_list hl1 ?_
        refine wpAny_bind (wpAny_runValue ?_)
        have neI : l ≠ (s.heap.push (fresh0 w)).objs.size := by
          rw [z1]
          exact Nat.ne_of_lt (Nat.lt_succ_of_lt lS)
        have nS : s.heap.objs.size ∉ [(s.heap.push (fresh0 w)).objs.size, l] := by
          rw [z1]
          simp only [List.mem_cons, List.not_mem_nil, or_false, not_or]
          exact ⟨Nat.ne_of_lt (Nat.lt_succ_self _), Nat.ne_of_gt lS⟩
        refine set_loop ((Walks.list hh3 _ l neI its).toS) s.heap.objs.size nS s.heap (fresh _ (Nat.le_refl _)) (fun b hb => fresh b (by rw [List.mem_singleton.mp hb, z1]; omega)) Tab keepT step (its.size - 0) 0 _ rfl (Nat.zero_le _)
          ⟨⟨_, Heap.get?_push_size _ rfl, rfl, rfl⟩, (hl1.push _)⟩ (fun b o e => Heap.get?_push_of_some _ (Heap.get?_push_of_some _ e)) (first _ (Heap.get?_push_of_some _ hS)) fun z' hm tb hk => ?_
        obtain ⟨h', g2, d', tk', os'⟩ := z'
        have eg : g2 = s.gens := hm.gens
        have ed : d' = s.drawn := hm.drawn
        have eo : os' = s.os := hm.os
        subst eg; subst ed; subst eo
        exact wpAny_pure (wpAny_pure ⟨rfl, h', tk', rfl, tb, hk⟩)
      · cases r2 with
        | error e => exact hr2
        | ok fl2 =>
          cases fl2 with
          | ret r =>
            obtain ⟨rfl, h', tk, rfl, tb, hk⟩ := hr2
            repeat (any_goals (first | assumption | wp_step))
            exact h _ _ tb hk
          | _ => exact hr2.elim
    | _ => exact hr.elim
end
end Pn
set_option maxHeartbeats 4000000
/-! sets of texts -/
namespace Pn
open PySem L2 Evl PySem.Spec PyProof.Rows

def txt (e : Int × Value) : Str := match e.2 with | .str x _ => x | _ => Str.empty
def TxtE (P : Program) (w : World) (e : Int × Value) : Prop := ∃ x tk, e.2 = Value.str x tk ∧ e.1 = (PySem.strKind P w).hash x
/-- the set of texts at a: ks its members in some order -/
structure SWi (P : Program) (w : World) (h : Heap) (a : Addr) (ks : List Str) (es : Array (Int × Value)) (ep : Nat) (t : SetTable) : Prop where
  here : ∃ o, h.get? a = some o ∧ o.ExactSet ∧ o.data = .set es ep t
  each : ∀ e ∈ es.toList, TxtE P w e
  perm : (es.toList.map txt).Perm ks
  nd : ks.Nodup
  low : ks.length < 4000
  fit : t.fits es.size = true
  ris : Ris t.place.toList
  led : w.params.followText "set-order" = true ∨ t.led = true
def SW (P : Program) (w : World) (h : Heap) (a : Addr) (ks : List Str) : Prop := ∃ es ep t, SWi P w h a ks es ep t

section
variable {P : Program} {w : World} {A : Around} {E : Value → Shared → Prop} {s : Shared} {a : Addr} {ks : List Str}
theorem SW.keep {h h' : Heap} (R : SW P w h a ks) (kp : ∀ o, h.get? a = some o → h'.get? a = some o) : SW P w h' a ks := by
  obtain ⟨es, ep, t, ⟨⟨o, ho, r⟩, b, c, d, e, f, g, i⟩⟩ := R
  exact ⟨es, ep, t, ⟨o, kp o ho, r⟩, b, c, d, e, f, g, i⟩
theorem txt_elems {es : List (Int × Value)} (g : ∀ e ∈ es, TxtE P w e) : ElemsOf (PySem.strKind P w) es := fun e he => by
  obtain ⟨x, tk, q1, q2⟩ := g e he
  exact ⟨⟨x, by rw [q1]; exact PySem.strKind_is _ _ _ _, q2⟩, by rw [q1] <;> rfl⟩
theorem txt_is {e : Int × Value} (g : TxtE P w e) (x : Str) : (PySem.strKind P w).is x e.2 = true ↔ txt e = x := by
  obtain ⟨y, tk, q1, _⟩ := g
  have r := PySem.strKind_is P w y tk
  rw [KeyKind.is_eq_decide (knd := PySem.strKind P w) (k := y) (v := e.2) (by rw [q1]; exact r) x, decide_eq_true_eq]
  unfold txt
  rw [q1]
  exact eq_comm
theorem scan_room {n : Nat} (h : n < 4001) : n < scanBound := by
  unfold scanBound
  omega

theorem sw_tail {g : Bool → Sem Unit} (gOk : ∀ (b : Bool) (z : Shared) (Q' : Unit → Shared → Prop), Q' () z → wpAny (model P w) A (g b) Q' E z)
    {o : Obj} {es : Array (Int × Value)} {ep : Nat} {t : SetTable} (ho : s.heap.get? a = some o) (hex : o.ExactSet) (hd : o.data = .set es ep t)
    {en : Array (Int × Value)} {tn : SetTable} (each : ∀ e ∈ en.toList, TxtE P w e) (pm : (en.toList.map txt).Perm ks) (nd : ks.Nodup) (low : ks.length < 4000)
    (fitn : tn.fits en.size = true) (risn : Ris tn.place.toList) (ledn : w.params.followText "set-order" = true ∨ tn.led = true) {dum : Bool} {R : Option Bool → Shared → Prop}
    (fin : ∀ h', Heap.SameBut a s.heap h' → SW P w h' a ks → R (some true) { s with heap := h' }) :
    wpAny (model P w) A (do
        storeSet a en tn
        if (!dum && tn.tooFull) = true then do
            g (relayAll tn en (SetTable.grown en.size)).2.2
            storeSet a (relayAll tn en (SetTable.grown en.size)).1 (relayAll tn en (SetTable.grown en.size)).2.1
            pure (some true)
          else pure (some true)) R E s := by
  have size : ∀ {ez : Array (Int × Value)}, (ez.toList.map txt).Perm ks → ez.size < scanBound := fun {ez} p => by
    have q := p.length_eq
    rw [List.length_map, Array.length_toList] at q
    exact scan_room (by omega)
  refine wpAny_bind (wpAny_storeSet_of ho hd ?_ (fits_of_scanBound (size pm)))
  have stands := store_at (es' := en) (t' := tn) ho hd
  have sbn := Heap.SameBut.update s.heap a (Obj.putSet en tn)
  split
  · have rp := relayAll_perm tn en (SetTable.grown en.size)
    have rf := relayAll_fits tn en (SetTable.grown en.size)
    have rr := relayAll_ris tn en (SetTable.grown en.size)
    have rl := relayAll_led tn en (SetTable.grown en.size)
    generalize relayAll tn en (SetTable.grown en.size) = Z at rp rf rr rl ⊢
    obtain ⟨ez, tz, gv⟩ := Z
    dsimp only at rp rf rr rl ⊢
    have pz : (ez.toList.map txt).Perm ks := (rp.map txt).trans pm
    refine wpAny_bind (gOk _ _ _ ?_)
    refine wpAny_bind (wpAny_storeSet_of stands rfl ?_ (fits_of_scanBound (size pz)))
    have standz := store_at (es' := ez) (t' := tz) stands rfl
    refine wpAny_pure (fin _ (sbn.trans (Heap.SameBut.update _ a _)) ?_)
    exact ⟨ez, _, tz, ⟨_, standz, hex, rfl⟩, fun e he => each e (rp.mem_iff.mp he), pz, nd, low, rf, rr, ledn.imp id fun z => by rw [rl]; exact z⟩
  · exact wpAny_pure (fin _ sbn ⟨en, _, tn, ⟨_, stands, hex, rfl⟩, each, pm, nd, low, fitn, risn, ledn⟩)

theorem sw_add {x : Str} {tk : Tok} {Q : Bool → Shared → Prop} (R : SW P w s.heap a ks) (low : ks.length + 1 < 4000)
    (hQ : ∀ c h', Heap.SameBut a s.heap h' → SW P w h' a (if x ∈ ks then ks else x :: ks) → Q c { s with heap := h' }) :
    wpAny (model P w) A (setAddHashed a (.str x tk) ((PySem.strKind P w).hash x)) Q E s := by
  obtain ⟨es, ep, t, ⟨⟨o, ho, hex, hd⟩, each, pm, nd, lo, fit, ris, led⟩⟩ := id R
  have key : (PySem.strKind P w).is x (.str x tk) = true := PySem.strKind_is _ _ _ _
  have ele : ElemsOf (PySem.strKind P w) es.toList := txt_elems each
  have sz : es.size = ks.length := by
    have q := pm.length_eq
    rw [List.length_map, Array.length_toList] at q
    exact q
  unfold setAddHashed setAddHashedIn
  refine wpAny_holding (wpAny_bind (wpAny_setState_of ho hd fit ?_))
  dsimp only
  rw [byScan_of (show (Value.str x tk).scannable = true from rfl) (scan_room (by omega)) ele]
  simp only [↓reduceIte]
  unfold setAddByScan
  refine wpAny_bind ?_
  refine wpAny_bind (wpAny_rule ?_)
  refine wpAny_bind (wpAny_setScan_of key ho hd fit ele ?_)
  have mem : x ∈ ks ↔ ∃ e ∈ es.toList, (PySem.strKind P w).is x e.2 = true := by
    rw [← pm.mem_iff, List.mem_map]
    exact ⟨fun ⟨e, he, q⟩ => ⟨e, he, (txt_is (each e he) x).2 q⟩, fun ⟨e, he, q⟩ => ⟨e, he, (txt_is (each e he) x).1 q⟩⟩
  cases fi : List.findIdx? (fun e => (PySem.strKind P w).is x e.2) es.toList with
  | some j =>
    dsimp only
    obtain ⟨lj, pj, _⟩ := List.findIdx?_eq_some_iff_getElem.mp fi
    have q := hQ false s.heap (Heap.SameBut.refl a s.heap)
    rw [if_pos (mem.2 ⟨es.toList[j], List.getElem_mem lj, pj⟩)] at q
    exact wpAny_pure (wpAny_pure (q R))
  | none =>
    dsimp only
    have nx : x ∉ ks := fun z => by
      obtain ⟨e, he, q⟩ := mem.1 z
      have c := List.findIdx?_eq_none_iff.mp fi e he
      rw [q] at c
      cases c
    have gOk : ∀ (b : Bool) {z : Shared} {Q' : Unit → Shared → Prop}, Q' () z → wpAny (model P w) A (match b with | true => rule "set.scan.the-table-gave-way" | false => pure ()) Q' E z :=
      fun b z Q' q => by cases b <;> first | exact wpAny_pure q | exact wpAny_rule q
    have np := layNew_perm t es ((PySem.strKind P w).hash x) (.str x tk)
    have nf := layNew_fits t es ((PySem.strKind P w).hash x) (.str x tk)
    have nr := layNew_ris t es ((PySem.strKind P w).hash x) (.str x tk) ris
    have nl := layNew_led t es ((PySem.strKind P w).hash x) (.str x tk)
    generalize layNew t es ((PySem.strKind P w).hash x) (.str x tk) = Z at np nf nr nl ⊢
    obtain ⟨en, tn, dum, gv⟩ := Z
    dsimp only at np nf nr nl ⊢
    rw [Array.toList_push] at np
    have pc : en.toList.Perm (((PySem.strKind P w).hash x, Value.str x tk) :: es.toList) := np.trans (List.perm_append_singleton _ _)
    have pk : (en.toList.map txt).Perm (x :: ks) := (pc.map txt).trans (List.Perm.cons _ pm)
    have eachn : ∀ e ∈ en.toList, TxtE P w e := fun e he => by
      rcases List.mem_cons.mp (pc.mem_iff.mp he) with z | z
      · rw [z]
        exact ⟨x, tk, rfl, rfl⟩
      · exact each e z
    have ndn : (x :: ks).Nodup := List.nodup_cons.mpr ⟨nx, nd⟩
    have ledn : w.params.followText "set-order" = true ∨ tn.led = true := led.imp id fun z => by rw [nl]; exact z
    have fin : ∀ h', Heap.SameBut a s.heap h' → SW P w h' a (x :: ks) → Q true { s with heap := h' } := fun h' sb r => by
      have q := hQ true h' sb
      rw [if_neg nx] at q
      exact q r
    refine wpAny_bind (gOk _ ?_)
    split
    · refine wpAny_bind ?_
      rw [hashByValue_scannable 8 (show (Value.str x tk).scannable = true from rfl)]
      refine wpAny_pure ?_
      refine sw_tail (ks := x :: ks) ?_ ho hex hd eachn pk ndn (by simpa using low) ?_ ?_ ?_ ?_
      · intro b z Q' q; cases b <;> first | exact wpAny_pure q | exact wpAny_rule q
      · first | (split <;> first | exact nf | exact SetTable.fits_plain_off nf) | exact nf
      · first | (split <;> exact nr) | exact nr
      · first | (split <;> exact ledn) | exact ledn
      · intro h' sb r; dsimp only; exact wpAny_pure (fin h' sb r)
    · refine wpAny_bind (wpAny_pure ?_)
      simp only [↓reduceIte]
      refine sw_tail (ks := x :: ks) ?_ ho hex hd eachn pk ndn (by simpa using low) nf nr ledn ?_
      · intro b z Q' q; cases b <;> first | exact wpAny_pure q | exact wpAny_rule q
      · intro h' sb r; dsimp only; exact wpAny_pure (fin h' sb r)
end

/-! ### what a set is known by behind i items: of texts -/
section
variable {P : Program} {w : World} {A : Around} {E : Value → Shared → Prop} {s : Shared}
def TabW (P : Program) (w : World) (S : Addr) (xs : List Str) (i : Nat) (h : Heap) : Prop := ∃ ks, SW P w h S ks ∧ (∀ x, x ∈ ks ↔ x ∈ xs.take i) ∧ ks.length ≤ i
theorem tabW_step {S : Addr} {xs : List Str} (few : xs.length < 1000) {i : Nat} {x : Str} {tk : Tok} (hx : xs[i]? = some x) {z : Shared} (R : TabW P w S xs i z.heap) {Q : Bool → Shared → Prop}
    (hQ : ∀ c h' tk, z.toks ≤ tk → TabW P w S xs (i + 1) h' → Heap.SameBut S z.heap h' → Q c { z with heap := h', toks := tk }) : wpAny (model P w) A (setAdd S (.str x tk)) Q E z := by
  obtain ⟨ks, R, mem, len⟩ := R
  have il : i < xs.length := (List.getElem?_eq_some_iff.mp hx).1
  unfold setAdd
  refine wpAny_holding (wpAny_bind ((PySem.strKind P w).pyHash (PySem.strKind_is P w x tk) ?_))
  refine sw_add (s := { z with toks := z.toks + 1 }) R (by omega) fun c h' sb r => hQ c h' _ (Nat.le_succ _) ⟨_, r, fun y => ?_, ?_⟩ sb
  · rw [List.take_add_one, hx, List.mem_append, ← mem y]
    split
    · rename_i hm
      refine ⟨.inl, fun q => q.elim id fun q => ?_⟩
      have e : y = x := by simpa using q
      rw [e]
      exact hm
    · rw [List.mem_cons]
      refine ⟨fun q => q.elim (fun e => .inr (by simpa using e)) .inl, fun q => q.elim .inr fun e => .inl (by simpa using e)⟩
  · split
    · omega
    · rw [List.length_cons]
      omega
theorem tabW_new (S : Addr) (xs : List Str) {h : Heap} (e : h.get? S = some (fresh0 w)) : TabW P w S xs 0 h :=
  ⟨[], ⟨#[], 0, _, ⟨_, e, ⟨rfl, rfl, rfl⟩, rfl⟩, fun e he => (by simp at he), .nil, List.nodup_nil, by decide, rfl, List.Pairwise.nil, by
    show _ ∨ (!w.params.followText "set-order") = true
    cases w.params.followText "set-order" <;> simp⟩, fun x => by simp, Nat.le_refl _⟩

/-! ### of tuples -/
def TabG (P : Program) (w : World) (S : Addr) (its : Array Value) (ks : List (List Key)) (i : Nat) (h : Heap) : Prop :=
  ∃ (L : List Mem) (es : Array (Int × Value)) (ep : Nat) (t : SetTable), SG P w h S L es ep t ∧ (∀ p ∈ L, ∃ j, j < i ∧ its[j]? = some (.ref p.1) ∧ ks[j]? = some p.2) ∧ (∀ (j : Nat) k, j < i → ks[j]? = some k → k ∈ L.map (·.2)) ∧ L.length ≤ i
theorem tabG_step {S : Addr} {its : Array Value} {ks : List (List Key)} (few : ks.length < 127) (hu : A.units < cLine) {i : Nat} {b : Addr} {k : List Key} {z : Shared} (hi : its[i]? = some (.ref b)) (hk : ks[i]? = some k)
    (all : ∀ (j : Nat) b k, its[j]? = some (.ref b) → ks[j]? = some k → TK2 P w z.heap k b) (R : TabG P w S its ks i z.heap) {Q : Bool → Shared → Prop}
    (hQ : ∀ c h' tk, z.toks ≤ tk → TabG P w S its ks (i + 1) h' → Heap.SameBut S z.heap h' → Q c { z with heap := h', toks := tk }) : wpAny (model P w) A (setAdd S (.ref b)) Q E z := by
  obtain ⟨L, es, ep, t, R, sub, cov, len⟩ := R
  have il : i < ks.length := (List.getElem?_eq_some_iff.mp hk).1
  have tk := all i b k hi hk
  unfold setAdd
  refine wpAny_holding (wpAny_bind (wpAny_pyHash_tuple hu tk ?_))
  refine add_g (s := { z with toks := z.toks + (k.length + 1) }) R (fun p hp => ?_) tk hu (by omega) fun c h' L' es' ep' t' sb R' h1 h2 => hQ c h' _ (Nat.le_add_right _ _) ?_ sb
  · obtain ⟨j, _, q1, q2⟩ := sub p hp
    exact all j _ _ q1 q2
  · by_cases hm : k ∈ L.map (·.2)
    · rw [h1 hm] at R'
      refine ⟨L, es', ep', t', R', fun p hp => ?_, fun j k' hj q => ?_, by omega⟩
      · obtain ⟨j, q0, q⟩ := sub p hp
        exact ⟨j, by omega, q⟩
      · rcases Nat.lt_or_eq_of_le (Nat.le_of_lt_succ hj) with y | y
        · exact cov j k' y q
        · rw [y, hk] at q
          exact Option.some.inj q ▸ hm
    · have pm := h2 hm
      refine ⟨L', es', ep', t', R', fun p hp => ?_, fun j k' hj q => ?_, by rw [pm.length_eq, List.length_cons]; omega⟩
      · rcases List.mem_cons.mp (pm.mem_iff.mp hp) with y | y
        · rw [y]
          exact ⟨i, by omega, hi, hk⟩
        · obtain ⟨j, q0, q⟩ := sub p y
          exact ⟨j, by omega, q⟩
      · rw [(pm.map (·.2)).mem_iff]
        rcases Nat.lt_or_eq_of_le (Nat.le_of_lt_succ hj) with y | y
        · exact List.mem_cons_of_mem _ (cov j k' y q)
        · rw [y, hk] at q
          rw [← Option.some.inj q]
          exact List.mem_cons_self
theorem tabG_new (S : Addr) (its : Array Value) (ks : List (List Key)) {h : Heap} (e : h.get? S = some (fresh0 w)) : TabG P w S its ks 0 h :=
  ⟨[], #[], 0, _, ⟨⟨_, e, ⟨rfl, rfl, rfl⟩, rfl⟩, rfl, ⟨List.Pairwise.nil, rfl, rfl, .inl (.inl rfl), fun x hx => (by cases hx), fun i h j hi => (by simp at hi)⟩, List.nodup_nil, by
    show _ ∨ (!w.params.followText "set-order") = true
    cases w.params.followText "set-order" <;> simp, (show 0 * 5 < 7 * 3 by decide), by decide⟩, fun p hp => (by cases hp), fun j k hj => absurd hj (Nat.not_lt_zero _), Nat.le_refl _⟩
end
end Pn
set_option maxHeartbeats 4000000
/-! sorted(set(xs)) -/
namespace Pn
open PySem L2 Evl PySem.Spec PyProof.Rows

theorem each_perm {α β : Type} {R : α → β → Prop} {as as' : List α} (p : as.Perm as') : ∀ {bs : List β}, PySem.W.EachIs R as bs → ∃ bs', bs'.Perm bs ∧ PySem.W.EachIs R as' bs' := by
  induction p with
  | nil => exact fun h => ⟨_, List.Perm.refl _, h⟩
  | cons x _ ih =>
    intro bs h
    cases h with
    | cons r t =>
      obtain ⟨bs', q, e⟩ := ih t
      exact ⟨_ :: bs', q.cons _, .cons r e⟩
  | swap x y l =>
    intro bs h
    cases h with
    | cons r t =>
      cases t with
      | cons r2 t => exact ⟨_ :: _ :: _, List.Perm.swap _ _ _, .cons r2 (.cons r t)⟩
  | trans _ _ ih1 ih2 =>
    intro bs h
    obtain ⟨b1, q1, e1⟩ := ih1 h
    obtain ⟨b2, q2, e2⟩ := ih2 e1
    exact ⟨b2, q2.trans q1, e2⟩
theorem each_choose {α β : Type} {R : α → β → Prop} : ∀ {as : List α}, (∀ a ∈ as, ∃ b, R a b) → ∃ bs, PySem.W.EachIs R as bs
  | [], _ => ⟨[], .nil⟩
  | a :: as, h => by
    obtain ⟨b, r⟩ := h a List.mem_cons_self
    obtain ⟨bs, t⟩ := each_choose fun x hx => h x (List.mem_cons_of_mem _ hx)
    exact ⟨b :: bs, .cons r t⟩
theorem each_right {α β : Type} {R : α → β → Prop} : ∀ {as : List α} {bs : List β}, PySem.W.EachIs R as bs → ∀ b ∈ bs, ∃ a ∈ as, R a b
  | _, _, .nil, _, h => by cases h
  | _, _, .cons r t, b, h => by
    rcases List.mem_cons.mp h with e | h
    · exact ⟨_, List.mem_cons_self, e ▸ r⟩
    · obtain ⟨a, ha, q⟩ := each_right t b h
      exact ⟨a, List.mem_cons_of_mem _ ha, q⟩
theorem each_map_eq {α β γ : Type} {R : α → β → Prop} {f : α → γ} {g : β → γ} (e : ∀ a b, R a b → f a = g b) : ∀ {as : List α} {bs : List β}, PySem.W.EachIs R as bs → as.map f = bs.map g
  | _, _, .nil => rfl
  | _, _, .cons r t => by rw [List.map_cons, List.map_cons, e _ _ r, each_map_eq e t]

mutual
theorem TD.flat {H : Hp} {h : Heap} : ∀ {d : PyData} {v : V} {u : Value} {as : List Addr}, TD H d v → Reads h u d as → as = []
  | _, _, _, _, _, .none => rfl
  | _, _, _, _, _, .bool _ => rfl
  | _, _, _, _, _, .int _ _ => rfl
  | _, _, _, _, _, .str _ _ => rfl
  | _, _, _, _, t, .list _ _ _ _ => t.elim
  | _, _, _, _, t, .tuple _ _ _ r => by
    obtain ⟨a, xs, _, _, ts⟩ := t
    exact TDs.flat ts r
  | _, _, _, _, t, .dict _ _ _ _ _ => t.elim
theorem TDs.flat {H : Hp} {h : Heap} : ∀ {ds : List PyData} {vs : List V} {us : List Value} {as : List Addr}, TDs H ds vs → ReadsAll h us ds as → as = []
  | _, _, _, _, _, .nil => rfl
  | _, _, _, _, t, .cons r1 r2 => by
    obtain ⟨x, r, _, t1, t2⟩ := t
    rw [TD.flat t1 r1, TDs.flat t2 r2]
    rfl
end

section
variable {X : Cx} {β γ : Type}
/-- what sorted(set(xs)) gives -/
def Sorted1 (enc : β → PyData) (kk : β → γ) (bs bs' : List β) : Prop :=
  (∀ b ∈ bs', b ∈ bs) ∧ (∀ b ∈ bs, ∃ b' ∈ bs', kk b' = kk b) ∧ (bs'.map kk).Nodup ∧ bs'.Pairwise (fun a b => PySem.W.dataLt (enc b) (enc a) = false)

abbrev RV (H : Hp) (enc : β → PyData) (u : Value) (b : β) : Prop := ∃ x : V, RelV x u ∧ TD H (enc b) x

theorem sorted_end {pins : List (Addr × Obj)} {σ : L2.St} {H : Hp} {s : Shared} {Q : VK} (hc : X.calm = true) (hu : X.A.units + 64 < cLine) (enc : β → PyData) (kk : β → γ) (I : Inv X pins σ H s) {a : Addr} {es : Array (Int × Value)} {ep : Nat} {t : SetTable}
    (ha : SetAt s.heap a es ep t) (hf : t.fits es.size = true) (hsz : es.size < scanBound) (ri : Ris t.place.toList) (hl : X.w.params.followText "set-order" = true ∨ t.led = true)
    {bs bs1 : List β} (e1 : PySem.W.EachIs (RV H enc) (es.toList.map (·.2)) bs1) (s1 : ∀ b ∈ bs1, b ∈ bs) (s2 : ∀ b ∈ bs, ∃ b' ∈ bs1, kk b' = kk b) (s3 : (bs1.map kk).Nodup)
    (al : PySem.W.AllAlike (bs.map enc)) (so : PySem.W.Sortable (bs.map enc)) (dp : ∀ b ∈ bs, (enc b).depth ≤ 8)
    (q : ∀ p ys bs', H p = none → TDs H (bs'.map enc) ys → Sorted1 enc kk bs bs' → Q (.ref p) (upd H p (.lst ys))) :
    wpAny (model X.prog X.w) X.A (call (.builtin "sorted") [.ref a]) (EP X pins σ Q) X.xe s := by
  refine Calls.call_function_entry kind_sorted plain_sorted entry_sorted (args_sorted1 _) ?_
  unfold Builtin.«sorted»
  refine wpAny_bind (m := checkCount "sorted" 1 1 _) (wpAny_pure ?_)
  refine wpAny_bind (collect_set (A := X.A.in1) (I.ok.hd hc) ha hf hsz ri hl fun z1 vs k1 hz g1 o1 pm => ?_)
  obtain ⟨bs2, pb, e2⟩ := each_perm pm.symm e1
  have len : vs.length = bs2.length := e2.length
  have few : bs2.length ≤ sizeLine := by
    rw [← len, pm.length_eq, List.length_map, Array.length_toList]
    exact fits_of_scanBound hsz
  have hn : H z1.heap.objs.size = none := I.hok.fresh hz
  have I1 : Inv X pins σ H { s with heap := z1.heap, gens := z1.gens, drawn := z1.drawn, toks := z1.toks } :=
    I.call (ch := []) (Un.kept k1) (I.hok.kept k1) (by rw [g1]; exact I.bare) (fun _ z => nomatch z)
  have ez : z1 = { s with heap := z1.heap, gens := z1.gens, drawn := z1.drawn, toks := z1.toks } := by
    cases z1
    cases s
    cases o1
    rfl
  refine wpAny_bind (wpAny_newList ?_ (by rw [len]; exact few))
  have hoL : (z1.heap.push (seqObj "list" vs.toArray 0)).get? z1.heap.objs.size = some (seqObj "list" vs.toArray 0) := Heap.get?_push_size _ rfl
  have I2 : Inv X pins σ H { s with heap := z1.heap.push (seqObj "list" vs.toArray 0), gens := z1.gens, drawn := z1.drawn, toks := z1.toks } := I1.kept (t' := z1.toks) fun b o e => Heap.get?_push_of_some _ e
  have er : PySem.W.EachIs (fun v b => ∃ as, Reads (z1.heap.push (seqObj "list" vs.toArray 0)) v (enc b) as ∧ z1.heap.objs.size ∉ as) vs bs2 := e2.mono fun v b ⟨x, rx, tx⟩ => by
    obtain ⟨as, r⟩ := TD.reads I1 tx rx
    exact ⟨as, PyProof.Rows.Reads.keeps (fun b o e => Heap.get?_push_of_some _ e) r, by rw [TD.flat tx r]; simp⟩
  have sub : ∀ d ∈ bs2.map enc, d ∈ bs.map enc := fun d hd => by
    obtain ⟨b, hb, e⟩ := List.mem_map.mp hd
    exact List.mem_map.mpr ⟨b, s1 b (pb.mem_iff.mp hb), e⟩
  refine wpAny_bind (wpAny_holding (PySem.W.list_sort_data (s := { z1 with heap := z1.heap.push (seqObj "list" vs.toArray 0) }) hoL e2 er (fun d hd d' hd' => al d (sub d hd) d' (sub d' hd')) (so.imp (fun f d hd => f d (sub d hd)) fun f d hd => f d (sub d hd)) few (fun b hb => ?_) fun out ol eo => ?_))
  · have := dp b (s1 b (pb.mem_iff.mp hb))
    show X.A.units + 1 + 1 + (enc b).depth < cLine
    omega
  obtain ⟨ys, ty, ry⟩ := of_each enc eo
  obtain ⟨c, hc'⟩ := sortedHeap_at (vs := vs) (out := out.toArray) hoL
  have pm2 : (bs2.mergeSort (PySem.W.dataLe false enc)).Perm bs1 := (List.mergeSort_perm _ _).trans pb
  have fin := q z1.heap.objs.size ys _ hn ty ⟨fun b hb => s1 b (pm2.mem_iff.mp hb), fun b hb => by
      obtain ⟨b', h1, h2⟩ := s2 b hb
      exact ⟨b', pm2.mem_iff.mpr h1, h2⟩, (pm2.map kk).nodup_iff.mpr s3, ?_⟩
  · refine wpAny_pure ⟨_, rfl, .ref z1.heap.objs.size, upd H z1.heap.objs.size (.lst ys), ?_, rfl, fin⟩
    rw [ez]
    refine I1.laid (t' := z1.toks) (fun b o e => ?_) (Nat.le_refl _) ⟨?_, out, c, ry, hc'⟩
    · have hlt := Heap.lt_size e
      show (sortedHeap (z1.heap.push (seqObj "list" vs.toArray 0)) z1.heap.objs.size vs out.toArray).get? b = some o
      rw [sortedHeap_old (Nat.ne_of_lt hlt) (by rw [size_push']; exact Nat.lt_succ_of_lt hlt)]
      exact Heap.get?_push_of_some _ e
    · have a1 := ry.length
      omega
  · refine List.Pairwise.imp ?_ (PySem.W.sort_pairwise (PySem.W.sortLe_total (PyProof.Rows.listOrd PyProof.Rows.itemOrd) false fun b => PySem.W.keyToks (enc b)) bs2)
    intro a b hab
    have hab' : (!PySem.W.dataLt (enc b) (enc a)) = true := hab
    simpa using hab'

/-- the side facts of sorted(set(xs)) -/
structure SortSide (enc : β → PyData) (bs : List β) : Prop where
  al : PySem.W.AllAlike (bs.map enc)
  so : PySem.W.Sortable (bs.map enc)
  dp : ∀ b ∈ bs, (enc b).depth ≤ 8
abbrev ksOf (kk : β → List Key) (bs : List β) : List (List Key) := bs.map kk
def kd : Key → PyData
  | .inl i => .int i
  | .inr x => .str x
theorem items_td {P : Program} {w : World} {H : Hp} : ∀ {ks : List Key} {xs : List V} {us : List Value}, TDs H (ks.map kd) xs → Vals xs us → ItemsAre (mixKind P w) ks us
  | [], _, _, h, r => by
    have e : _ = [] := h
    subst e
    cases r
    exact .nil
  | k :: ks, _, _, h, r => by
    obtain ⟨x, t, rfl, h1, h2⟩ := h
    cases r with
    | cons r1 r2 =>
      refine .cons ?_ (items_td h2 r2)
      cases k with
      | inl i =>
        have e : x = .int i := h1
        subst e
        obtain ⟨tk, rfl⟩ := r1
        exact keyIs_int i tk
      | inr z =>
        have e : x = .str z := h1
        subst e
        obtain ⟨tk, rfl⟩ := r1
        exact keyIs_str z tk
theorem tk_of {pins : List (Addr × Obj)} {σ : L2.St} {H : Hp} {s : Shared} (I : Inv X pins σ H s) {k : List Key} {x : V} {u : Value} (h : TD H (.tuple (k.map kd)) x) (r : RelV x u) : ∃ b, u = .ref b ∧ TK2 X.prog X.w s.heap k b := by
  obtain ⟨b, xs, rfl, hb, ts⟩ := h
  have e : u = Value.ref b := r
  subst e
  obtain ⟨its, rv, ⟨o, ho, hc, n, hd⟩, _⟩ := I.tuple (H := H) (.inl (.inl hb))
  exact ⟨b, rfl, o, its.toArray, n, ho, hc, hd, by simpa using items_td ts rv⟩
def tSortG (K : PySem.W.Frag) (enc : β → PyData) (kk : β → List Key) (te : TE) : TE := fun σ H Q => te σ H fun x H1 => ∃ (l : Addr) (xs : List V) (bs : List β), x = V.ref l ∧ SqL K H1 l xs ∧ TDs H1 (bs.map enc) xs ∧ bs.length < 127 ∧ SortSide enc bs ∧
  (∀ b ∈ bs, enc b = .tuple ((kk b).map kd)) ∧ ∀ p ys bs', H1 p = none → TDs H1 (bs'.map enc) ys → Sorted1 enc kk bs bs' → Q (.ref p) (upd H1 p (.lst ys))
def tSortW (K : PySem.W.Frag) (te : TE) : TE := fun σ H Q => te σ H fun x H1 => ∃ (l : Addr) (bs : List Str), x = V.ref l ∧ SqL K H1 l (bs.map V.str) ∧ bs.length < 1000 ∧
  ∀ p bs', H1 p = none → Sorted1 PyData.str id bs bs' → Q (.ref p) (upd H1 p (.lst (bs'.map V.str)))
theorem each_get {α β : Type} {R : α → β → Prop} {i : Nat} : ∀ {as : List α} {bs : List β} {a : α} {b : β}, PySem.W.EachIs R as bs → as[i]? = some a → bs[i]? = some b → R a b := by
  induction i with
  | zero =>
    intro as bs a b h ha hb
    cases h with
    | nil => cases ha
    | cons r _ =>
      cases ha
      cases hb
      exact r
  | succ i ih =>
    intro as bs a b h ha hb
    cases h with
    | nil => cases ha
    | cons _ t => exact ih t ha hb
theorem pe_sortG {a : Expr} {te : TE} {p p2 q pos : Pos} {enc : β → PyData} {kk : β → List Key} (hc : X.calm = true) (hu : X.A.units + 64 < cLine) (hg : Gl X "sorted") (hm : X.mg "sorted" = none) (hg2 : Gl X "set") (hm2 : X.mg "set" = none) (ha : PE X a te)
    (na : starEach [a] X.env = (false, eval a X.env) :: starEach [] X.env := by rfl) : PE X (.Call (.Name "sorted" p) [.Call (.Name "set" p2) [a] [] q] [] pos) (tSortG X.K enc kk te) := by
  refine ⟨fun pins s σ H Q I h => ?_⟩
  refine Call_ (ld_blt I hg hm PyProof.Rows.boot_sorted ?_)
  refine PyProof.Rows.callWith_builtin1 (PyProof.Rows.args_cons ?_ rfl) rfl rfl
  refine Call_ (ld_blt I hg2 hm2 PyProof.Rows.boot_set ?_)
  refine PyProof.Rows.callWith_type1 (PyProof.Rows.args_cons (thn (ha.run pins s σ H _ I h) fun v s1 ⟨x, H1, I1, r1, q1⟩ => PyProof.Rows.args_nil ?_) na) na rfl
  obtain ⟨l, xs, bs, rfl, hq, td, few, side, isT, q1⟩ := q1
  cases r1
  obtain ⟨its, rv, pl, hz⟩ := I1.list hq
  have e1 := each_of enc td rv
  have nl : its.length = bs.length := e1.length
  have tk0 : ∀ (j : Nat) (u : Value) (k : List Key), its.toArray[j]? = some u → (bs.map kk)[j]? = some k → ∃ b, u = .ref b ∧ TK2 X.prog X.w s1.heap k b := fun j u k h1 h2 => by
    rw [List.getElem?_map] at h2
    cases hb : bs[j]? with
    | none => rw [hb] at h2; cases h2
    | some b =>
      rw [hb] at h2
      have ek : kk b = k := Option.some.inj h2
      obtain ⟨x, rx, tx⟩ := each_get e1 (by simpa using h1) hb
      rw [isT b (List.mem_of_getElem? hb), ek] at tx
      exact tk_of I1 tx rx
  refine set_call (I1.ok.hd hc) pl.isList (TabG X.prog X.w s1.heap.objs.size its.toArray (bs.map kk)) (fun i h h' ⟨L, es, ep, t, R, z⟩ kp => ⟨L, es, ep, t, R.keep kp, z⟩) (fun h e => tabG_new _ _ _ e)
    (fun i v z Q E' il hv R kp hQ => ?_) fun h' tk R hk => ?_
  · have ik : i < (bs.map kk).length := by
      rw [List.length_map, ← nl]
      exact il
    have gk := List.getElem?_eq_getElem ik
    obtain ⟨b, rfl, _⟩ := tk0 i v _ hv gk
    refine tabG_step (by rw [List.length_map]; exact few) ?_ hv gk (fun j b k h1 h2 => ?_) R hQ
    · show X.A.units + 1 + 1 + 1 < cLine
      omega
    · obtain ⟨b', e, t⟩ := tk0 j _ k h1 h2
      cases e
      exact tk_keep t kp
  · obtain ⟨L, es, ep, t, R, sub, cov, len⟩ := R
    refine PyProof.Rows.args_nil ?_
    have I2 : Inv X pins σ H1 { s1 with heap := h', toks := tk } := I1.kept hk
    obtain ⟨o, ho, hex, hd⟩ := R.here
    have ezip : ∀ p ∈ L, ∃ b, RV H1 enc (.ref p.1) b ∧ b ∈ bs ∧ kk b = p.2 := fun p hp => by
      obtain ⟨j, lj, h1, h2⟩ := sub p hp
      rw [List.getElem?_map] at h2
      cases hb : bs[j]? with
      | none => rw [hb] at h2; cases h2
      | some b =>
        rw [hb] at h2
        exact ⟨b, each_get e1 (by simpa using h1) hb, List.mem_of_getElem? hb, Option.some.inj h2⟩
    obtain ⟨bs1, ec⟩ := each_choose (R := fun (p : Mem) b => RV H1 enc (.ref p.1) b ∧ b ∈ bs ∧ kk b = p.2) ezip
    have ev : PySem.W.EachIs (RV H1 enc) (es.toList.map (·.2)) bs1 := by
      rw [R.rows, List.map_map]
      have go : ∀ {as : List Mem} {cs : List β}, PySem.W.EachIs (fun (p : Mem) b => RV H1 enc (.ref p.1) b ∧ b ∈ bs ∧ kk b = p.2) as cs → PySem.W.EachIs (RV H1 enc) (as.map fun p => Value.ref p.1) cs := fun {as cs} h => by
        induction h with
        | nil => exact .nil
        | cons r _ ih => exact .cons r.1 ih
      exact go ec
    have em : bs1.map kk = L.map (·.2) := (each_map_eq (f := fun p : Mem => p.2) (g := kk) (fun p b r => r.2.2.symm) ec).symm
    refine sorted_end hc hu enc kk I2 ⟨o, ho, hex.1, hd⟩ R.fits (scan_room (by have := R.size; have := R.few; omega)) R.tab.rise R.led ev (fun b hb => ?_) (fun b hb => ?_) (by rw [em]; exact R.nd) side.al side.so side.dp q1
    · obtain ⟨p, _, r⟩ := each_right ec b hb
      exact r.2.1
    · obtain ⟨j, hj⟩ := List.mem_iff_getElem?.mp hb
      have lj : j < its.toArray.size := by
        have := (List.getElem?_eq_some_iff.mp hj).1
        simpa [nl] using this
      have hm := cov j (kk b) lj (by rw [List.getElem?_map, hj]; rfl)
      rw [← em] at hm
      obtain ⟨b', h1, h2⟩ := List.mem_map.mp hm
      exact ⟨b', h1, h2⟩
theorem pe_sortW {a : Expr} {te : TE} {p p2 q pos : Pos} (hc : X.calm = true) (hu : X.A.units + 64 < cLine) (hg : Gl X "sorted") (hm : X.mg "sorted" = none) (hg2 : Gl X "set") (hm2 : X.mg "set" = none) (ha : PE X a te)
    (na : starEach [a] X.env = (false, eval a X.env) :: starEach [] X.env := by rfl) : PE X (.Call (.Name "sorted" p) [.Call (.Name "set" p2) [a] [] q] [] pos) (tSortW X.K te) := by
  refine ⟨fun pins s σ H Q I h => ?_⟩
  refine Call_ (ld_blt I hg hm PyProof.Rows.boot_sorted ?_)
  refine PyProof.Rows.callWith_builtin1 (PyProof.Rows.args_cons ?_ rfl) rfl rfl
  refine Call_ (ld_blt I hg2 hm2 PyProof.Rows.boot_set ?_)
  refine PyProof.Rows.callWith_type1 (PyProof.Rows.args_cons (thn (ha.run pins s σ H _ I h) fun v s1 ⟨x, H1, I1, r1, q1⟩ => PyProof.Rows.args_nil ?_) na) na rfl
  obtain ⟨l, bs, rfl, hq, few, q1⟩ := q1
  cases r1
  obtain ⟨its, rv, pl, hz⟩ := I1.list hq
  have nl : its.length = bs.length := by rw [← rv.length, List.length_map]
  have at_ : ∀ {i : Nat} {v : Value}, its[i]? = some v → ∃ x tk, bs[i]? = some x ∧ v = .str x tk := fun {i v} h => by
    have il : i < bs.length := by
      rw [← nl]
      exact (List.getElem?_eq_some_iff.mp h).1
    obtain ⟨tk, e⟩ := SS.strs_at (strsAre_of rv) i v h
    refine ⟨bs[i], tk, List.getElem?_eq_getElem il, ?_⟩
    rw [e, List.getD_eq_getElem?_getD, List.getElem?_eq_getElem il]
    rfl
  refine set_call (I1.ok.hd hc) pl.isList (TabW X.prog X.w s1.heap.objs.size bs) (fun i h h' ⟨ks, R, z⟩ kp => ⟨ks, R.keep kp, z⟩) (fun h e => tabW_new _ _ e)
    (fun i v z Q E' il hv R kp hQ => ?_) fun h' tk R hk => ?_
  · obtain ⟨x, tk, hx, rfl⟩ := at_ (by simpa using hv)
    exact tabW_step few hx R hQ
  · obtain ⟨ks, ⟨es, ep, t, R⟩, mem, len⟩ := R
    refine PyProof.Rows.args_nil ?_
    have I2 : Inv X pins σ H1 { s1 with heap := h', toks := tk } := I1.kept hk
    obtain ⟨o, ho, hex, hd⟩ := R.here
    have tk0 : ∀ x, x ∈ ks ↔ x ∈ bs := fun x => by
      rw [mem x, List.take_of_length_le (by simp [nl])]
    have sz : es.size = ks.length := by
      have q := R.perm.length_eq
      rw [List.length_map, Array.length_toList] at q
      exact q
    have ev : PySem.W.EachIs (RV H1 PyData.str) (es.toList.map (·.2)) (es.toList.map txt) := by
      have go : ∀ l : List (Int × Value), (∀ e ∈ l, TxtE X.prog X.w e) → PySem.W.EachIs (RV H1 PyData.str) (l.map (·.2)) (l.map txt) := by
        intro l
        induction l with
        | nil => exact fun _ => .nil
        | cons e l ih =>
          intro h
          obtain ⟨x, tk, e1, e2⟩ := h e List.mem_cons_self
          refine .cons ⟨.str x, ⟨tk, e1⟩, ?_⟩ (ih fun y hy => h y (List.mem_cons_of_mem _ hy))
          show V.str x = V.str (txt e)
          unfold txt
          rw [e1]
      exact go _ R.each
    have nd : (es.toList.map txt).Nodup := R.perm.nodup_iff.mpr R.nd
    refine sorted_end hc hu PyData.str id I2 ⟨o, ho, hex.1, hd⟩ R.fit (scan_room (by have := R.low; omega)) R.ris R.led (bs := bs) ev (fun b hb => (tk0 b).1 (R.perm.mem_iff.mp hb)) (fun b hb => ⟨b, R.perm.mem_iff.mpr ((tk0 b).2 hb), rfl⟩)
      (by rw [List.map_id]; exact nd) (fun d hd d' hd' => ?_) (.inr fun d hd => ?_) (fun b _ => ?_) fun p ys bs' hp ty so => ?_
    · obtain ⟨b, _, rfl⟩ := List.mem_map.mp hd
      obtain ⟨b', _, rfl⟩ := List.mem_map.mp hd'
      rfl
    · obtain ⟨b, _, rfl⟩ := List.mem_map.mp hd
      exact ⟨fun e => (nomatch e), fun _ e => (nomatch e)⟩
    · show (0 : Nat) ≤ 8
      omega
    · have e : ys = bs'.map V.str := by
        have go : ∀ {cs : List Str} {zs : List V}, TDs H1 (cs.map PyData.str) zs → zs = cs.map V.str := by
          intro cs
          induction cs with
          | nil => exact fun h => h
          | cons c cs ih =>
            intro zs h
            obtain ⟨x, r, e, t1, t2⟩ := h
            have e1 : x = .str c := t1
            rw [e, e1, ih t2]
            rfl
        exact go ty
      rw [e]
      exact q1 p bs' hp so
end
end Pn
set_option maxHeartbeats 200000
/-! the program's defs by places -/
namespace Pn
open PySem L2 Evl
def top (i : Nat) : Stmt := PySem.Challenge.pw_pressnotes_k75_whole_offs_and_moves.main.body.getD i (.Pass ⟨0, 0, 0, 0⟩)
abbrev dWord : Stmt := top 6
abbrev dLeast : Stmt := top 7
abbrev dBounded : Stmt := top 8
abbrev dMany : Stmt := top 10
abbrev dName : Stmt := top 14
abbrev dVoided : Stmt := top 16
abbrev dBags : Stmt := top 17
abbrev dCounted : Stmt := top 18
abbrev dPages : Stmt := top 20
abbrev dBrings : Stmt := top 21
abbrev dOffs : Stmt := top 22
abbrev dSaid : Stmt := top 23
abbrev dOffp : Stmt := top 24
abbrev dPart : Stmt := top 25
abbrev dLets : Stmt := top 26
abbrev dFirst : Stmt := top 27
abbrev dFeed : Stmt := top 29
abbrev dDraw : Stmt := top 30
abbrev dSame : Stmt := top 31
abbrev dWords : Stmt := top 32
abbrev dOffice : Stmt := top 33
abbrev dRuns : Stmt := top 34
abbrev dNm : Stmt := top 35
abbrev dWent : Stmt := top 36
abbrev dHist : Stmt := top 37
abbrev dNet : Stmt := top 38
abbrev dIsSo : Stmt := top 39
abbrev dLaw : Stmt := top 40
theorem cWord : FnScope ["thing", "sign"] ["thing"] (defScope dWord) := ⟨rfl, rfl, rfl, by decide +kernel, rfl, by decide +kernel, by decide +kernel⟩
theorem cLeast : FnScope ["thing", "least"] ["thing", "least"] (defScope dLeast) := ⟨rfl, rfl, rfl, by decide +kernel, rfl, by decide +kernel, by decide +kernel⟩
theorem cBounded : FnScope ["thing", "least", "most"] ["thing", "least", "most"] (defScope dBounded) := ⟨rfl, rfl, rfl, by decide +kernel, rfl, by decide +kernel, by decide +kernel⟩
theorem cMany : FnScope ["runs", "series", "first", "end"] ["runs"] (defScope dMany) := ⟨rfl, rfl, rfl, by decide +kernel, rfl, by decide +kernel, by decide +kernel⟩
theorem cName : FnScope ["thing"] ["thing"] (defScope dName) := ⟨rfl, rfl, rfl, by decide +kernel, rfl, by decide +kernel, by decide +kernel⟩
theorem cVoided : FnScope ["book", "named", "name", "deed"] ["book"] (defScope dVoided) := ⟨rfl, rfl, rfl, by decide +kernel, rfl, by decide +kernel, by decide +kernel⟩
theorem cBags : FnScope ["book", "gone", "name", "deed"] ["book"] (defScope dBags) := ⟨rfl, rfl, rfl, by decide +kernel, rfl, by decide +kernel, by decide +kernel⟩
theorem cCounted : FnScope ["book", "gone", "bags", "found", "name", "deed"] ["book"] (defScope dCounted) := ⟨rfl, rfl, rfl, by decide +kernel, rfl, by decide +kernel, by decide +kernel⟩
theorem cPages : FnScope ["book", "names", "name", "page"] ["book"] (defScope dPages) := ⟨rfl, rfl, rfl, by decide +kernel, rfl, by decide +kernel, by decide +kernel⟩
theorem cBrings : FnScope ["deed", "place", "many"] ["deed", "place"] (defScope dBrings) := ⟨rfl, rfl, rfl, by decide +kernel, rfl, by decide +kernel, by decide +kernel⟩
theorem cOffs : FnScope ["book", "place", "found", "there", "name", "deed"] ["book", "place"] (defScope dOffs) := ⟨rfl, rfl, rfl, by decide +kernel, rfl, by decide +kernel, by decide +kernel⟩
theorem cSaid : FnScope ["book", "name"] ["book", "name"] (defScope dSaid) := ⟨rfl, rfl, rfl, by decide +kernel, rfl, by decide +kernel, by decide +kernel⟩
theorem cOffp : FnScope ["book", "place", "one", "other", "found", "name", "deed", "many"] ["book", "place", "one", "other"] (defScope dOffp) := ⟨rfl, rfl, rfl, by decide +kernel, rfl, by decide +kernel, by decide +kernel⟩
theorem cPart : FnScope ["thing"] ["thing"] (defScope dPart) := ⟨rfl, rfl, rfl, by decide +kernel, rfl, by decide +kernel, by decide +kernel⟩
theorem cLets : FnScope ["book", "place", "one", "other", "thing", "part", "due", "k", "name", "many", "told"] ["book", "place", "one", "other", "thing"] (defScope dLets) := ⟨rfl, rfl, rfl, by decide +kernel, rfl, by decide +kernel, by decide +kernel⟩
theorem cFirst : FnScope ["book", "place", "ahead", "far", "name", "off"] ["book", "place"] (defScope dFirst) := ⟨rfl, rfl, rfl, by decide +kernel, rfl, by decide +kernel, by decide +kernel⟩
theorem cFeed : FnScope ["_law_script"] ["_law_script"] (defScope dFeed) := ⟨rfl, rfl, rfl, by decide +kernel, rfl, by decide +kernel, by decide +kernel⟩
theorem cDraw : FnScope ["_law_feed_here", "_law_many", "_law_found", "_law_at", "_law_cell", "_law_first"] ["_law_feed_here", "_law_many"] (defScope dDraw) := ⟨rfl, rfl, rfl, by decide +kernel, rfl, by decide +kernel, by decide +kernel⟩
theorem cSame : FnScope ["_law_found", "_law_due"] ["_law_found", "_law_due"] (defScope dSame) := ⟨rfl, rfl, rfl, by decide +kernel, rfl, by decide +kernel, by decide +kernel⟩
theorem cWords : FnScope ["_law_feed_here", "_law_some"] ["_law_feed_here"] (defScope dWords) := ⟨rfl, rfl, rfl, by decide +kernel, rfl, by decide +kernel, by decide +kernel⟩
theorem cOffice : FnScope ["_law_feed_here", "_law_words_here", "_law_places", "_law_ways", "_law_k", "_law_one", "_law_other", "_law_series", "_law_worths", "_law_word"] ["_law_feed_here"] (defScope dOffice) := ⟨rfl, rfl, rfl, by decide +kernel, rfl, by decide +kernel, by decide +kernel⟩
theorem cRuns : FnScope ["_law_notes", "_law_found", "_law_series", "_law_number"] ["_law_notes"] (defScope dRuns) := ⟨rfl, rfl, rfl, by decide +kernel, rfl, by decide +kernel, by decide +kernel⟩
theorem cNm : FnScope ["_law_feed_here", "_law_days", "_law_hand"] ["_law_feed_here"] (defScope dNm) := ⟨rfl, rfl, rfl, by decide +kernel, rfl, by decide +kernel, by decide +kernel⟩
theorem cWent : FnScope ["_law_feed_here", "_law_office_here", "_law_there", "_law_bagged", "_law_fresh", "_law_one", "_law_other", "_law_series", "_law_notes", "_law_j"] ["_law_feed_here", "_law_office_here", "_law_there", "_law_bagged", "_law_fresh"] (defScope dWent) := ⟨rfl, rfl, rfl, by decide +kernel, rfl, by decide +kernel, by decide +kernel⟩
theorem cHist : FnScope ["_law_feed_here", "_law_office_here", "_law_most", "_law_names", "_law_places", "_law_there", "_law_bagged", "_law_found", "_law_name_here", "_law_k", "_law_road", "_law_place"] ["_law_feed_here", "_law_office_here", "_law_most"] (defScope dHist) := ⟨rfl, rfl, rfl, by decide +kernel, rfl, by decide +kernel, by decide +kernel⟩
theorem cNet : FnScope ["_law_pages", "_law_place", "_law_one", "_law_other", "_law_net_here", "_law_many", "_law_name_here", "_law_deed", "_law_size", "_law_series", "_law_first", "_law_end"] ["_law_pages", "_law_place", "_law_one", "_law_other"] (defScope dNet) := ⟨rfl, rfl, rfl, by decide +kernel, rfl, by decide +kernel, by decide +kernel⟩
theorem cIsSo : FnScope ["_law_book", "_law_out", "_law_place", "_law_names", "_law_told", "_law_due", "_law_j", "_law_i", "_law_net_here", "_law_many", "_law_shown", "_law_name_here", "_law_deed"] ["_law_book", "_law_out", "_law_place"] (defScope dIsSo) := ⟨rfl, rfl, rfl, by decide +kernel, rfl, by decide +kernel, by decide +kernel⟩
theorem cLaw : FnScope ["_law_script", "_law_feed_here", "_law_office_here", "_law_whole", "_law_out", "_law_book", "_law_place", "_law_page", "_law_road"] ["_law_script"] (defScope dLaw) := ⟨rfl, rfl, rfl, by decide +kernel, rfl, by decide +kernel, by decide +kernel⟩
/-- what the top's names stand for -/
structure Tx (mg : Str → Option Value) : Prop where
  isi : mg "isinstance" = none
  int : mg "int" = none
  str : mg "str" = none
  tuple : mg "tuple" = none
  dict : mg "dict" = none
  set : mg "set" = none
  bool : mg "bool" = none
  len : mg "len" = none
  all : mg "all" = none
  sum : mg "sum" = none
  abs : mg "abs" = none
  range : mg "range" = none
  sorted : mg "sorted" = none
  repr : mg "repr" = none
  small : ∃ t, mg "SMALL" = some (.str "abcdefghijklmnopqrstuvwxyz" t)
  most : ∃ t, mg "MOST_LETTERS" = some (.int 8 t)
  day : ∃ t, mg "MOST_DAY" = some (.int 99999 t)
  num : ∃ t, mg "MOST_NUMBER" = some (.int 999 t)
end Pn
set_option maxHeartbeats 200000
/-! the mirror's data; loops of comprehensions -/
namespace Pn
open PySem L2 Evl
abbrev Nm := Int × Int × Str
def nmD (n : Nm) : PyData := .tuple [.int n.1, .int n.2.1, .str n.2.2]
def nmK (n : Nm) : List Key := [.inl n.1, .inl n.2.1, .inr n.2.2]
abbrev Run := Str × Int × Int
def runD (r : Run) : PyData := .tuple [.str r.1, .int r.2.1, .int r.2.2]
def manyR (rs : List Run) : Int := (rs.map fun r => r.2.2 - r.2.1).sum
inductive Deed
  | count (p : Str) (n : Int)
  | bag (a b : Str) (n : Int)
  | move (a b : Str) (rs : List Run)
def deedD : Deed → PyData
  | .count p n => .tuple [.str "count", .str p, .int n]
  | .bag a b n => .tuple [.str "bag", .str a, .str b, .int n]
  | .move a b rs => .tuple [.str "move", .str a, .str b, .tuple (rs.map runD)]
abbrev Page := Nm × Deed
def pageD (g : Page) : PyData := .tuple [nmD g.1, deedD g.2]
/-- how many notes a deed names -/
def Deed.size : Deed → Int
  | .count _ _ => 0
  | .bag _ _ n => n
  | .move _ _ rs => manyR rs
/-- does a deed that moves notes name the place -/
def Deed.at_ : Deed → Str → Bool
  | .count _ _, _ => false
  | .bag a b _, p => decide (p = a) || decide (p = b)
  | .move a b _, p => decide (p = a) || decide (p = b)
def Deed.to : Deed → Str
  | .count _ _ => "count"
  | .bag _ b _ => b
  | .move _ b _ => b
def bringsM (d : Deed) (p : Str) : Int := if d.at_ p then (if d.to = p then d.size else 0 - d.size) else 0

/-- a book: a tuple of pages -/
def Bk (H : Hp) (a : Addr) (b : List Page) : Prop := ∃ xs, PlT H a xs ∧ TDs H (b.map pageD) xs
theorem Bk.ex {H H' : Hp} {a : Addr} {b : List Page} (e : Ex H H') (h : Bk H a b) : Bk H' a b := by
  obtain ⟨xs, h1, h2⟩ := h
  exact ⟨xs, h1.ex e, h2.mono (Tk.ex e)⟩
theorem TDs.two {H : Hp} {c d : PyData} {xs : List V} (h : TDs H [c, d] xs) : ∃ x y, xs = [x, y] ∧ TD H c x ∧ TD H d y := by
  obtain ⟨x, r, rfl, h1, y, r2, rfl, h2, e⟩ := h
  have e : r2 = [] := e
  subst e
  exact ⟨x, y, rfl, h1, h2⟩
theorem TDs.three {H : Hp} {c d e : PyData} {xs : List V} (h : TDs H [c, d, e] xs) : ∃ x y z, xs = [x, y, z] ∧ TD H c x ∧ TD H d y ∧ TD H e z := by
  obtain ⟨x, r, rfl, h1, y, r2, rfl, h2, z, r3, rfl, h3, e⟩ := h
  have e : r3 = [] := e
  subst e
  exact ⟨x, y, z, rfl, h1, h2, h3⟩
theorem TDs.four {H : Hp} {c d e f : PyData} {xs : List V} (h : TDs H [c, d, e, f] xs) : ∃ x y z u, xs = [x, y, z, u] ∧ TD H c x ∧ TD H d y ∧ TD H e z ∧ TD H f u := by
  obtain ⟨x, r, rfl, h1, y, r2, rfl, h2, z, r3, rfl, h3, u, r4, rfl, h4, e⟩ := h
  have e : r4 = [] := e
  subst e
  exact ⟨x, y, z, u, rfl, h1, h2, h3, h4⟩
theorem TD.pg {H : Hp} {g : Page} {v : V} (h : TD H (pageD g) v) : ∃ a x y, v = .ref a ∧ H a = some (.tup [x, y]) ∧ TD H (nmD g.1) x ∧ TD H (deedD g.2) y := by
  obtain ⟨a, xs, rfl, ha, hs⟩ := h
  obtain ⟨x, y, rfl, h1, h2⟩ := hs.two
  exact ⟨a, x, y, rfl, ha, h1, h2⟩
theorem TD.nm {H : Hp} {n : Nm} {v : V} (h : TD H (nmD n) v) : ∃ a, v = .ref a ∧ H a = some (.tup [.int n.1, .int n.2.1, .str n.2.2]) := by
  obtain ⟨a, xs, rfl, ha, hs⟩ := h
  obtain ⟨x, y, z, rfl, h1, h2, h3⟩ := hs.three
  have e1 : x = .int n.1 := h1
  have e2 : y = .int n.2.1 := h2
  have e3 : z = .str n.2.2 := h3
  subst e1 e2 e3
  exact ⟨a, rfl, ha⟩
theorem TD.key {H : Hp} {n : Nm} {v : V} (h : TD H (nmD n) v) : KeyV H (some (nmK n)) v := by
  obtain ⟨a, rfl, ha⟩ := h.nm
  exact ⟨a, rfl, ha⟩
theorem TD.run {H : Hp} {n : Run} {v : V} (h : TD H (runD n) v) : ∃ a, v = .ref a ∧ H a = some (.tup [.str n.1, .int n.2.1, .int n.2.2]) := by
  obtain ⟨a, xs, rfl, ha, hs⟩ := h
  obtain ⟨x, y, z, rfl, h1, h2, h3⟩ := hs.three
  have e1 : x = .str n.1 := h1
  have e2 : y = .int n.2.1 := h2
  have e3 : z = .int n.2.2 := h3
  subst e1 e2 e3
  exact ⟨a, rfl, ha⟩
theorem tk_new {H : Hp} {p : Addr} {o : HO} (h : H p = none) : Tk H (upd H p o) := Tk.ex (Ex.new h)
/-- a list may change, the tuples stand -/
theorem tk_lst {H : Hp} {p : Addr} {ys zs : List V} (h : H p = some (.lst ys)) : Tk H (upd H p (.lst zs)) := fun a xs e => by
  rw [upd_ne (ne_of e h (by intro z; cases z))]
  exact e

/-! ### comprehensions -/
section
variable {K : PySem.W.Frag} {σ : L2.St} {H : Hp} {te tl : TE} {t : TT} {g : L2.TG} {vs : List Nat} {Q : VK}
def LcP (H : Hp) (R : Nat → List V → Hp → Prop) (Dl : Addr) (i : Nat) (H' : Hp) : Prop := H Dl = none ∧ Ex H H' ∧ ∃ acc, H' Dl = some (.lst acc) ∧ acc.length ≤ i ∧ R i acc H'
/-- one turn -/
def Turn (t : TT) (te : TE) (R : Nat → List V → Hp → Prop) (i : Nat) (σ2 : L2.St) (H1 : Hp) : Prop :=
  ∃ b, EvT t σ2 H1 b ∧ (b = true → ∀ H3, Ex H1 H3 → ∀ Q : VK, (∀ y H4, Ex H3 H4 → (∀ acc, R i acc H4 → R (i + 1) (acc ++ [y]) H4) → Q y H4) → te σ2 H3 Q) ∧ (b = false → ∀ acc H3, Ex H1 H3 → R i acc H1 → R (i + 1) acc H3)
theorem yes_T {σ : L2.St} : EvT tYes σ H true := fun H1 _ _ q => q H1 (Ex.refl H1)
theorem Turn.yes {R : Nat → List V → Hp → Prop} {i : Nat} {H1 : Hp} (h : ∀ H3, Ex H1 H3 → ∀ Q : VK, (∀ y H4, Ex H3 H4 → (∀ acc, R i acc H4 → R (i + 1) (acc ++ [y]) H4) → Q y H4) → te σ H3 Q) : Turn tYes te R i σ H1 :=
  ⟨true, yes_T, fun _ => h, fun z => nomatch z⟩
theorem lc_turn {R : Nat → List V → Hp → Prop} (mono : ∀ j acc H1 H2, Tk H1 H2 → R j acc H1 → R j acc H2) {Dl : Addr} {i : Nat} {H' : Hp} {σ2 : L2.St} (p : LcP H R Dl i H') (hi : i < 50000) (T : Turn t te R i σ2 H') :
    t σ2 H' fun b H3 => if b = true then te σ2 H3 fun y H4 => ∃ acc, H4 Dl = some (.lst acc) ∧ acc.length < sizeLine ∧ LcP H R Dl (i + 1) (upd H4 Dl (.lst (acc ++ [y]))) else LcP H R Dl (i + 1) H3 := by
  obtain ⟨p1, p2, acc, p3, p4, p5⟩ := p
  obtain ⟨b, ht, h1, h2⟩ := T
  refine ht H' (Ex.refl _) _ fun H3 e3 => ?_
  cases b with
  | true =>
    show te σ2 H3 fun y H4 => ∃ acc, H4 Dl = some (.lst acc) ∧ acc.length < sizeLine ∧ LcP H R Dl (i + 1) (upd H4 Dl (.lst (acc ++ [y])))
    refine h1 rfl H3 e3 _ fun y H4 e4 k => ⟨acc, e4 Dl _ (e3 Dl _ p3), sz_lt (by omega), p1, Ex.mut ((p2.trans e3).trans e4) p1, acc ++ [y], upd_same, by rw [List.length_append, List.length_singleton]; omega, ?_⟩
    exact mono _ _ _ _ (tk_lst (e4 Dl _ (e3 Dl _ p3))) (k acc (mono _ _ _ _ (Tk.ex (e3.trans e4)) p5))
  | false =>
    show LcP H R Dl (i + 1) H3
    exact ⟨p1, p2.trans e3, acc, e3 Dl _ p3, by omega, h2 rfl acc H3 e3 p5⟩
/-- a source: it gives the list, the tuple xs -/
def SrcL (K : PySem.W.Frag) (tl : TE) (σ : L2.St) (H : Hp) (xs : List V) : Prop := ∀ H0, Ex H H0 → ∀ Q : VK, (∀ a H1, Ex H0 H1 → SqL K H1 a xs → Q (.ref a) H1) → tl σ H0 Q
def SrcT (K : PySem.W.Frag) (tl : TE) (σ : L2.St) (H : Hp) (xs : List V) : Prop := ∀ H0, Ex H H0 → ∀ Q : VK, (∀ a H1, Ex H0 H1 → SqT K H1 a xs → Q (.ref a) H1) → tl σ H0 Q
theorem SrcL.ev {a : Addr} {xs : List V} (h : Ev tl σ H (.ref a)) (hx : SqL K H a xs) : SrcL K tl σ H xs := fun H0 e0 Q q => h H0 e0 _ fun H1 e1 => q a H1 e1 (ex_l (e0.trans e1) hx)
theorem SrcL.new {xs : List V} (h : EvL tl σ H xs) : SrcL K tl σ H xs := fun H0 e0 Q q => h H0 e0 _ fun p H1 _ e1 hp => q p H1 e1 (sq_of hp)
theorem SrcT.ev {a : Addr} {xs : List V} (h : Ev tl σ H (.ref a)) (hx : SqT K H a xs) : SrcT K tl σ H xs := fun H0 e0 Q q => h H0 e0 _ fun H1 e1 => q a H1 e1 (ex_t (e0.trans e1) hx)
theorem lcL {xs : List V} (R : Nat → List V → Hp → Prop) (mono : ∀ j acc H1 H2, Tk H1 H2 → R j acc H1 → R j acc H2) (hz : xs.length ≤ 40000) (h : SrcL K tl σ H xs) (h0 : ∀ H1, Ex H H1 → R 0 [] H1)
    (hs : ∀ (i : Nat) (x : V) H1, xs[i]? = some x → Ex H H1 → ∃ σ2, (∀ N : L2.St → Hp → Prop, N σ2 H1 → g x (wipe σ vs) H1 N) ∧ wipe σ2 vs = wipe σ vs ∧ Turn t te R i σ2 H1)
    (q : ∀ p H2 acc, H p = none → Ex H H2 → H2 p = some (.lst acc) → acc.length ≤ xs.length → R xs.length acc H2 → Q (.ref p) H2) : tLc (iList K tl) g t te vs σ H Q :=
  h H (Ex.refl H) _ fun a H1 e1 hx => ⟨a, rfl, ⟨xs, hx⟩, fun Dl hD =>
  lc_list (xs := xs) (LcP H1 R Dl) ⟨hD, Ex.new hD, [], upd_same, Nat.le_refl _, mono _ _ _ _ (tk_new hD) (h0 H1 e1)⟩ (fun i H' _ p => ex_l p.2.1 hx) (fun i x H' hi p => by
    obtain ⟨σ2, h1, h2, h3⟩ := hs i x H' hi (e1.trans p.2.1)
    exact h1 _ ⟨h2, lc_turn mono p (by have := (List.getElem?_eq_some_iff.mp hi).1; omega) h3⟩)
    (fun H' ⟨p1, p2, acc, p3, p4, p5⟩ => q Dl H' acc (fresh_back e1 p1) (e1.trans p2) p3 p4 p5)⟩
theorem lcT {xs : List V} (R : Nat → List V → Hp → Prop) (mono : ∀ j acc H1 H2, Tk H1 H2 → R j acc H1 → R j acc H2) (hz : xs.length ≤ 40000) (h : SrcT K tl σ H xs) (h0 : ∀ H1, Ex H H1 → R 0 [] H1)
    (hs : ∀ (i : Nat) (x : V) H1, xs[i]? = some x → Ex H H1 → ∃ σ2, (∀ N : L2.St → Hp → Prop, N σ2 H1 → g x (wipe σ vs) H1 N) ∧ wipe σ2 vs = wipe σ vs ∧ Turn t te R i σ2 H1)
    (q : ∀ p H2 acc, H p = none → Ex H H2 → H2 p = some (.lst acc) → acc.length ≤ xs.length → R xs.length acc H2 → Q (.ref p) H2) : tLc (iTup K tl) g t te vs σ H Q :=
  h H (Ex.refl H) _ fun a H1 e1 hx => ⟨a, rfl, ⟨xs, hx⟩, fun Dl hD =>
  lc_tup (xs := xs) (LcP H1 R Dl) ⟨hD, Ex.new hD, [], upd_same, Nat.le_refl _, mono _ _ _ _ (tk_new hD) (h0 H1 e1)⟩ (fun i H' _ p => ex_t p.2.1 hx) (fun i x H' hi p => by
    obtain ⟨σ2, h1, h2, h3⟩ := hs i x H' hi (e1.trans p.2.1)
    exact h1 _ ⟨h2, lc_turn mono p (by have := (List.getElem?_eq_some_iff.mp hi).1; omega) h3⟩)
    (fun H' ⟨p1, p2, acc, p3, p4, p5⟩ => q Dl H' acc (fresh_back e1 p1) (e1.trans p2) p3 p4 p5)⟩
theorem lcR {ta : TA} {n : Nat} (R : Nat → List V → Hp → Prop) (mono : ∀ j acc H1 H2, Tk H1 H2 → R j acc H1 → R j acc H2) (hz : n ≤ 40000) (h : EvA ta σ H [.int (n : Int)]) (h0 : ∀ H1, Ex H H1 → R 0 [] H1)
    (hs : ∀ (i : Nat) H1, i < n → Ex H H1 → ∃ σ2, (∀ N : L2.St → Hp → Prop, N σ2 H1 → g (.int (i : Int)) (wipe σ vs) H1 N) ∧ wipe σ2 vs = wipe σ vs ∧ Turn t te R i σ2 H1)
    (q : ∀ p H2 acc, H p = none → Ex H H2 → H2 p = some (.lst acc) → acc.length ≤ n → R n acc H2 → Q (.ref p) H2) : tLc (iRng1 ta) g t te vs σ H Q :=
  h H (Ex.refl H) _ fun H1 e1 => ⟨(n : Int), rfl, by omega, by omega, fun Dl hD =>
  lc_range (lo := 0) (n := n) (LcP H1 R Dl) ⟨hD, Ex.new hD, [], upd_same, Nat.le_refl _, mono _ _ _ _ (tk_new hD) (h0 H1 e1)⟩ (fun i H' hi p => by
    have e0 : (0 : Int) + (i : Int) = (i : Int) := Int.zero_add _
    obtain ⟨σ2, h1, h2, h3⟩ := hs i H' hi (e1.trans p.2.1)
    rw [e0]
    exact h1 _ ⟨h2, lc_turn mono p (by omega) h3⟩)
    (fun H' ⟨p1, p2, acc, p3, p4, p5⟩ => q Dl H' acc (fresh_back e1 p1) (e1.trans p2) p3 p4 p5)⟩
theorem g2 {a : Addr} {x y : V} {i j : Nat} {H1 : Hp} (h : SqT K H1 a [x, y]) (N : L2.St → Hp → Prop) (k : N ((σ.set i (some x)).set j (some y)) H1) : gTup K 2 (gCons (gName i) (gCons (gName j) gNil)) (.ref a) σ H1 N :=
  ⟨a, [x, y], rfl, h, rfl, x, [y], rfl, y, [], rfl, rfl, k⟩
theorem g3 {a : Addr} {x y z : V} {i j l : Nat} {H1 : Hp} (h : SqT K H1 a [x, y, z]) (N : L2.St → Hp → Prop) (k : N (((σ.set i (some x)).set j (some y)).set l (some z)) H1) : gTup K 3 (gCons (gName i) (gCons (gName j) (gCons (gName l) gNil))) (.ref a) σ H1 N :=
  ⟨a, [x, y, z], rfl, h, rfl, x, [y, z], rfl, y, [z], rfl, z, [], rfl, rfl, k⟩
end

section
variable {σ : L2.St} {H : Hp} {te ta tb : TE} {tr : TA} {D : Ends} {Q : VK} {t u : TS}
theorem r_ret (h : te σ H D.rt) : tRet te D σ H := h
theorem r_cb {r : List V → Hp → VK → Prop} {ta : TA} (h : ta σ H fun vs H1 => r vs H1 Q) : tCB r ta σ H Q := h
theorem r_cons {Q : List V → Hp → Prop} (h : te σ H fun x H1 => tr σ H1 fun xs H2 => Q (x :: xs) H2) : tCons te tr σ H Q := h
theorem r_call {sp : Sp} {dvs : List V} {E : XK} (h : tr σ H fun vs H1 => sp (vs ++ dvs) H1 Q E) : tCall sp dvs E tr σ H Q := h
theorem r_set {i : Nat} (h : te σ H fun x H1 => D.nx (σ.set i (some x)) H1) : tAsg te (gName i) D σ H := h
theorem r_asg {g : L2.TG} (h : te σ H fun x H1 => g x σ H1 D.nx) : tAsg te g D σ H := h
theorem r_seq (h : t { D with nx := fun σ' H' => u D σ' H' } σ H) : tSeq t u D σ H := h
theorem r_op {r : R2} (h : ta σ H fun x H1 => tb σ H1 fun y H2 => r x y H2 Q) : tOp r ta tb σ H Q := h
theorem r_drop (h : te σ H fun _ H1 => D.nx σ H1) : tDrop te D σ H := h
end
section
variable {X : Cx}
/-- two, three names as a target within a comprehension -/
theorem pgc2 (K : PySem.W.Frag) {i j k : Nat} {x y : Str} {p p1 p2 : Pos} (eK : X.K = K) (nd : X.N.Nodup) (hc : X.calm = true) (hi : X.N[i]? = some x) (hj : X.N[j]? = some y) (lx : Loc X.env.scope x) (ly : Loc X.env.scope y)
    (fx : X.env.scope.names.lookup x = some .local) (fy : X.env.scope.names.lookup y = some .local) : PG X (.Tuple [.Name x p1, .Name y p2] k p) (gTup K 2 (gCons (gName i) (gCons (gName j) gNil))) := by
  subst eK
  exact pg_tup hc (pgs_cons (pg_name nd hi lx (Or.inr fx)) (pgs_cons (pg_name nd hj ly (Or.inr fy)) pgs_nil))
theorem pgc3 (K : PySem.W.Frag) {i j l k : Nat} {x y z : Str} {p p1 p2 p3 : Pos} (eK : X.K = K) (nd : X.N.Nodup) (hc : X.calm = true) (hi : X.N[i]? = some x) (hj : X.N[j]? = some y) (hl : X.N[l]? = some z) (lx : Loc X.env.scope x) (ly : Loc X.env.scope y) (lz : Loc X.env.scope z)
    (fx : X.env.scope.names.lookup x = some .local) (fy : X.env.scope.names.lookup y = some .local) (fz : X.env.scope.names.lookup z = some .local) : PG X (.Tuple [.Name x p1, .Name y p2, .Name z p3] k p) (gTup K 3 (gCons (gName i) (gCons (gName j) (gCons (gName l) gNil)))) := by
  subst eK
  exact pg_tup hc (pgs_cons (pg_name nd hi lx (Or.inr fx)) (pgs_cons (pg_name nd hj ly (Or.inr fy)) (pgs_cons (pg_name nd hl lz (Or.inr fz)) pgs_nil)))
end
section
variable {P : Program} {w : World} {K : PySem.W.Frag} {mg : Str → Option Value} {base : Heap}
/-! ### many_in -/
def spMany (K : PySem.W.Frag) : Sp := fun vs H Q _ => ∃ (a : Addr) (xs : List V) (rs : List Run), vs = [.ref a] ∧ SqT K H a xs ∧ TDs H (rs.map runD) xs ∧ rs.length ≤ 1000 ∧ ∀ H', Ex H H' → Q (.int (manyR rs)) H'
theorem ok_many {f : Addr} {fd : FuncData} (F : Fun K "many_in" "many_in" dMany f fd) (T : Tx mg) : FnOk P w K mg base CX0 1 f fd ["runs"] (spMany K) := by
  refine F.ok cMany (fun vs H Q E h => ?_) (fun cdv A outer s H vs Q E hr h => ?_)
  · obtain ⟨_, _, _, rfl, _⟩ := h
    rfl
  · obtain ⟨a, xs, rs, rfl, hx, td, len, q⟩ := h
    refine ⟨_, pss_one (ps_ret (pe_callB (cr_sum rfl) (by rfl) T.sum (by decide +kernel) (pa_cons
      (pe_lc (own := [("series", 1), ("first", 2), ("end", 3)]) (tt := tYes) rfl cMany.nd (pi_tup (pv 0)) (blkOk_by (N := ["runs", "series", "first", "end"]) (sc := defScope dMany) (by decide +kernel))
        (fun _ _ _ _ _ => pgc3 K (i := 1) (j := 2) (l := 3) rfl cMany.nd rfl rfl rfl rfl (.inl rfl) (.inl rfl) (.inl rfl) rfl rfl rfl) (fun _ _ _ _ _ => pts_nil) (fun _ _ _ _ _ => pe_op op_sub (pv 3) (pv 2))) pa_nil))), ?_⟩
    have lx := td.length
    rw [List.length_map] at lx
    refine r_ret (r_cb (r_cons (lcT (xs := xs) (fun i acc _ => acc = ((rs.take i).map fun r => V.int (r.2.2 - r.2.1))) (fun _ _ _ _ _ h => h) (by omega) ?_ (fun _ _ => rfl) (fun i x H1 hi e1 => ?_) fun p H2 acc hp e2 h2 _ hR => ?_)))
    · exact SrcT.ev (ev_var rfl) hx
    · obtain ⟨d, hd, tx⟩ := TDs.getx td hi
      rw [List.getElem?_map] at hd
      cases hr : rs[i]? with
      | none => rw [hr] at hd; cases hd
      | some r =>
        rw [hr] at hd
        have ed : runD r = d := Option.some.inj hd
        rw [← ed] at tx
        obtain ⟨b, rfl, hb⟩ := tx.run
        refine ⟨_, fun N k => g3 (SqT.of (e1 _ _ hb)) N k, rfl, Turn.yes fun H3 e3 Q k => ?_⟩
        refine ev_op (ev_var rfl) (ev_var rfl) rv_I0 H3 (Ex.refl _) _ fun H4 e4 => k _ _ e4 fun acc ha => ?_
        rw [ha, List.take_add_one, hr, List.map_append]
        rfl
    · refine ⟨p, rs.map fun r : Run => r.2.2 - r.2.1, rfl, ?_, q H2 e2⟩
      rw [List.map_map]
      rw [hR, lx, List.take_length] at h2
      exact SqL.of h2
end
end Pn
set_option maxHeartbeats 200000
/-! brings .. counted_pages -/
namespace Pn
open PySem L2 Evl
/-- a def that may be called by its name -/
structure Dfn (P : Program) (w : World) (K : PySem.W.Frag) (mg : Str → Option Value) (base : Heap) (k : Nat) (x : Str) (ps : List Str) (sp : Sp) where
  f : Addr
  fd : FuncData
  ok : FnOk P w K mg base CX0 k f fd ps sp
  at_ : mg x = some (.ref f)
  kp : PySem.W.keepIn K (.ref f) = true
  bd : Binds K fd ps []
section
variable {K : PySem.W.Frag} {σ : L2.St} {H : Hp} {te tl : TE}
theorem eu_sl {tl th : TO} {a : Addr} {xs : List V} {lo hi : Option Int} (h : Ev te σ H (.ref a)) (h1 : EvO tl σ H lo) (h2 : EvO th σ H hi) (hs : SqT K H a xs) (nw : ¬ (HT.sIx xs.length 0 lo = 0 ∧ HT.sIx xs.length xs.length hi = xs.length)) :
    EvU (tSl (rSlT K) te tl th) σ H (cutV xs lo hi) := fun H1 e _ q =>
  h H1 e _ fun H2 e2 => h1 H2 (e.trans e2) _ fun H3 e3 => h2 H3 ((e.trans e2).trans e3) _ fun H4 e4 =>
    ⟨a, xs, rfl, ex_t (((e.trans e2).trans e3).trans e4) hs, nw, fun p hp => q p _ (fresh_back ((e2.trans e3).trans e4) hp) (((e2.trans e3).trans e4).trans (Ex.new hp)) upd_same⟩
theorem ev_ix {a : Addr} {xs : List V} {i : Int} {v : V} (h : Ev te σ H (.ref a)) (hs : SqT K H a xs) (ha : atI xs i = some v) : Ev (tOp (rIxT K) te (tC (.int i))) σ H v := ev_op h ev_c (rv_ixT hs ha)
theorem et_eq {ta tb : TE} {x y : V} (ha : Ev ta σ H x) (hb : Ev tb σ H y) (h : scal x y = true) : EvT (tTest (tOp rEq ta tb)) σ H (decide (x = y)) := et_test (ev_op ha hb (rv_eq h))
theorem et_ne {ta tb : TE} {x y : V} (ha : Ev ta σ H x) (hb : Ev tb σ H y) (h : scal x y = true) : EvT (tTest (tOp rNe ta tb)) σ H (!decide (x = y)) := et_test (ev_op ha hb (rv_ne h))
end
def Deed.ok : Deed → Prop
  | .move _ _ rs => rs.length ≤ 1000
  | _ => True
def Deed.kind : Deed → Str
  | .count _ _ => "count"
  | .bag _ _ _ => "bag"
  | .move _ _ _ => "move"
/-- the deed's items: at least three, the first two texts -/
theorem TD.deed {H : Hp} {d : Deed} {v : V} (h : TD H (deedD d) v) : ∃ (a : Addr) (xs : List V), v = .ref a ∧ H a = some (.tup xs) ∧ TDs H (match d with | .count p n => [.str "count", .str p, .int n] | .bag a b n => [.str "bag", .str a, .str b, .int n] | .move a b rs => [.str "move", .str a, .str b, .tuple (rs.map runD)]) xs := by
  cases d <;> exact h
theorem TD.count {H : Hp} {p : Str} {n : Int} {v : V} (h : TD H (deedD (.count p n)) v) : ∃ a, v = .ref a ∧ H a = some (.tup [.str "count", .str p, .int n]) := by
  obtain ⟨a, xs, rfl, ha, hs⟩ := h
  obtain ⟨x, y, z, rfl, h1, h2, h3⟩ := hs.three
  have e1 : x = .str "count" := h1
  have e2 : y = .str p := h2
  have e3 : z = .int n := h3
  subst e1 e2 e3
  exact ⟨a, rfl, ha⟩
theorem TD.bag {H : Hp} {p q : Str} {n : Int} {v : V} (h : TD H (deedD (.bag p q n)) v) : ∃ a, v = .ref a ∧ H a = some (.tup [.str "bag", .str p, .str q, .int n]) := by
  obtain ⟨a, xs, rfl, ha, hs⟩ := h
  obtain ⟨x, y, z, u, rfl, h1, h2, h3, h4⟩ := hs.four
  have e1 : x = .str "bag" := h1
  have e2 : y = .str p := h2
  have e3 : z = .str q := h3
  have e4 : u = .int n := h4
  subst e1 e2 e3 e4
  exact ⟨a, rfl, ha⟩
theorem TD.move {H : Hp} {p q : Str} {rs : List Run} {v : V} (h : TD H (deedD (.move p q rs)) v) : ∃ a b ys, v = .ref a ∧ H a = some (.tup [.str "move", .str p, .str q, .ref b]) ∧ H b = some (.tup ys) ∧ TDs H (rs.map runD) ys := by
  obtain ⟨a, xs, rfl, ha, hs⟩ := h
  obtain ⟨x, y, z, u, rfl, h1, h2, h3, h4⟩ := hs.four
  have e1 : x = .str "move" := h1
  have e2 : y = .str p := h2
  have e3 : z = .str q := h3
  subst e1 e2 e3
  obtain ⟨b, ys, rfl, hb, ts⟩ := h4
  exact ⟨a, b, ys, rfl, ha, hb, ts⟩
/-- whatever the deed is, its first item -/
theorem TD.kind {H : Hp} {d : Deed} {v : V} (h : TD H (deedD d) v) : ∃ a xs, v = .ref a ∧ H a = some (.tup xs) ∧ atI xs 0 = some (.str d.kind) := by
  cases d with
  | count p n =>
    obtain ⟨a, rfl, ha⟩ := h.count
    exact ⟨a, _, rfl, ha, rfl⟩
  | bag p q n =>
    obtain ⟨a, rfl, ha⟩ := h.bag
    exact ⟨a, _, rfl, ha, rfl⟩
  | move p q rs =>
    obtain ⟨a, b, ys, rfl, ha, _⟩ := h.move
    exact ⟨a, _, rfl, ha, rfl⟩
section
variable {P : Program} {w : World} {K : PySem.W.Frag} {mg : Str → Option Value} {base : Heap}
/-! ### brings -/
def spBrings (K : PySem.W.Frag) : Sp := fun vs H Q _ => ∃ (x : V) (d : Deed) (p : Str), vs = [x, .str p] ∧ TD H (deedD d) x ∧ d.ok ∧ ∀ H', Ex H H' → Q (.int (bringsM d p)) H'
theorem in2 (p a b : Str) : inV (.str p) [.str a, .str b] = (decide (p = a) || decide (p = b)) := by
  have e : ∀ x y : Str, (x == y) = decide (y = x) := fun x y => by
    by_cases h : y = x
    · rw [h]
      simp
    · rw [decide_eq_false h, beq_eq_false_iff_ne]
      exact fun z => h z.symm
  show ((a == p) || ((b == p) || false)) = _
  rw [e, e, Bool.or_false]
theorem kind2 {σ : L2.St} {H : Hp} {te : TE} {k x y : Str} {a : Addr} {xs : List V} (h : Ev te σ H (.ref a)) (ha : H a = some (.tup xs)) (h0 : atI xs 0 = some (.str k)) :
    EvT (tTest (tOp (rIn K true) (tOp (rIxT K) te (tC (.int 0))) (tTup (tCons (tC (.str x)) (tCons (tC (.str y)) tNil))))) σ H (!(decide (k = x) || decide (k = y))) :=
  et_test (ev_is (ev_niU (ev_ix h (st_of ha) h0) (eu_tup (ea_cons ev_c (ea_cons ev_c ea_nil)) (by show 2 ≤ 100000; decide)) rfl rfl) (by rw [in2]))
theorem place2 {σ : L2.St} {H : Hp} {te tp : TE} {p c1 c2 : Str} {a : Addr} {xs : List V} (hp : Ev tp σ H (.str p)) (h : Ev te σ H (.ref a)) (hs : SqT K H a xs) (nw : ¬ (HT.sIx xs.length 0 (some 1) = 0 ∧ HT.sIx xs.length xs.length (some 3) = xs.length)) (e : cutV xs (some 1) (some 3) = [.str c1, .str c2]) :
    EvT (tTest (tOp (rIn K true) tp (tSl (rSlT K) te (tPart (tC (.int 1))) (tPart (tC (.int 3)))))) σ H (!(decide (p = c1) || decide (p = c2))) :=
  et_test (ev_is (ev_niU hp (eu_sl h (eo_some ev_c) (eo_some ev_c) hs nw) rfl (by rw [e]; rfl)) (by rw [e, in2]))
theorem ok_brings {f : Addr} {fd : FuncData} (F : Fun K "brings" "brings" dBrings f fd) (T : Tx mg) (GM : Dfn P w K mg base 1 "many_in" ["runs"] (spMany K)) : FnOk P w K mg base CX0 2 f fd ["deed", "place"] (spBrings K) := by
  refine F.ok cBrings (fun vs H Q E h => ?_) (fun cdv A outer s H vs Q E hr h => ?_)
  · obtain ⟨_, _, _, rfl, _⟩ := h
    rfl
  · obtain ⟨x, d, p, rfl, td, ok, q⟩ := h
    refine ⟨_, pss_cons (ps_if (PW.pt (pw_or (pt_cmpR op_notIn_seq (pe_ix ix_tup (pv 0) pe_int (fun _ _ => rfl)) (pe_tup (pa_cons pe_str (pa_cons pe_str pa_nil))) (by rfl)) (pw_or1 (pt_cmpR op_notIn_seq (pv 1) (pe_slice sl_tup (pv 0) (po_some pe_int) (po_some pe_int)) (by rfl))))) (pss_one (ps_ret pe_int)) pss_nil)
      (pss_cons (ps_set (i := 2) cBrings.nd rfl (Or.inl rfl) (pe_ix ix_tup (pv 0) pe_int (fun _ _ => rfl)))
      (pss_cons (ps_if (pt_cmpR op_eq (pe_ix ix_tup (pv 0) pe_int (fun _ _ => rfl)) pe_str (nomark _)) (pss_one (ps_set (i := 2) cBrings.nd rfl (Or.inl rfl) (pe_call GM.ok hr rfl GM.at_ GM.kp GM.bd .nil pass0 (pa_cons (pe_ix ix_tup (pv 0) pe_int (fun _ _ => rfl)) pa_nil)))) pss_nil)
      (pss_one (ps_ret (pe_ifExp (pt_cmpR op_eq (pe_ix ix_tup (pv 0) pe_int (fun _ _ => rfl)) (pv 1) (nomark _)) (pv 2) (pe_op op_sub pe_int (pv 2))))))), ?_⟩
    cases d with
    | count c n =>
      obtain ⟨a, rfl, ha⟩ := td.count
      refine q_when (b := true) ?_ (fun _ H1 e1 => ?_) (fun z => nomatch z)
      · exact et_or (a := true) (b := false) (et_is (kind2 (ev_var rfl) ha rfl) (by decide +kernel)) (fun z => nomatch z)
      · exact s_ret ev_c fun H2 e2 => q H2 (e1.trans e2)
    | bag c1 c2 n =>
      obtain ⟨a, rfl, ha⟩ := td.bag
      refine q_when (b := !(decide (p = c1) || decide (p = c2))) ?_ (fun hb H1 e1 => ?_) (fun hb H1 e1 => ?_)
      · refine et_is (et_or (a := false) (et_is (kind2 (ev_var rfl) ha rfl) (by decide +kernel)) fun _ => place2 (ev_var rfl) (ev_var rfl) (st_of ha) (show ¬ (HT.sIx 4 0 (some 1) = 0 ∧ HT.sIx 4 4 (some 3) = 4) by decide) rfl) rfl
      · refine s_ret ev_c fun H2 e2 => ?_
        have e : bringsM (.bag c1 c2 n) p = 0 := if_neg (by show ¬ (decide (p = c1) || decide (p = c2)) = true; simpa using hb)
        rw [← e]
        exact q H2 (e1.trans e2)
      · have hb' : (decide (p = c1) || decide (p = c2)) = true := by
          cases hh : (decide (p = c1) || decide (p = c2)) with
          | true => rfl
          | false =>
            rw [hh] at hb
            cases hb
        refine q_asg (ev_ix (ev_var rfl) (st_of (e1 _ _ ha)) rfl) fun H2 e2 => ?_
        have ha2 := e2 _ _ (e1 _ _ ha)
        refine q_when (b := false) ?_ (fun z => nomatch z) (fun _ H3 e3 => ?_)
        · exact et_is (et_eq (ev_ix (ev_var rfl) (st_of ha2) rfl) ev_c rfl) (by decide +kernel)
        · have ha3 := e3 _ _ ha2
          refine s_ret (v := .int (bringsM (.bag c1 c2 n) p)) ?_ fun H4 e4 => q H4 (((e1.trans e2).trans e3).trans e4)
          have e : bringsM (.bag c1 c2 n) p = if c2 = p then n else 0 - n := if_pos hb'
          rw [e]
          refine ev_if (b := decide (V.str c2 = V.str p)) (et_eq (ev_ix (ev_var rfl) (st_of ha3) rfl) (ev_var rfl) rfl) (fun h => ?_) (fun h => ?_)
          · rw [if_pos (by simpa using h)]
            exact ev_var rfl
          · rw [if_neg (by simpa using h)]
            exact ev_op ev_c (ev_var rfl) rv_I0
    | move c1 c2 rs =>
      obtain ⟨a, b, ys, rfl, ha, hb0, ts⟩ := td.move
      refine q_when (b := !(decide (p = c1) || decide (p = c2))) ?_ (fun hb H1 e1 => ?_) (fun hb H1 e1 => ?_)
      · refine et_is (et_or (a := false) (et_is (kind2 (ev_var rfl) ha rfl) (by decide +kernel)) fun _ => place2 (ev_var rfl) (ev_var rfl) (st_of ha) (show ¬ (HT.sIx 4 0 (some 1) = 0 ∧ HT.sIx 4 4 (some 3) = 4) by decide) rfl) rfl
      · refine s_ret ev_c fun H2 e2 => ?_
        have e : bringsM (.move c1 c2 rs) p = 0 := if_neg (by show ¬ (decide (p = c1) || decide (p = c2)) = true; simpa using hb)
        rw [← e]
        exact q H2 (e1.trans e2)
      · have hb' : (decide (p = c1) || decide (p = c2)) = true := by
          cases hh : (decide (p = c1) || decide (p = c2)) with
          | true => rfl
          | false =>
            rw [hh] at hb
            cases hb
        refine q_asg (ev_ix (ev_var rfl) (st_of (e1 _ _ ha)) rfl) fun H2 e2 => ?_
        have ha2 := e2 _ _ (e1 _ _ ha)
        refine q_when (b := true) ?_ (fun _ H3 e3 => ?_) (fun z => nomatch z)
        · exact et_is (et_eq (ev_ix (ev_var rfl) (st_of ha2) rfl) ev_c rfl) (by decide +kernel)
        · have ha3 := e3 _ _ ha2
          refine s_asg (v := .int (manyR rs)) ?_ fun H4 e4 => ?_
          · exact ev_call (ea_cons (ev_ix (ev_var rfl) (st_of ha3) rfl) ea_nil) fun H5 e5 Q k E => ⟨b, ys, rs, rfl, SqT.of (e5 _ _ (e3 _ _ (e2 _ _ (e1 _ _ hb0)))), ts.mono (Tk.ex (((e1.trans e2).trans e3).trans e5)), ok, k⟩
          · have ha4 := e4 _ _ ha3
            dsimp only
            refine s_ret (v := .int (bringsM (.move c1 c2 rs) p)) ?_ ?_
            rotate_left
            · exact fun H5 e5 => q H5 ((((e1.trans e2).trans e3).trans e4).trans e5)
            have e : bringsM (.move c1 c2 rs) p = if c2 = p then manyR rs else 0 - manyR rs := if_pos hb'
            rw [e]
            refine ev_if (b := decide (V.str c2 = V.str p)) (et_eq (ev_ix (ev_var rfl) (st_of ha4) rfl) (ev_var rfl) rfl) (fun h => ?_) (fun h => ?_)
            · rw [if_pos (by simpa using h)]
              exact ev_var rfl
            · rw [if_neg (by simpa using h)]
              exact ev_op ev_c (ev_var rfl) rv_I0
end
end Pn
set_option maxHeartbeats 200000
/-! voided, bags_in, counted, counted_pages -/
namespace Pn
open PySem L2 Evl
section
variable {X : Cx}
theorem ixc (K : PySem.W.Frag) (e : X.K = K) : IxR X (rIxT K) := by
  subst e
  exact ix_tup
theorem inOc (P : Program) (w : World) (e1 : X.prog = P) (e2 : X.w = w) (hu : X.A.units + 64 < cLine) : OpR X (compareOp .In) (rInO P w false) := by
  subst e1 e2
  exact op_inO hu
theorem ninOc (P : Program) (w : World) (e1 : X.prog = P) (e2 : X.w = w) (hu : X.A.units + 64 < cLine) : OpR X (compareOp .NotIn) (rInO P w true) := by
  subst e1 e2
  exact op_ninO hu
/-- in an empty list, an empty tuple -/
def rIn0 (K : PySem.W.Frag) (neg : Bool) : R2 := fun x y H Q => ∃ p, y = .ref p ∧ (SqL K H p [] ∨ SqT K H p []) ∧ Q (.bl neg) H
theorem op_in0 (K : PySem.W.Frag) (e : X.K = K) : OpR X (compareOp .In) (rIn0 K false) := by
  subst e
  intro pins s σ H x y v u Q I rx ry h
  obtain ⟨p, rfl, hq, q⟩ := h
  cases ry
  rcases hq with hq | hq
  · obtain ⟨its, r, pl, hz⟩ := I.list hq
    cases r
    exact SeqAt.in_listAt (fun _ => false) pl.isList (fun w hw => by simp at hw) ⟨.bl _, H, I, rfl, by simpa using q⟩
  · obtain ⟨its, r, pl, hz⟩ := I.tuple hq
    cases r
    exact SeqAt.in_tupleAt (fun _ => false) pl (fun w hw => by simp at hw) ⟨.bl _, H, I, rfl, by simpa using q⟩
theorem op_nin0 (K : PySem.W.Frag) (e : X.K = K) : OpR X (compareOp .NotIn) (rIn0 K true) := by
  subst e
  intro pins s σ H x y v u Q I rx ry h
  obtain ⟨p, rfl, hq, q⟩ := h
  cases ry
  rcases hq with hq | hq
  · obtain ⟨its, r, pl, hz⟩ := I.list hq
    cases r
    exact SeqAt.notIn_listAt (fun _ => false) pl.isList (fun w hw => by simp at hw) ⟨.bl _, H, I, rfl, by simpa using q⟩
  · obtain ⟨its, r, pl, hz⟩ := I.tuple hq
    cases r
    exact SeqAt.notIn_tupleAt (fun _ => false) pl (fun w hw => by simp at hw) ⟨.bl _, H, I, rfl, by simpa using q⟩
end
section
variable {K : PySem.W.Frag} {σ : L2.St} {H : Hp} {te tl ta tb : TE} {t : TT} {g : L2.TG} {vs : List Nat} {Q : VK} {D : Ends} {tu : TS}
theorem rv_in0 {neg : Bool} {x : V} {p : Addr} (h : SqL K H p [] ∨ SqT K H p []) : Evl.RV (rIn0 K neg) x (.ref p) H (.bl neg) := fun H1 e _ q => ⟨p, rfl, h.imp (ex_l e) (ex_t e), q H1 (Ex.refl H1)⟩
theorem r_lcT (h : tl σ H fun x H1 => tLc (iTup K (tC x)) g t te vs σ H1 Q) : tLc (iTup K tl) g t te vs σ H Q := h
theorem r_lcL (h : tl σ H fun x H1 => tLc (iList K (tC x)) g t te vs σ H1 Q) : tLc (iList K tl) g t te vs σ H Q := h
theorem r_forT (h : tl σ H fun x H1 => tFor (iTup K (tC x)) g tu D σ H1) : tFor (iTup K tl) g tu D σ H := h
theorem r_forL (h : tl σ H fun x H1 => tFor (iList K (tC x)) g tu D σ H1) : tFor (iList K tl) g tu D σ H := h
theorem et_kind {d : Deed} {a : Addr} {x : Str} {xs : List V} (h : Ev te σ H (.ref a)) (ha : H a = some (.tup xs)) (h0 : atI xs 0 = some (.str d.kind)) : EvT (tTest (tOp rEq (tOp (rIxT K) te (tC (.int 0))) (tC (.str x)))) σ H (decide (V.str d.kind = V.str x)) :=
  et_eq (ev_ix h (st_of ha) h0) ev_c rfl
theorem et_nkind {d : Deed} {a : Addr} {x : Str} {xs : List V} (h : Ev te σ H (.ref a)) (ha : H a = some (.tup xs)) (h0 : atI xs 0 = some (.str d.kind)) : EvT (tTest (tOp rNe (tOp (rIxT K) te (tC (.int 0))) (tC (.str x)))) σ H (!decide (V.str d.kind = V.str x)) :=
  et_ne (ev_ix h (st_of ha) h0) ev_c rfl
end
theorem kind_ne {d : Deed} {x : Str} (h1 : x ≠ "count" := by decide +kernel) (h2 : x ≠ "bag" := by decide +kernel) (h3 : x ≠ "move" := by decide +kernel) : decide (V.str d.kind = V.str x) = false := by
  apply decide_eq_false
  intro e
  injection e with e
  cases d with
  | count _ _ => exact h1 e.symm
  | bag _ _ _ => exact h2 e.symm
  | move _ _ _ => exact h3 e.symm
/-- the i-th page -/
theorem Bk.page {H : Hp} {b : List Page} {xs : List V} (td : TDs H (b.map pageD) xs) {i : Nat} {x : V} (hi : xs[i]? = some x) :
    ∃ g a y z c zs, b[i]? = some g ∧ x = .ref a ∧ H a = some (.tup [y, z]) ∧ TD H (nmD g.1) y ∧ TD H (deedD g.2) z ∧ z = .ref c ∧ H c = some (.tup zs) ∧ atI zs 0 = some (.str g.2.kind) := by
  obtain ⟨d, hd, tx⟩ := TDs.getx td hi
  rw [List.getElem?_map] at hd
  cases hr : b[i]? with
  | none => rw [hr] at hd; cases hd
  | some g =>
    rw [hr] at hd
    have ed : pageD g = d := Option.some.inj hd
    rw [← ed] at tx
    obtain ⟨a, y, z, rfl, ha, h1, h2⟩ := tx.pg
    obtain ⟨c, zs, rfl, hc, h0⟩ := h2.kind
    exact ⟨g, a, y, _, c, zs, rfl, rfl, ha, h1, h2, rfl, hc, h0⟩
theorem Bk.len {H : Hp} {b : List Page} {xs : List V} (td : TDs H (b.map pageD) xs) : xs.length = b.length := by
  rw [td.length, List.length_map]
section
variable {P : Program} {w : World} {K : PySem.W.Frag} {mg : Str → Option Value} {base : Heap}
/-! ### voided -/
def spVoided : Sp := fun vs H Q _ => ∃ (a : Addr) (b : List Page), vs = [.ref a] ∧ Bk H a b ∧ b.length ≤ 100 ∧ ∀ H' t, Ex H H' → H' t = some (.tup []) → Q (.ref t) H'
theorem ok_voided {f : Addr} {fd : FuncData} (F : Fun K "voided" "voided" dVoided f fd) (T : Tx mg) : FnOk P w K mg base CX0 1 f fd ["book"] spVoided := by
  refine F.ok cVoided (fun vs H Q E h => ?_) (fun cdv A outer s H vs Q E hr h => ?_)
  · obtain ⟨_, _, rfl, _⟩ := h
    rfl
  · obtain ⟨a, b, rfl, hB, len, q⟩ := h
    refine ⟨_, pss_cons (ps_set (i := 1) cVoided.nd rfl (Or.inr rfl) (pe_lc (own := [("name", 2), ("deed", 3)]) rfl cVoided.nd (pi_tup (pv 0)) (blkOk_by (N := ["book", "named", "name", "deed"]) (sc := defScope dVoided) (by decide +kernel))
        (fun _ _ _ _ _ => pgc2 K (i := 2) (j := 3) rfl cVoided.nd rfl rfl rfl (.inl rfl) (.inl rfl) rfl rfl) (fun _ _ _ _ _ => pts_one (pt_cmpR op_eq (pe_ix (ixc K rfl) (pv 3) pe_int (fun _ _ => rfl)) pe_str (nomark _))) (fun _ _ _ _ _ => pe_ix (ixc K rfl) (pv 3) pe_int (fun _ _ => rfl))))
      (pss_one (ps_ret (pe_callTy call_tuple_of (by rfl) T.tuple (by decide +kernel) (pa_cons
        (pe_lc (own := [("name", 2), ("deed", 3)]) rfl cVoided.nd (pi_tup (pv 0)) (blkOk_by (N := ["book", "named", "name", "deed"]) (sc := defScope dVoided) (by decide +kernel))
          (fun _ _ _ _ _ => pgc2 K (i := 2) (j := 3) rfl cVoided.nd rfl rfl rfl (.inl rfl) (.inl rfl) rfl rfl)
          (fun _ _ _ _ _ => pts_one (PW.pt (pw_and (pt_cmpR op_ne (pe_ix (ixc K rfl) (pv 3) pe_int (fun _ _ => rfl)) pe_str (nomark _)) (pw_and1 (pt_cmpR (op_in0 K rfl) (pv 2) (pv 1) (by rfl)))))) (fun _ _ _ _ _ => pv 2)) pa_nil)))), ?_⟩
    obtain ⟨xs, pl, td⟩ := hB
    have lx := Bk.len td
    refine r_seq (r_set (lcT (xs := xs) (fun i acc _ => acc = []) (fun _ _ _ _ _ h => h) (by omega) ?_ (fun _ _ => rfl) (fun i x H1 hi e1 => ?_) fun p H2 acc hp e2 h2 _ hR => ?_))
    · exact SrcT.ev (ev_var rfl) pl.sq
    · obtain ⟨g, c, y, z, d, zs, hg, rfl, hc, hy, hz, rfl, hd, h0⟩ := Bk.page td hi
      exact ⟨_, fun N k => g2 (SqT.of (e1 _ _ hc)) N k, rfl, false, et_is (et_kind (ev_var rfl) (e1 _ _ hd) h0) kind_ne, fun z => (nomatch z), fun _ acc H3 _ h => h⟩
    · subst hR
      dsimp only
      refine r_ret (r_cb (r_cons (lcT (xs := xs) (fun i acc _ => acc = []) (fun _ _ _ _ _ h => h) (by omega) ?_ (fun _ _ => rfl) (fun i x H3 hi e3 => ?_) fun p3 H3 acc hp3 e3 h3 _ hR => ?_)))
      · exact SrcT.ev (ev_var rfl) (pl.ex e2).sq
      · obtain ⟨g, c, y, z, d, zs, hg, rfl, hc, hy, hz, rfl, hd, h0⟩ := Bk.page td hi
        refine ⟨_, fun N k => g2 (SqT.of (e3 _ _ (e2 _ _ hc))) N k, rfl, false, ?_, fun z => (nomatch z), fun _ acc H3 _ h => h⟩
        exact et_and (a := true) (b := false) (et_is (et_nkind (ev_var rfl) (e3 _ _ (e2 _ _ hd)) h0) (by rw [kind_ne]; rfl)) fun _ => et_test (ev_op (ev_var rfl) (ev_var rfl) (rv_in0 (.inl (SqL.of (e3 _ _ h2)))))
      · subst hR
        refine ⟨p3, [], rfl, .inl ⟨SqL.of h3, fun l hl => q _ l ((e2.trans e3).trans (Ex.new hl)) upd_same⟩⟩
/-! ### bags_in -/
def spBags : Sp := fun vs H Q _ => ∃ (a : Addr) (b : List Page), vs = [.ref a] ∧ Bk H a b ∧ b.length ≤ 100 ∧ ∀ H' v, Ex H H' → Q v H'
theorem ok_bags {f : Addr} {fd : FuncData} (F : Fun K "bags_in" "bags_in" dBags f fd) (T : Tx mg) (GV : Dfn P w K mg base 1 "voided" ["book"] spVoided) : FnOk P w K mg base CX0 2 f fd ["book"] spBags := by
  refine F.ok cBags (fun vs H Q E h => ?_) (fun cdv A outer s H vs Q E hr h => ?_)
  · obtain ⟨_, _, rfl, _⟩ := h
    rfl
  · obtain ⟨a, b, rfl, hB, len, q⟩ := h
    refine ⟨_, pss_cons (ps_set (i := 1) cBags.nd rfl (Or.inr rfl) (pe_call GV.ok hr rfl GV.at_ GV.kp GV.bd .nil pass0 (pa_cons (pv 0) pa_nil)))
      (pss_one (ps_ret (pe_lc (own := [("name", 2), ("deed", 3)]) rfl cBags.nd (pi_tup (pv 0)) (blkOk_by (N := ["book", "gone", "name", "deed"]) (sc := defScope dBags) (by decide +kernel))
          (fun _ _ _ _ _ => pgc2 K (i := 2) (j := 3) rfl cBags.nd rfl rfl rfl (.inl rfl) (.inl rfl) rfl rfl)
          (fun _ _ _ _ _ => pts_one (PW.pt (pw_and (pt_cmpR op_eq (pe_ix (ixc K rfl) (pv 3) pe_int (fun _ _ => rfl)) pe_str (nomark _)) (pw_and1 (pt_cmpR (op_nin0 K rfl) (pv 2) (pv 1) (by rfl)))))) (fun _ _ _ _ _ => pv 2)))), ?_⟩
    refine ⟨_, rfl, a, b, rfl, hB, len, fun H1 t e1 ht => ?_⟩
    obtain ⟨xs, pl, td⟩ := hB
    have lx := Bk.len td
    dsimp only
    refine r_ret (lcT (xs := xs) (fun i acc _ => True) (fun _ _ _ _ _ h => h) (by omega) ?_ (fun _ _ => trivial) (fun i x H3 hi e3 => ?_) fun p3 H3 acc hp3 e3 h3 _ hR => ?_)
    · exact SrcT.ev (ev_var rfl) (pl.ex e1).sq
    · obtain ⟨g, c, y, z, d, zs, hg, rfl, hc, hy, hz, rfl, hd, h0⟩ := Bk.page td hi
      refine ⟨_, fun N k => g2 (SqT.of (e3 _ _ (e1 _ _ hc))) N k, rfl, decide (V.str g.2.kind = V.str "bag") && true, ?_, fun _ H4 e4 Q k => ?_, fun _ acc H3 _ h => trivial⟩
      · exact et_and (et_kind (ev_var rfl) (e3 _ _ (e1 _ _ hd)) h0) fun _ => et_test (ev_op (ev_var rfl) (ev_var rfl) (rv_in0 (.inr (SqT.of (e3 _ _ ht)))))
      · exact ⟨_, rfl, k _ _ (Ex.refl _) fun _ _ => trivial⟩
    · exact q _ _ (e1.trans e3)
/-! ### counted -/
def spCounted : Sp := fun vs H Q _ => ∃ (a : Addr) (b : List Page), vs = [.ref a] ∧ Bk H a b ∧ b.length ≤ 100 ∧ ∀ H' t ys, Ex H H' → H' t = some (.tup ys) → TDs H' (b.map fun g => nmD g.1) ys → Q (.ref t) H'
theorem ok_counted {f : Addr} {fd : FuncData} (F : Fun K "counted" "counted" dCounted f fd) (T : Tx mg) (GV : Dfn P w K mg base 1 "voided" ["book"] spVoided) (GB : Dfn P w K mg base 2 "bags_in" ["book"] spBags) : FnOk P w K mg base CX0 3 f fd ["book"] spCounted := by
  refine F.ok cCounted (fun vs H Q E h => ?_) (fun cdv A outer s H vs Q E hr h => ?_)
  · obtain ⟨_, _, rfl, _⟩ := h
    rfl
  · obtain ⟨a, b, rfl, hB, len, q⟩ := h
    refine ⟨_, pss_cons (ps_set (i := 1) cCounted.nd rfl (Or.inl rfl) (pe_call GV.ok (hr.mono (by decide)) rfl GV.at_ GV.kp GV.bd .nil pass0 (pa_cons (pv 0) pa_nil)))
      (pss_cons (ps_set (i := 2) cCounted.nd rfl (Or.inl rfl) (pe_call GB.ok hr rfl GB.at_ GB.kp GB.bd .nil pass0 (pa_cons (pv 0) pa_nil)))
      (pss_cons (ps_set (i := 3) cCounted.nd rfl (Or.inl rfl) (pe_lst pa_nil))
      (pss_cons (ps_for PassesOwn.never rfl (pi_tup (pv 0)) (pg_tup rfl (pgs_cons (pg_name (i := 4) cCounted.nd rfl (.inl rfl)) (pgs_cons (pg_name (i := 5) cCounted.nd rfl (.inl rfl)) pgs_nil)))
        (pss_one (ps_if (PW.pt (pw_and (pt_cmpR op_ne (pe_ix ix_tup (pv 5) pe_int (fun _ _ => rfl)) pe_str (nomark _)) (pw_and (pt_cmpR (op_nin0 K rfl) (pv 4) (pv 1) (by rfl))
          (pw_and1 (PW.pt (pw_or (pt_cmpR op_ne (pe_ix ix_tup (pv 5) pe_int (fun _ _ => rfl)) pe_str (nomark _)) (pw_or1 (pt_cmpR (op_in0 K rfl) (pe_ix ix_tup (pv 5) pe_int (fun _ _ => rfl)) (pv 2) (by rfl)))))))))
          (pss_one (ps_expr (pe_bm PySem.F.plainAttrs_list PySem.F.slot_list_append PySem.F.type_list_append mt_append (pv 3) (pa_cons (pv 4) pa_nil)))) pss_nil)))
      (pss_one (ps_ret (pe_callTy call_tuple_of (by rfl) T.tuple (by decide +kernel) (pa_cons (pv 3) pa_nil))))))), ?_⟩
    refine ⟨_, rfl, a, b, rfl, hB, len, fun H1 t e1 ht => ?_⟩
    refine ⟨_, rfl, a, b, rfl, hB.ex e1, len, fun H2 bv e2 => ?_⟩
    dsimp only
    refine q_asgL (el_lst ea_nil (by decide)) fun l H3 nl e3 hl => ?_
    have e03 := (e1.trans e2).trans e3
    have nl0 : H l = none := fresh_back (e1.trans e2) nl
    obtain ⟨xs, pl, td⟩ := hB
    have lx := Bk.len td
    refine q_forT (xs := xs) (ev_var rfl) (pl.ex e03).sq (fun i σ' H' => ∃ y1 y2 acc, σ' = [some (.ref a), some (.ref t), some bv, some (.ref l), y1, y2] ∧ Ex H1 H' ∧ H' l = some (.lst acc) ∧ TDs H' ((b.take i).map fun g => nmD g.1) acc)
      (fun H4 e4 => ⟨none, none, [], rfl, (e2.trans e3).trans e4, e4 _ _ hl, rfl⟩) (fun i σ' H' _ ⟨_, _, _, _, e, _⟩ => (pl.ex (e1.trans e)).sq) ?_ ?_
    · rintro i x σ' H' hi ⟨y1, y2, acc, rfl, e, ha, ta⟩
      obtain ⟨g, c, y, z, d, zs, hg, rfl, hc, hy, hz, rfl, hd, h0⟩ := Bk.page td hi
      have e' := e1.trans e
      refine g2 (SqT.of (e' _ _ hc)) _ ?_
      refine s_when (b := true) ?_ (fun _ H5 e5 => ?_) (fun z => nomatch z)
      · refine et_and (a := true) (b := true) (et_is (et_nkind (ev_var rfl) (e' _ _ hd) h0) (by rw [kind_ne]; rfl)) fun _ => ?_
        refine et_and (a := true) (b := true) (et_test (ev_op (ev_var rfl) (ev_var rfl) (rv_in0 (.inr (SqT.of (e _ _ ht)))))) fun _ => ?_
        exact et_or (a := true) (b := true) (et_is (et_nkind (ev_var rfl) (e' _ _ hd) h0) (by rw [kind_ne]; rfl)) fun z => nomatch z
      · have la := ta.length
        rw [List.length_map, List.length_take] at la
        refine s_app (e5 _ _ ha) (ev_var rfl) (ev_var rfl) (by omega) fun H6 e6 => ?_
        refine ⟨_, _, _, rfl, Ex.mut ((e.trans e5).trans e6) (fresh_back e2 nl), upd_same, ?_⟩
        have t6 : TDs H6 ((b.take (i + 1)).map fun g => nmD g.1) (acc ++ [y]) := by
          rw [List.take_add_one, hg, List.map_append]
          exact (ta.mono (Tk.ex (e5.trans e6))).append (TDs.one (hy.mono (Tk.ex ((e'.trans e5).trans e6))))
        exact t6.mono (tk_lst (e6 _ _ (e5 _ _ ha)))
    · rintro σ' H' ⟨y1, y2, acc, rfl, e, ha, ta⟩
      refine r_ret (r_cb (r_cons ⟨_, rfl, l, acc, rfl, .inl ⟨SqL.of ha, fun m hm => q _ m acc ((e1.trans e).trans (Ex.new hm)) upd_same ?_⟩⟩))
      rw [lx, List.take_length] at ta
      exact ta.mono (tk_new hm)
end
end Pn
set_option maxHeartbeats 200000
/-! counted_pages, offs, said, off_paper -/
namespace Pn
open PySem L2 Evl
theorem nmK_inj {n m : Nm} (h : nmK n = nmK m) : n = m := by
  obtain ⟨a, b, c⟩ := n
  obtain ⟨a', b', c'⟩ := m
  unfold nmK at h
  injection h with h1 h
  injection h with h2 h
  injection h with h3 h
  injection h1 with h1
  injection h2 with h2
  injection h3 with h3
  dsimp only at h1 h2 h3
  rw [h1, h2, h3]
theorem keys_nd {α : Type} {f : α → Nm} : ∀ {l : List α}, (l.map f).Nodup → (l.map fun g => (some (nmK (f g)) : KO)).Nodup := fun {l} h => by
  have e : (l.map fun g => (some (nmK (f g)) : KO)) = (l.map f).map fun n => some (nmK n) := by rw [List.map_map]; rfl
  rw [e]
  refine List.pairwise_map.mpr (List.Pairwise.imp (fun {a b} hab e => hab (nmK_inj (Option.some.inj e))) h)
theorem PairV.mono {H H' : Hp} (k : Tk H H') : ∀ {R : List RowV} {xs : List V}, Paired (PairV H) R xs → Paired (PairV H') R xs
  | _, _, .nil => .nil
  | _, _, .cons ⟨p, e, h1, h2⟩ t => .cons ⟨p, e, k _ _ h1, h2.mono k⟩ (PairV.mono k t)
theorem Paired.snoc {α β : Type} {r : α → β → Prop} : ∀ {as : List α} {bs : List β} {a : α} {b : β}, Paired r as bs → r a b → Paired r (as ++ [a]) (bs ++ [b])
  | _, _, _, _, .nil, h => .cons h .nil
  | _, _, _, _, .cons h1 t, h => .cons h1 (Paired.snoc t h)
theorem ksv_of {H : Hp} : ∀ {R : List RowV} {xs : List V}, Paired (PairV H) R xs → KsV H R
  | _, _, .nil => fun r hr => by cases hr
  | _, _, .cons ⟨p, e, h1, h2⟩ t => fun r hr => by
    rcases List.mem_cons.mp hr with e | hr
    · exact e ▸ h2
    · exact ksv_of t r hr
theorem atV_mem {R : List RowV} {k : KO} : (atV R k).isSome = true ↔ k ∈ R.map (·.1) := by
  unfold atV
  rw [Option.isSome_map, List.find?_isSome, List.mem_map]
  constructor
  · rintro ⟨x, hx, e⟩
    exact ⟨x, hx, by simpa using e⟩
  · rintro ⟨x, hx, e⟩
    exact ⟨x, hx, by simpa using e⟩
theorem atV_get {R : List RowV} (nd : (R.map (·.1)).Nodup) {r : RowV} (hr : r ∈ R) : atV R r.1 = some r.2.2 := by
  unfold atV
  induction R with
  | nil => cases hr
  | cons x R ih =>
    rw [List.map_cons, List.nodup_cons] at nd
    rw [List.find?_cons]
    rcases List.mem_cons.mp hr with e | h
    · rw [e]
      simp
    · have ne : x.1 ≠ r.1 := fun e => nd.1 (e ▸ List.mem_map.mpr ⟨r, h, rfl⟩)
      simp only [ne, decide_false]
      exact ih nd.2 h
section
variable {P : Program} {w : World} {K : PySem.W.Frag} {mg : Str → Option Value} {base : Heap}
/-! ### counted_pages -/
def spPages : Sp := fun vs H Q _ => ∃ (a : Addr) (b : List Page) (xs : List V), vs = [.ref a] ∧ PlT H a xs ∧ TDs H (b.map pageD) xs ∧ b.length ≤ 100 ∧ (b.map (·.1)).Nodup ∧ ∀ H' l, Ex H H' → H l = none → H' l = some (.lst xs) → Q (.ref l) H'
theorem ok_pages {f : Addr} {fd : FuncData} (F : Fun K "counted_pages" "counted_pages" dPages f fd) (T : Tx mg) (GC : Dfn P w K mg base 3 "counted" ["book"] spCounted) : FnOk P w K mg base CX0 4 f fd ["book"] spPages := by
  refine F.ok cPages (fun vs H Q E h => ?_) (fun cdv A outer s H vs Q E hr h => ?_)
  · obtain ⟨_, _, _, rfl, _⟩ := h
    rfl
  · obtain ⟨a, b, xs, rfl, pl, td, len, nd, q⟩ := h
    refine ⟨_, pss_cons (ps_set (i := 1) cPages.nd rfl (Or.inr rfl) (pe_callTy (cr_dictO rfl hr.units) (by rfl) T.dict (by decide +kernel) (pa_cons
        (pe_lc (own := [("name", 2)]) (g := gName 2) (tt := tYes) rfl cPages.nd (pi_tup (pe_call GC.ok hr rfl GC.at_ GC.kp GC.bd .nil pass0 (pa_cons (pv 0) pa_nil))) (blkOk_by (N := ["book", "names", "name", "page"]) (sc := defScope dPages) (by decide +kernel))
          (fun _ _ _ _ _ => pg_name (i := 2) cPages.nd rfl (Or.inl rfl)) (fun _ _ _ _ _ => pts_nil) (fun _ _ _ _ _ => pe_tup (pa_cons (pv 2) (pa_cons pe_bl pa_nil)))) pa_nil)))
      (pss_one (ps_ret (pe_lc (own := [("page", 3)]) (g := gName 3) rfl cPages.nd (pi_tup (pv 0)) (blkOk_by (N := ["book", "names", "name", "page"]) (sc := defScope dPages) (by decide +kernel))
          (fun _ _ _ _ _ => pg_name (i := 3) cPages.nd rfl (Or.inl rfl)) (fun _ _ _ _ _ => pts_one (pt_cmpR (inOc P w rfl rfl hr.units) (pe_ix (ixc K rfl) (pv 3) pe_int (fun _ _ => rfl)) (pv 1) (by rfl))) (fun _ _ _ _ _ => pv 3)))), ?_⟩
    have lx := Bk.len td
    refine r_seq (r_set (r_cb (r_cons (r_lcT ⟨_, rfl, a, b, rfl, ⟨xs, pl, td⟩, len, fun H1 t ys e1 ht ty => ?_⟩))))
    have ly := ty.length
    rw [List.length_map] at ly
    refine lcT (xs := ys) (fun i acc H' => ∃ R : List RowV, Paired (PairV H') R acc ∧ R.map (·.1) = (b.take i).map fun g => (some (nmK g.1) : KO)) (fun _ _ _ _ k ⟨R, h1, h2⟩ => ⟨R, PairV.mono k h1, h2⟩) (by omega) ?_ (fun _ _ => ⟨[], .nil, rfl⟩) (fun i x H3 hi e3 => ?_) fun p3 H3 acc hp3 e3 h3 _ hR => ?_
    · exact SrcT.ev ev_c (SqT.of ht)
    · obtain ⟨d, hd, tx⟩ := TDs.getx ty hi
      rw [List.getElem?_map] at hd
      cases hg : b[i]? with
      | none => rw [hg] at hd; cases hd
      | some g =>
        rw [hg] at hd
        have ed : nmD g.1 = d := Option.some.inj hd
        rw [← ed] at tx
        refine ⟨_, fun N k => k, rfl, Turn.yes fun H4 e4 Q k => ?_⟩
        refine ⟨_, rfl, by show 2 ≤ sizeLine; decide, fun m hm => k _ _ (Ex.new hm) fun acc ⟨R, h1, h2⟩ => ⟨R ++ [(some (nmK g.1), x, .bl true)], Paired.snoc h1 ⟨m, rfl, upd_same, (tx.mono (Tk.ex ((e3.trans e4).trans (Ex.new hm)))).key⟩, ?_⟩⟩
        rw [List.map_append, h2, List.take_add_one, hg, List.map_append]
        rfl
    · obtain ⟨R, h1, h2⟩ := hR
      rw [show ys.length = b.length from ly, List.take_length] at h2
      refine ⟨p3, acc, R, rfl, .inl h3, h1, by rw [h2]; exact keys_nd nd, fun d hd hs => ?_⟩
      dsimp only
      have e4 : Ex H (upd H3 d (DicO P w d R)) := (e1.trans e3).trans (Ex.new hd)
      have ks : KsV (upd H3 d (DicO P w d R)) R := (ksv_of h1).mono (tk_new hd)
      refine r_ret (lcT (xs := xs) (fun i acc _ => acc = xs.take i) (fun _ _ _ _ _ h => h) (by omega) ?_ (fun _ _ => rfl) (fun i x H5 hi e5 => ?_) fun p5 H5 acc hp5 e5 h5 _ hR => ?_)
      · exact SrcT.ev (ev_var rfl) (pl.ex e4).sq
      · obtain ⟨g, c, y, z, d', zs, hg, rfl, hc, hy, hz, rfl, hd', h0⟩ := Bk.page td hi
        refine ⟨_, fun N k => k, rfl, true, ?_, fun _ H6 e6 Q k => ?_, fun z => (nomatch z)⟩
        · refine et_test (ev_is (ev_op (ev_ix (ev_var rfl) (SqT.of (e5 _ _ (e4 _ _ hc))) rfl) (ev_var rfl) (z := .bl (atV R (some (nmK g.1))).isSome) fun H7 e7 Q k => ⟨d, R, some (nmK g.1), rfl, hs, e7 _ _ (e5 _ _ upd_same), ks.mono (Tk.ex (e5.trans e7)), (hy.mono (Tk.ex ((e4.trans e5).trans e7))).key, k _ (Ex.refl _)⟩) ?_)
          rw [atV_mem.mpr]
          rw [h2]
          exact List.mem_map.mpr ⟨g, List.mem_of_getElem? hg, rfl⟩
        · refine ⟨_, rfl, k _ _ (Ex.refl _) fun acc ha => ?_⟩
          show acc ++ [_] = xs.take (i + 1)
          rw [show acc = xs.take i from ha, List.take_add_one, hi]
          rfl
      · rw [List.take_length] at hR
        subst hR
        exact q _ _ (e4.trans e5) (fresh_back e4 hp5) h5
/-! ### offs -/
def offD (o : Nm × Int) : PyData := .tuple [nmD o.1, .int o.2]
def offE (p : Str) (t : Int) (g : Page) : List (Nm × Int) := match g.2 with
  | .count c k => if c = p then [(g.1, k - t)] else []
  | _ => []
def offsM (p : Str) : List Page → Int → List (Nm × Int)
  | [], _ => []
  | g :: b, t => offE p t g ++ offsM p b (t + bringsM g.2 p)
def sumB (p : Str) (b : List Page) : Int := (b.map fun g => bringsM g.2 p).sum
theorem sumB_snoc (p : Str) (b : List Page) (g : Page) : sumB p (b ++ [g]) = sumB p b + bringsM g.2 p := by
  unfold sumB
  rw [List.map_append, List.sum_append]
  simp
theorem offs_snoc (p : Str) (g : Page) : ∀ (b : List Page) (t : Int), offsM p (b ++ [g]) t = offsM p b t ++ offE p (t + sumB p b) g
  | [], t => by
    show offE p t g ++ [] = [] ++ offE p (t + 0) g
    rw [List.append_nil, Int.add_zero]
    rfl
  | h :: b, t => by
    show offE p t h ++ offsM p (b ++ [g]) (t + bringsM h.2 p) = (offE p t h ++ offsM p b (t + bringsM h.2 p)) ++ offE p (t + sumB p (h :: b)) g
    rw [offs_snoc p g b, List.append_assoc]
    have e : sumB p (h :: b) = bringsM h.2 p + sumB p b := by simp [sumB]
    rw [e, Int.add_assoc]
theorem offE_len (p : Str) (t : Int) (g : Page) : (offE p t g).length ≤ 1 := by
  unfold offE
  split
  · split <;> simp
  · simp
theorem offs_len (p : Str) : ∀ (b : List Page) (t : Int), (offsM p b t).length ≤ b.length
  | [], _ => Nat.le_refl _
  | g :: b, t => by
    show (offE p t g ++ offsM p b _).length ≤ _
    rw [List.length_append, List.length_cons]
    have := offE_len p t g
    have := offs_len p b (t + bringsM g.2 p)
    omega
theorem TD.off {H : Hp} {o : Nm × Int} {v : V} (h : TD H (offD o) v) : ∃ a x, v = .ref a ∧ H a = some (.tup [x, .int o.2]) ∧ TD H (nmD o.1) x := by
  obtain ⟨a, xs, rfl, ha, hs⟩ := h
  obtain ⟨x, y, rfl, h1, h2⟩ := hs.two
  have e : y = .int o.2 := h2
  subst e
  exact ⟨a, x, rfl, ha, h1⟩
theorem td_off {H : Hp} {o : Nm × Int} {a : Addr} {x : V} (h : H a = some (.tup [x, .int o.2])) (t : TD H (nmD o.1) x) : TD H (offD o) (.ref a) := TD.tup h (TDs.cons t (TDs.one rfl))
def spOffs : Sp := fun vs H Q _ => ∃ (a : Addr) (p : Str) (b : List Page) (xs : List V), vs = [.ref a, .str p] ∧ PlT H a xs ∧ TDs H (b.map pageD) xs ∧ b.length ≤ 100 ∧ (b.map (·.1)).Nodup ∧ (∀ g ∈ b, g.2.ok) ∧
  ∀ H' l ys, Ex H H' → H l = none → H' l = some (.lst ys) → TDs H' ((offsM p b 0).map offD) ys → Q (.ref l) H'
theorem ok_offs {f : Addr} {fd : FuncData} (F : Fun K "offs" "offs" dOffs f fd) (T : Tx mg) (GP : Dfn P w K mg base 4 "counted_pages" ["book"] spPages) (GB : Dfn P w K mg base 2 "brings" ["deed", "place"] (spBrings K)) :
    FnOk P w K mg base CX0 5 f fd ["book", "place"] spOffs := by
  refine F.ok cOffs (fun vs H Q E h => ?_) (fun cdv A outer s H vs Q E hr h => ?_)
  · obtain ⟨_, _, _, _, rfl, _⟩ := h
    rfl
  · obtain ⟨a, p, b, xs, rfl, pl, td, len, nd, ok, q⟩ := h
    refine ⟨_, pss_cons (ps_set (i := 2) cOffs.nd rfl (Or.inl rfl) (pe_lst pa_nil)) (pss_cons (ps_set (i := 3) cOffs.nd rfl (Or.inl rfl) pe_int)
      (pss_cons (ps_for PassesOwn.never rfl (pi_list (pe_call GP.ok hr rfl GP.at_ GP.kp GP.bd .nil pass0 (pa_cons (pv 0) pa_nil))) (pg_tup rfl (pgs_cons (pg_name (i := 4) cOffs.nd rfl (.inl rfl)) (pgs_cons (pg_name (i := 5) cOffs.nd rfl (.inl rfl)) pgs_nil)))
        (pss_cut (ps_if (PW.pt (pw_and (pt_cmpR op_eq (pe_ix ix_tup (pv 5) pe_int (fun _ _ => rfl)) pe_str (nomark _)) (pw_and1 (pt_cmpR op_eq (pe_ix ix_tup (pv 5) pe_int (fun _ _ => rfl)) (pv 1) (nomark _)))))
            (pss_one (ps_expr (pe_bm PySem.F.plainAttrs_list PySem.F.slot_list_append PySem.F.type_list_append mt_append (pv 2) (pa_cons (pe_tup (pa_cons (pv 4) (pa_cons (pe_op op_sub (pe_ix ix_tup (pv 5) pe_int (fun _ _ => rfl)) (pv 3)) pa_nil))) pa_nil)))) pss_nil)
          (pss_one (ps_set (i := 3) cOffs.nd rfl (Or.inl rfl) (pe_op op_add (pv 3) (pe_call GB.ok (hr.mono (by decide)) rfl GB.at_ GB.kp GB.bd .nil pass0 (pa_cons (pv 5) (pa_cons (pv 1) pa_nil))))))))
      (pss_one (ps_ret (pv 2))))), ?_⟩
    have lx := Bk.len td
    refine q_asgL (el_lst ea_nil (by decide)) fun l H1 nl e1 hl => q_asg ev_c fun H2 e2 => ?_
    have e02 := e1.trans e2
    refine r_seq (r_forL ⟨_, rfl, a, b, xs, rfl, pl.ex e02, td.mono (Tk.ex e02), len, nd, fun H3 m e3 nm hm => ?_⟩)
    have nml : l ≠ m := ne_of_none (e2 _ _ hl) nm
    have e03 := e02.trans e3
    refine s_forL (xs := xs) ev_c (SqL.of hm) (fun i σ' H' => ∃ y1 y2 acc, σ' = [some (.ref a), some (.str p), some (.ref l), some (.int (sumB p (b.take i))), y1, y2] ∧ Ex H H' ∧ H' m = some (.lst xs) ∧ H' l = some (.lst acc) ∧ TDs H' ((offsM p (b.take i) 0).map offD) acc)
      (fun H4 e4 => ⟨none, none, [], rfl, e03.trans e4, e4 _ _ hm, e4 _ _ (e3 _ _ (e2 _ _ hl)), rfl⟩) (fun i σ' H' _ ⟨_, _, _, _, _, h, _⟩ => SqL.of h) ?_ ?_
    · rintro i x σ' H' hi ⟨y1, y2, acc, rfl, e, hm', hl', ta⟩
      obtain ⟨g, c, y, z, d, zs, hg, rfl, hc, hy, hz, rfl, hd, h0⟩ := Bk.page td hi
      refine g2 (SqT.of (e _ _ hc)) _ ?_
      refine q_cut (M := fun σ5 H5 => σ5 = [some (.ref a), some (.str p), some (.ref l), some (.int (sumB p (b.take i))), some y, some (.ref d)] ∧ Ex H H5 ∧ H5 m = some (.lst xs) ∧ ∃ acc5, H5 l = some (.lst acc5) ∧ TDs H5 ((offsM p (b.take i) 0 ++ offE p (sumB p (b.take i)) g).map offD) acc5) ?_ ?_
      · have none_ : offE p (sumB p (b.take i)) g = [] → ∀ H5, Ex H' H5 → ([some (.ref a), some (.str p), some (.ref l), some (.int (sumB p (b.take i))), some y, some (.ref d)] = [some (.ref a), some (.str p), some (.ref l), some (.int (sumB p (b.take i))), some y, some (V.ref d)] ∧ Ex H H5 ∧ H5 m = some (.lst xs) ∧ ∃ acc5, H5 l = some (.lst acc5) ∧ TDs H5 ((offsM p (b.take i) 0 ++ offE p (sumB p (b.take i)) g).map offD) acc5) := fun h H5 e5 =>
          ⟨rfl, e.trans e5, e5 _ _ hm', acc, e5 _ _ hl', by rw [h, List.append_nil]; exact ta.mono (Tk.ex e5)⟩
        obtain ⟨n, dd⟩ := g
        cases dd with
        | count q' k =>
          obtain ⟨d', ed, hd2⟩ := hz.count
          injection ed with ed
          subst ed
          refine s_when (b := true && decide (V.str q' = V.str p)) ?_ (fun hb H5 e5 => ?_) (fun hb H5 e5 => ?_)
          · exact et_and (et_is (et_eq (ev_ix (ev_var rfl) (st_of (e _ _ hd2)) rfl) ev_c rfl) (by decide +kernel)) fun _ => et_eq (ev_ix (ev_var rfl) (st_of (e _ _ hd2)) rfl) (ev_var rfl) rfl
          · have hq : q' = p := by simpa using hb
            have la := ta.length
            rw [List.length_map] at la
            have := offs_len p (b.take i) 0
            rw [List.length_take] at this
            refine s_appU (e5 _ _ hl') (ev_var rfl) (eu_tup (ea_cons (ev_var rfl) (ea_cons (ev_op (ev_ix (ev_var rfl) (st_of (e5 _ _ (e _ _ hd2))) rfl) (ev_var rfl) rv_I0) ea_nil)) (by show 2 ≤ 100000; decide)) (by omega) fun pt H6 npt e6 hpt => ?_
            have hl6 := e6 _ _ (e5 _ _ hl')
            refine ⟨rfl, Ex.mut ((e.trans e5).trans e6) nl, by rw [upd_ne nml.symm]; exact e6 _ _ (e5 _ _ hm'), _, upd_same, ?_⟩
            have ee : offE p (sumB p (b.take i)) (n, .count q' k) = [(n, k - sumB p (b.take i))] := by
              show (if q' = p then _ else _) = _
              rw [if_pos hq]
            rw [ee, List.map_append]
            exact (((ta.mono (Tk.ex (e5.trans e6)))).append (TDs.one (td_off hpt (hy.mono (Tk.ex ((e.trans e5).trans e6)))))).mono (tk_lst hl6)
          · refine none_ ?_ H5 e5
            show (if q' = p then _ else _) = _
            rw [if_neg (by simpa using hb)]
        | bag q1 q2 k =>
          refine s_when (b := false) ?_ (fun z => nomatch z) (fun _ H5 e5 => none_ rfl H5 e5)
          exact et_and (a := false) (b := false) (et_is (et_eq (ev_ix (ev_var rfl) (st_of (e _ _ hd)) h0) ev_c rfl) (show decide (V.str "bag" = V.str "count") = false by decide +kernel)) fun z => nomatch z
        | move q1 q2 k =>
          refine s_when (b := false) ?_ (fun z => nomatch z) (fun _ H5 e5 => none_ rfl H5 e5)
          exact et_and (a := false) (b := false) (et_is (et_eq (ev_ix (ev_var rfl) (st_of (e _ _ hd)) h0) ev_c rfl) (show decide (V.str "move" = V.str "count") = false by decide +kernel)) fun z => nomatch z
      · rintro σ5 H5 ⟨rfl, e5, hm5, acc5, hl5, ta5⟩
        refine s_asg (v := .int (sumB p (b.take i) + bringsM g.2 p)) ?_ fun H6 e6 => ?_
        · exact ev_op (ev_var rfl) (ev_call (ea_cons (ev_var rfl) (ea_cons (ev_var rfl) ea_nil)) fun H7 e7 Q k E => ⟨_, g.2, p, rfl, hz.mono (Tk.ex (e5.trans e7)), ok g (List.mem_of_getElem? hg), k⟩) rv_I0
        · refine ⟨some y, some (.ref d), acc5, ?_, e5.trans e6, e6 _ _ hm5, e6 _ _ hl5, ?_⟩
          · rw [List.take_add_one, hg]
            show _ = [some (V.ref a), some (V.str p), some (V.ref l), some (V.int (sumB p (b.take i ++ [g]))), some y, some (V.ref d)]
            rw [sumB_snoc]
            rfl
          · rw [List.take_add_one, hg]
            show TDs H6 ((offsM p (b.take i ++ [g]) 0).map offD) acc5
            rw [offs_snoc, Int.zero_add]
            exact ta5.mono (Tk.ex e6)
    · rintro σ' H' ⟨y1, y2, acc, rfl, e, hm', hl', ta⟩
      rw [lx, List.take_length] at ta
      exact ⟨_, rfl, q H' l acc e nl hl' ta⟩
end
end Pn
set_option maxHeartbeats 200000
/-! said, off_paper -/
namespace Pn
open PySem L2 Evl
/-- the pages as rows of dict(book) -/
theorem rows_of {H : Hp} : ∀ {b : List Page} {xs : List V}, TDs H (b.map pageD) xs → ∃ R : List RowV, Paired (PairV H) R xs ∧ R.map (·.1) = b.map (fun g => (some (nmK g.1) : KO)) ∧ ∀ g ∈ b, ∃ r ∈ R, r.1 = some (nmK g.1) ∧ TD H (deedD g.2) r.2.2
  | [], _, h => by
    have e : _ = [] := h
    subst e
    exact ⟨[], .nil, rfl, fun g hg => by cases hg⟩
  | g :: b, _, h => by
    obtain ⟨x, r, rfl, h1, h2⟩ := h
    obtain ⟨R, q1, q2, q3⟩ := rows_of h2
    obtain ⟨a, y, z, rfl, ha, hy, hz⟩ := h1.pg
    refine ⟨(some (nmK g.1), y, z) :: R, .cons ⟨a, rfl, ha, hy.key⟩ q1, by rw [List.map_cons, List.map_cons, q2], fun g' hg => ?_⟩
    rcases List.mem_cons.mp hg with e | hg
    · rw [e]
      exact ⟨_, List.mem_cons_self, rfl, hz⟩
    · obtain ⟨r', h3, h4⟩ := q3 g' hg
      exact ⟨r', List.mem_cons_of_mem _ h3, h4⟩
/-- the parts (name, number) as rows -/
theorem rows_off {H : Hp} : ∀ {b : List (Nm × Int)} {xs : List V}, TDs H (b.map offD) xs → ∃ R : List RowV, Paired (PairV H) R xs ∧ R.map (·.1) = b.map (fun g => (some (nmK g.1) : KO)) ∧ ∀ g ∈ b, ∃ r ∈ R, r.1 = some (nmK g.1) ∧ r.2.2 = .int g.2
  | [], _, h => by
    have e : _ = [] := h
    subst e
    exact ⟨[], .nil, rfl, fun g hg => by cases hg⟩
  | g :: b, _, h => by
    obtain ⟨x, r, rfl, h1, h2⟩ := h
    obtain ⟨R, q1, q2, q3⟩ := rows_off h2
    obtain ⟨a, y, rfl, ha, hy⟩ := h1.off
    refine ⟨(some (nmK g.1), y, .int g.2) :: R, .cons ⟨a, rfl, ha, hy.key⟩ q1, by rw [List.map_cons, List.map_cons, q2], fun g' hg => ?_⟩
    rcases List.mem_cons.mp hg with e | hg
    · rw [e]
      exact ⟨_, List.mem_cons_self, rfl, rfl⟩
    · obtain ⟨r', h3, h4⟩ := q3 g' hg
      exact ⟨r', List.mem_cons_of_mem _ h3, h4⟩
def ltN (n m : Nm) : Bool := PySem.W.dataLt (nmD n) (nmD m)
def OneV (H : Hp) : Option Nm → V → Prop
  | none, x => x = .non
  | some n, x => TD H (nmD n) x
theorem OneV.mono {H H' : Hp} (k : Tk H H') {o : Option Nm} {x : V} (h : OneV H o x) : OneV H' o x := by
  cases o with
  | none => exact h
  | some n => exact TD.mono k h
/-- what was said at a name: nothing, or a count's number -/
def Said (b : List Page) (o : Option Nm) (n : Int) : Prop := match o with
  | none => n = 0
  | some nm => ∃ c, (nm, Deed.count c n) ∈ b
section
variable {P : Program} {w : World} {K : PySem.W.Frag} {mg : Str → Option Value} {base : Heap}
def spSaid : Sp := fun vs H Q _ => ∃ (a : Addr) (x : V) (b : List Page) (xs : List V) (o : Option Nm) (n : Int), vs = [.ref a, x] ∧ PlT H a xs ∧ TDs H (b.map pageD) xs ∧ (b.map (·.1)).Nodup ∧ OneV H o x ∧ Said b o n ∧ ∀ H', Ex H H' → Q (.int n) H'
theorem ok_said {f : Addr} {fd : FuncData} (F : Fun K "said" "said" dSaid f fd) (T : Tx mg) : FnOk P w K mg base CX0 1 f fd ["book", "name"] spSaid := by
  refine F.ok cSaid (fun vs H Q E h => ?_) (fun cdv A outer s H vs Q E hr h => ?_)
  · obtain ⟨_, _, _, _, _, _, rfl, _⟩ := h
    rfl
  · obtain ⟨a, x, b, xs, o, n, rfl, pl, td, nd, ho, hs, q⟩ := h
    refine ⟨_, pss_cons (ps_if (pt_cmpR op_isN (pv 1) pe_non (nomark _)) (pss_one (ps_ret pe_int)) pss_nil)
      (pss_one (ps_ret (pe_ix (ixc K rfl) (pe_ix (ix_o hr.units) (pe_callTy (cr_dictO rfl hr.units) (by rfl) T.dict (by decide +kernel) (pa_cons (pv 0) pa_nil)) (pv 1) (fun _ _ => rfl)) pe_int (fun _ _ => rfl)))), ?_⟩
    cases o with
    | none =>
      have e : x = .non := ho
      subst e
      have e : n = 0 := hs
      subst e
      refine q_when (b := true) ?_ (fun _ H1 e1 => ?_) (fun z => nomatch z)
      · exact et_test (ev_op (ev_var rfl) ev_c (rv_val fun H1 _ Q q => ⟨rfl, q⟩))
      · exact s_ret ev_c fun H2 e2 => q H2 (e1.trans e2)
    | some nm =>
      obtain ⟨c, hm⟩ := hs
      obtain ⟨t, rfl, _⟩ := TD.nm ho
      refine q_when (b := false) ?_ (fun z => nomatch z) (fun _ H1 e1 => ?_)
      · exact et_test (ev_op (ev_var rfl) ev_c (rv_val fun H1 _ Q q => ⟨rfl, q⟩))
      · obtain ⟨R, h1, h2, h3⟩ := rows_of (td.mono (Tk.ex e1))
        obtain ⟨r, hr1, hr2, hr3⟩ := h3 _ hm
        have ndR : (R.map (·.1)).Nodup := by rw [h2]; exact keys_nd nd
        refine r_ret (r_op (r_op (r_cb (r_cons ⟨_, rfl, a, xs, R, rfl, .inr (pl.ex e1), h1, ndR, fun d hd hs => ?_⟩))))
        have t1 := tk_new (o := DicO P w d R) hd
        refine ⟨_, rfl, d, R, some (nmK nm), r.2.2, rfl, upd_same, (ksv_of h1).mono t1, (TD.mono t1 (TD.mono (Tk.ex e1) ho)).key, ?_, ?_⟩
        · rw [← hr2]
          exact atV_get ndR hr1
        · obtain ⟨cd, ec, hcd⟩ := (hr3.mono t1).count
          rw [ec]
          exact ⟨cd, _, 2, _, rfl, rfl, SqT.of hcd, rfl, q _ (e1.trans (Ex.new hd))⟩
/-! ### off_paper -/
def papOk (p : Str) (one : Option Nm) (other : Nm) (g : Page) : Bool :=
  !decide (bringsM g.2 p = 0) && (ltN g.1 other && (match one with | none => true | some o => ltN o g.1))
def papM (p : Str) (one : Option Nm) (other : Nm) (b : List Page) : List (Nm × Int) := (b.filter (papOk p one other)).map fun g => (g.1, bringsM g.2 p)
theorem papM_len (p : Str) (one : Option Nm) (other : Nm) (b : List Page) : (papM p one other b).length ≤ b.length := by
  unfold papM
  rw [List.length_map]
  exact List.length_filter_le _ _
theorem alike_nm (n m : Nm) : PySem.W.alike (nmD n) (nmD m) = true := rfl
theorem depth_nm (n : Nm) : (nmD n).depth ≤ 8 := by
  show (1 : Nat) ≤ 8
  decide
theorem et_lt {X : Cx} {σ : L2.St} {H : Hp} {ta tb : TE} {n m : Nm} {x y : V} (hx : Ev ta σ H x) (hy : Ev tb σ H y) (dx : TD H (nmD n) x) (dy : TD H (nmD m) y) : EvT (tTest (tOp rLtD ta tb)) σ H (ltN n m) :=
  et_test (ev_op hx hy fun H1 e Q q => ⟨nmD n, nmD m, dx.mono (Tk.ex e), dy.mono (Tk.ex e), alike_nm n m, fun z => (nomatch z), depth_nm n, q H1 (Ex.refl H1)⟩)
def spOffp : Sp := fun vs H Q _ => ∃ (a : Addr) (p : Str) (x y : V) (b : List Page) (xs : List V) (one : Option Nm) (other : Nm), vs = [.ref a, .str p, x, y] ∧ PlT H a xs ∧ TDs H (b.map pageD) xs ∧ b.length ≤ 100 ∧ (b.map (·.1)).Nodup ∧ (∀ g ∈ b, g.2.ok) ∧ OneV H one x ∧ TD H (nmD other) y ∧
  ∀ H' t ys, Ex H H' → PlT H' t ys → TDs H' ((papM p one other b).map offD) ys → Q (.ref t) H'
theorem ok_offp {f : Addr} {fd : FuncData} (F : Fun K "off_paper" "off_paper" dOffp f fd) (T : Tx mg) (GP : Dfn P w K mg base 4 "counted_pages" ["book"] spPages) (GB : Dfn P w K mg base 2 "brings" ["deed", "place"] (spBrings K)) :
    FnOk P w K mg base CX0 5 f fd ["book", "place", "one", "other"] spOffp := by
  refine F.ok cOffp (fun vs H Q E h => ?_) (fun cdv A outer s H vs Q E hr h => ?_)
  · obtain ⟨_, _, _, _, _, _, _, _, rfl, _⟩ := h
    rfl
  · obtain ⟨a, p, x1, x2, b, xs, one, other, rfl, pl, td, len, nd, ok, h1, h2, q⟩ := h
    refine ⟨_, pss_cons (ps_set (i := 4) cOffp.nd rfl (Or.inl rfl) (pe_lst pa_nil))
      (pss_cons (ps_for PassesOwn.never rfl (pi_list (pe_call GP.ok hr rfl GP.at_ GP.kp GP.bd .nil pass0 (pa_cons (pv 0) pa_nil))) (pg_tup rfl (pgs_cons (pg_name (i := 5) cOffp.nd rfl (.inl rfl)) (pgs_cons (pg_name (i := 6) cOffp.nd rfl (.inl rfl)) pgs_nil)))
        (pss_cons (ps_set (i := 7) cOffp.nd rfl (Or.inl rfl) (pe_call GB.ok (hr.mono (by decide)) rfl GB.at_ GB.kp GB.bd .nil pass0 (pa_cons (pv 6) (pa_cons (pv 1) pa_nil))))
          (pss_one (ps_if (PW.pt (pw_and (pt_cmpR op_ne (pv 7) pe_int (nomark _)) (pw_and (pt_cmpR (op_ltD hr.units) (pv 5) (pv 3) (nomark _)) (pw_and1 (PW.pt (pw_or (pt_cmpR op_isN (pv 2) pe_non (nomark _)) (pw_or1 (pt_cmpR (op_ltD hr.units) (pv 2) (pv 5) (nomark _)))))))))
            (pss_one (ps_expr (pe_bm PySem.F.plainAttrs_list PySem.F.slot_list_append PySem.F.type_list_append mt_append (pv 4) (pa_cons (pe_tup (pa_cons (pv 5) (pa_cons (pv 7) pa_nil))) pa_nil)))) pss_nil))))
      (pss_one (ps_ret (pe_callTy cr_tupF (by rfl) T.tuple (by decide +kernel) (pa_cons (pv 4) pa_nil))))), ?_⟩
    have lx := Bk.len td
    refine q_asgL (el_lst ea_nil (by decide)) fun l H2 nl e02 hl => ?_
    refine r_seq (r_forL ⟨_, rfl, a, b, xs, rfl, pl.ex e02, td.mono (Tk.ex e02), len, nd, fun H3 m e3 nm hm => ?_⟩)
    have nml : l ≠ m := ne_of_none hl nm
    have e03 := e02.trans e3
    refine s_forL (xs := xs) ev_c (SqL.of hm) (fun i σ' H' => ∃ y1 y2 y3 acc, σ' = [some (.ref a), some (.str p), some x1, some x2, some (.ref l), y1, y2, y3] ∧ Ex H H' ∧ H' m = some (.lst xs) ∧ H' l = some (.lst acc) ∧ TDs H' ((papM p one other (b.take i)).map offD) acc)
      (fun H4 e4 => ⟨none, none, none, [], rfl, e03.trans e4, e4 _ _ hm, e4 _ _ (e3 _ _ hl), rfl⟩) (fun i σ' H' _ ⟨_, _, _, _, _, _, h, _⟩ => SqL.of h) ?_ ?_
    · rintro i x σ' H' hi ⟨y1, y2, y3, acc, rfl, e, hm', hl', ta⟩
      obtain ⟨g, c, y, z, d, zs, hg, rfl, hc, hy, hz, rfl, hd, h0⟩ := Bk.page td hi
      refine g2 (SqT.of (e _ _ hc)) _ ?_
      refine q_asg (v := .int (bringsM g.2 p)) ?_ fun H5 e5 => ?_
      · exact ev_call (ea_cons (ev_var rfl) (ea_cons (ev_var rfl) ea_nil)) fun H7 e7 Q k E => ⟨_, g.2, p, rfl, hz.mono (Tk.ex (e.trans e7)), ok g (List.mem_of_getElem? hg), k⟩
      · have e05 := e.trans e5
        have k05 := Tk.ex e05
        have ex1 : papM p one other (b.take (i + 1)) = papM p one other (b.take i) ++ (if papOk p one other g = true then [(g.1, bringsM g.2 p)] else []) := by
          unfold papM
          rw [List.take_add_one, hg]
          show ((b.take i ++ [g]).filter _).map _ = _
          rw [List.filter_append, List.map_append, List.filter_cons]
          split <;> rfl
        refine s_when (b := papOk p one other g) ?_ (fun hb H6 e6 => ?_) (fun hb H6 e6 => ?_)
        · unfold papOk
          refine et_and ?_ fun _ => et_and (et_lt (X := (cxOf CX0 P w K mg base [] "" (defScope dOffp) f cdv A outer s H E).nox) (ev_var rfl) (ev_var rfl) (hy.mono k05) (h2.mono k05)) fun _ => ?_
          · exact et_is (et_ne (ev_var rfl) ev_c rfl) (by simp)
          · cases one with
            | none =>
              have ex : x1 = .non := h1
              subst ex
              exact et_or (a := true) (b := false) (et_test (ev_op (ev_var rfl) ev_c (rv_val fun H1 _ Q q => ⟨rfl, q⟩))) fun z => nomatch z
            | some o =>
              obtain ⟨t, rfl, _⟩ := TD.nm h1
              exact et_is (et_or (a := false) (et_test (ev_op (ev_var rfl) ev_c (rv_val fun H1 _ Q q => ⟨rfl, q⟩))) fun _ => et_lt (X := (cxOf CX0 P w K mg base [] "" (defScope dOffp) f cdv A outer s H E).nox) (ev_var rfl) (ev_var rfl) (TD.mono k05 h1) (hy.mono k05)) rfl
        · have la := ta.length
          rw [List.length_map] at la
          have := papM_len p one other (b.take i)
          rw [List.length_take] at this
          refine s_appU (e6 _ _ (e5 _ _ hl')) (ev_var rfl) (eu_tup (ea_cons (ev_var rfl) (ea_cons (ev_var rfl) ea_nil)) (by show 2 ≤ 100000; decide)) (by omega) fun pt H7 npt e7 hpt => ?_
          have hl7 := e7 _ _ (e6 _ _ (e5 _ _ hl'))
          refine ⟨some y, some (.ref d), some (.int (bringsM g.2 p)), _, rfl, Ex.mut ((e05.trans e6).trans e7) nl, by rw [upd_ne nml.symm]; exact e7 _ _ (e6 _ _ (e5 _ _ hm')), upd_same, ?_⟩
          rw [ex1, if_pos hb, List.map_append]
          exact (((ta.mono (Tk.ex ((e5.trans e6).trans e7)))).append (TDs.one (td_off hpt (hy.mono (Tk.ex ((e05.trans e6).trans e7)))))).mono (tk_lst hl7)
        · refine ⟨some y, some (.ref d), some (.int (bringsM g.2 p)), acc, rfl, e05.trans e6, e6 _ _ (e5 _ _ hm'), e6 _ _ (e5 _ _ hl'), ?_⟩
          rw [ex1, if_neg (by rw [hb]; decide), List.append_nil]
          exact ta.mono (Tk.ex (e5.trans e6))
    · rintro σ' H' ⟨y1, y2, y3, acc, rfl, e, hm', hl', ta⟩
      rw [lx, List.take_length] at ta
      dsimp only
      refine r_ret (r_cb (r_cons ?_))
      exact ⟨_, rfl, l, acc, rfl, SqL.of hl', fun t o ht o1 o2 => q _ t acc (e.trans (Ex.new ht)) ⟨o, upd_same, o1, o2⟩ (ta.mono (tk_new ht))⟩
end
end Pn
set_option maxHeartbeats 200000
/-! is_word .. is_part -/
namespace Pn
open PySem L2 Evl
section
variable {K : PySem.W.Frag} {σ : L2.St} {H : Hp} {te tl : TE} {t : TT} {g : L2.TG} {vs : List Nat} {Q : VK}
theorem lcS {z : Str} (R : Nat → List V → Hp → Prop) (mono : ∀ j acc H1 H2, Tk H1 H2 → R j acc H1 → R j acc H2) (hz : z.cps.size ≤ 40000) (h : Ev tl σ H (.str z)) (h0 : ∀ H1, Ex H H1 → R 0 [] H1)
    (hs : ∀ (i c : Nat) H1, z.cps[i]? = some c → Ex H H1 → ∃ σ2, (∀ N : L2.St → Hp → Prop, N σ2 H1 → g (.str ⟨#[c]⟩) (wipe σ vs) H1 N) ∧ wipe σ2 vs = wipe σ vs ∧ Turn t te R i σ2 H1)
    (q : ∀ p H2 acc, H p = none → Ex H H2 → H2 p = some (.lst acc) → R z.cps.size acc H2 → Q (.ref p) H2) : tLc (iStr tl) g t te vs σ H Q :=
  h H (Ex.refl H) _ fun H1 e1 => ⟨z, rfl, fun Dl hD => by
    refine ⟨fun i m H' => m = z.cps.size - i ∧ i ≤ z.cps.size ∧ LcP H1 R Dl i H', ⟨z.cps.size, by simp, Nat.zero_le _, hD, Ex.new hD, [], upd_same, Nat.le_refl _, mono _ _ _ _ (tk_new hD) (h0 H1 e1)⟩, ?_⟩
    rintro i m H' ⟨rfl, hi, p⟩
    by_cases lt : i < z.cps.size
    · refine .inr ⟨lt, LcP H1 R Dl (i + 1), fun H2 p2 => ⟨z.cps.size - (i + 1), by omega, rfl, lt, p2⟩, fun x H2 y => ?_⟩
      obtain ⟨e, c, hc, rfl⟩ := y
      subst e
      obtain ⟨σ2, k1, k2, k3⟩ := hs i c H2 hc (e1.trans p.2.1)
      exact k1 _ ⟨k2, lc_turn mono p (by omega) k3⟩
    · have e : i = z.cps.size := by omega
      subst e
      obtain ⟨p1, p2, acc, p3, p4, p5⟩ := p
      exact .inl ⟨Nat.le_refl _, q Dl H' acc (fresh_back e1 p1) (e1.trans p2) p3 p5⟩⟩
end
def small : Str := "abcdefghijklmnopqrstuvwxyz"
def WordOk (z : Str) : Prop := 1 ≤ z.length ∧ z.length ≤ 8 ∧ ∀ c ∈ z.cps.toList, c ∈ small.cps.toList
def NmOk (n : Nm) : Prop := (0 ≤ n.1 ∧ n.1 ≤ 99999) ∧ (0 ≤ n.2.1 ∧ n.2.1 ≤ 999) ∧ WordOk n.2.2
section
variable {P : Program} {w : World} {K : PySem.W.Frag} {mg : Str → Option Value} {base : Heap}
def spWord : Sp := fun vs H Q _ => ∃ z : Str, vs = [.str z] ∧ WordOk z ∧ ∀ H', Ex H H' → Q (.bl true) H'
theorem ok_word {f : Addr} {fd : FuncData} (F : Fun K "is_word" "is_word" dWord f fd) (T : Tx mg) : FnOk P w K mg base CX0 1 f fd ["thing"] spWord := by
  obtain ⟨ts, hs⟩ := T.small
  obtain ⟨tm, hm⟩ := T.most
  refine F.ok cWord (fun vs H Q E h => ?_) (fun cdv A outer s H vs Q E hr h => ?_)
  · obtain ⟨_, rfl, _⟩ := h
    rfl
  · obtain ⟨z, rfl, ⟨z1, z2, z3⟩, q⟩ := h
    refine ⟨_, pss_cons (ps_if (PW.pt (pw_or (pt_not (pt_val (pe_callB (cr_isF (c := "str") (b := true)) (by rfl) T.isi (by decide +kernel) (pa_cons (pv 0) (pa_cons (pe_bltn (v := .ty "str") (by rfl) T.str (by decide +kernel) rfl) pa_nil)))))
        (pw_or1 (pt_not (pt_chain op_le op_le pe_int (pe_callB call_len_str (by rfl) T.len PySem.boot_len (pa_cons (pv 0) pa_nil)) (pe_glob (v := .int 8) rfl hm ⟨_, rfl⟩)))))) (pss_one (ps_ret pe_bl)) pss_nil)
      (pss_one (ps_ret (pe_callB (cr_all rfl) (by rfl) T.all (by decide +kernel) (pa_cons
        (pe_lc (own := [("sign", 1)]) (g := gName 1) (tt := tYes) rfl cWord.nd (pi_str (pv 0)) (blkOk_by (N := ["thing", "sign"]) (sc := defScope dWord) (by decide +kernel))
          (fun _ _ _ _ _ => pg_name (i := 1) cWord.nd rfl (Or.inl rfl)) (fun _ _ _ _ _ => pts_nil) (fun _ _ _ _ _ => pe_cmpR op_in_sign (pv 1) (pe_glob (v := .str small) rfl hs ⟨_, rfl⟩) (by rfl))) pa_nil)))), ?_⟩
    refine q_when (b := false) ?_ (fun z => nomatch z) (fun _ H1 e1 => ?_)
    · refine et_or (a := false) (b := false) (et_not (a := true) (et_B (ev_cb (ea_cons (ev_var rfl) (ea_cons ev_c ea_nil)) fun H1 e1 Q k => ⟨_, rfl, .inr ⟨z, rfl, kit_ty (by decide +kernel)⟩, k _ (Ex.refl _)⟩))) fun _ => ?_
      refine et_not (a := true) (et_test fun H1 e1 Q k => ?_)
      refine ⟨.str z, rfl, z, rfl, ?_, 1, (z.length : Int), rfl, rfl, true, ?_, ?_⟩
      · exact sz_of (by omega)
      · show V.bl (decide ((1 : Int) ≤ (z.length : Int))) = V.bl true
        rw [decide_eq_true (by omega)]
      · rw [if_pos rfl]
        refine ⟨(z.length : Int), 8, rfl, rfl, ?_⟩
        show Q (V.bl (decide ((z.length : Int) ≤ 8))) _
        rw [decide_eq_true (by omega)]
        exact k _ (Ex.refl _)
    · refine r_ret (r_cb (r_cons (lcS (z := z) (fun i acc _ => acc = List.replicate i (V.bl true)) (fun _ _ _ _ _ h => h) (by show z.length ≤ _; omega) ?_ (fun _ _ => rfl) (fun i c H2 hi e2 => ?_) fun p H2 acc hp e2 h2 hR => ?_)))
      · exact ev_var rfl
      · refine ⟨_, fun N k => k, rfl, Turn.yes fun H3 e3 Q k => ?_⟩
        refine ⟨_, rfl, c, small, rfl, rfl, ?_⟩
        rw [decide_eq_true (z3 c (by rw [Array.mem_toList_iff]; exact Array.mem_of_getElem? hi))]
        refine k _ _ (Ex.refl _) fun acc ha => ?_
        show acc ++ [_] = _
        rw [show acc = _ from ha, List.replicate_succ']
      · subst hR
        refine ⟨p, List.replicate z.cps.size true, rfl, ?_, ?_⟩
        · rw [List.map_replicate]
          exact SqL.of h2
        · have e : (List.replicate z.cps.size true).all id = true := by simp
          rw [e]
          exact q _ (e1.trans e2)
/-! ### is_at_least, is_bounded -/
def spLeast : Sp := fun vs H Q _ => ∃ i j : Int, vs = [.int i, .int j] ∧ j ≤ i ∧ ∀ H', Ex H H' → Q (.bl true) H'
theorem ok_least {f : Addr} {fd : FuncData} (F : Fun K "is_at_least" "is_at_least" dLeast f fd) (T : Tx mg) : FnOk P w K mg base CX0 1 f fd ["thing", "least"] spLeast := by
  refine F.ok cLeast (fun vs H Q E h => ?_) (fun cdv A outer s H vs Q E hr h => ?_)
  · obtain ⟨_, _, rfl, _⟩ := h
    rfl
  · obtain ⟨i, j, rfl, hij, q⟩ := h
    refine ⟨_, pss_one (ps_ret (pe_and (pe_callB (cr_isF (c := "int") (b := true)) (by rfl) T.isi (by decide +kernel) (pa_cons (pv 0) (pa_cons (pe_bltn (v := .ty "int") (by rfl) T.int (by decide +kernel) rfl) pa_nil)))
      (pe_and (pe_not (pe_callB (cr_isF (c := "bool") (b := false)) (by rfl) T.isi (by decide +kernel) (pa_cons (pv 0) (pa_cons (pe_bltn (v := .ty "bool") (by rfl) T.bool (by decide +kernel) rfl) pa_nil))))
        (pe_one (pe_cmpR op_ge (pv 0) (pv 1) (nomark _)))))), ?_⟩
    refine s_ret (v := .bl (true && (!false && decide (i ≥ j)))) ?_ fun H1 e1 => ?_
    · refine ev_andV (ev_cb (ea_cons (ev_var rfl) (ea_cons ev_c ea_nil)) fun H1 e1 Q k => ⟨_, rfl, .inl ⟨i, rfl, kit_ty (by decide +kernel)⟩, k _ (Ex.refl _)⟩) fun _ => ?_
      refine ev_andV (ev_notV (ev_cb (ea_cons (ev_var rfl) (ea_cons ev_c ea_nil)) fun H1 e1 Q k => ⟨_, rfl, .inl ⟨i, rfl, kit_ty (by decide +kernel)⟩, k _ (Ex.refl _)⟩)) fun _ => ?_
      exact ev_op (ev_var rfl) (ev_var rfl) rv_I0
    · have e : (true && (!false && decide (i ≥ j))) = true := by simpa using hij
      rw [e]
      exact q _ e1
def spBounded : Sp := fun vs H Q _ => ∃ i j m : Int, vs = [.int i, .int j, .int m] ∧ j ≤ i ∧ i ≤ m ∧ ∀ H', Ex H H' → Q (.bl true) H'
theorem ok_bounded {f : Addr} {fd : FuncData} (F : Fun K "is_bounded" "is_bounded" dBounded f fd) (T : Tx mg) (GL : Dfn P w K mg base 1 "is_at_least" ["thing", "least"] spLeast) : FnOk P w K mg base CX0 2 f fd ["thing", "least", "most"] spBounded := by
  refine F.ok cBounded (fun vs H Q E h => ?_) (fun cdv A outer s H vs Q E hr h => ?_)
  · obtain ⟨_, _, _, rfl, _⟩ := h
    rfl
  · obtain ⟨i, j, m, rfl, hij, him, q⟩ := h
    refine ⟨_, pss_one (ps_ret (pe_and (pe_call GL.ok hr rfl GL.at_ GL.kp GL.bd .nil pass0 (pa_cons (pv 0) (pa_cons (pv 1) pa_nil))) (pe_one (pe_cmpR op_le (pv 0) (pv 2) (nomark _))))), ?_⟩
    refine s_ret (v := .bl (true && decide (i ≤ m))) ?_ fun H1 e1 => ?_
    · refine ev_andV (ev_call (ea_cons (ev_var rfl) (ea_cons (ev_var rfl) ea_nil)) fun H1 e1 Q k E => ⟨i, j, rfl, hij, k⟩) fun _ => ?_
      exact ev_op (ev_var rfl) (ev_var rfl) rv_I0
    · have e : (true && decide (i ≤ m)) = true := by simpa using him
      rw [e]
      exact q _ e1
/-! ### is_name, is_part -/
def spName : Sp := fun vs H Q _ => ∃ (x : V) (n : Nm), vs = [x] ∧ TD H (nmD n) x ∧ NmOk n ∧ ∀ H', Ex H H' → Q (.bl true) H'
theorem ok_name {f : Addr} {fd : FuncData} (F : Fun K "is_name" "is_name" dName f fd) (T : Tx mg) (GB : Dfn P w K mg base 2 "is_bounded" ["thing", "least", "most"] spBounded) (GW : Dfn P w K mg base 1 "is_word" ["thing"] spWord) :
    FnOk P w K mg base CX0 3 f fd ["thing"] spName := by
  obtain ⟨td, hd⟩ := T.day
  obtain ⟨tn, hn⟩ := T.num
  refine F.ok cName (fun vs H Q E h => ?_) (fun cdv A outer s H vs Q E hr h => ?_)
  · obtain ⟨_, _, rfl, _⟩ := h
    rfl
  · obtain ⟨x, n, rfl, tx, ⟨n1, n2, n3⟩, q⟩ := h
    obtain ⟨a, rfl, ha⟩ := tx.nm
    refine ⟨_, pss_cons (ps_if (PW.pt (pw_or (pt_not (pt_val (pe_callB (cr_isT (c := "tuple") (b := true)) (by rfl) T.isi (by decide +kernel) (pa_cons (pv 0) (pa_cons (pe_bltn (v := .ty "tuple") (by rfl) T.tuple (by decide +kernel) rfl) pa_nil)))))
        (pw_or1 (pt_cmpR op_ne (pe_callB call_len_seq (by rfl) T.len PySem.boot_len (pa_cons (pv 0) pa_nil)) pe_int (nomark _))))) (pss_one (ps_ret pe_bl)) pss_nil)
      (pss_one (ps_ret (pe_and (pe_call GB.ok hr rfl GB.at_ GB.kp GB.bd .nil pass0 (pa_cons (pe_ix ix_tup (pv 0) pe_int (fun _ _ => rfl)) (pa_cons pe_int (pa_cons (pe_glob (v := .int 99999) rfl hd ⟨_, rfl⟩) pa_nil))))
        (pe_and (pe_call GB.ok hr rfl GB.at_ GB.kp GB.bd .nil pass0 (pa_cons (pe_ix ix_tup (pv 0) pe_int (fun _ _ => rfl)) (pa_cons pe_int (pa_cons (pe_glob (v := .int 999) rfl hn ⟨_, rfl⟩) pa_nil))))
          (pe_one (pe_call GW.ok (hr.mono (by decide)) rfl GW.at_ GW.kp GW.bd .nil pass0 (pa_cons (pe_ix ix_tup (pv 0) pe_int (fun _ _ => rfl)) pa_nil))))))), ?_⟩
    refine q_when (b := false) ?_ (fun z => nomatch z) (fun _ H1 e1 => ?_)
    · refine et_or (a := false) (b := false) (et_not (a := true) (et_B (ev_cb (ea_cons (ev_var rfl) (ea_cons ev_c ea_nil)) fun H1 e1 Q k => ⟨a, _, rfl, SqT.of (e1 _ _ ha), kit_ty (by decide +kernel), k _ (Ex.refl _)⟩))) fun _ => ?_
      exact et_is (et_ne (ev_cb (ea_cons (ev_var rfl) ea_nil) fun H1 e1 Q k => ⟨a, _, rfl, .inr (SqT.of (e1 _ _ ha)), k _ (Ex.refl _)⟩) ev_c rfl) rfl
    · have ha1 := e1 _ _ ha
      refine s_ret (v := .bl (true && (true && true))) ?_ fun H2 e2 => q _ (e1.trans e2)
      refine ev_andV (ev_call (ea_cons (ev_ix (ev_var rfl) (st_of ha1) rfl) (ea_cons ev_c (ea_cons ev_c ea_nil))) fun H2 e2 Q k E => ⟨_, _, _, rfl, n1.1, n1.2, k⟩) fun _ => ?_
      refine ev_andV (ev_call (ea_cons (ev_ix (ev_var rfl) (st_of ha1) rfl) (ea_cons ev_c (ea_cons ev_c ea_nil))) fun H2 e2 Q k E => ⟨_, _, _, rfl, n2.1, n2.2, k⟩) fun _ => ?_
      exact ev_call (ea_cons (ev_ix (ev_var rfl) (st_of ha1) rfl) ea_nil) fun H2 e2 Q k E => ⟨_, rfl, n3, k⟩
def spPart : Sp := fun vs H Q _ => ∃ (x : V) (o : Nm × Int), vs = [x] ∧ TD H (offD o) x ∧ NmOk o.1 ∧ ∀ H', Ex H H' → Q (.bl true) H'
theorem ok_part {f : Addr} {fd : FuncData} (F : Fun K "is_part" "is_part" dPart f fd) (T : Tx mg) (GN : Dfn P w K mg base 3 "is_name" ["thing"] spName) :
    FnOk P w K mg base CX0 4 f fd ["thing"] spPart := by
  refine F.ok cPart (fun vs H Q E h => ?_) (fun cdv A outer s H vs Q E hr h => ?_)
  · obtain ⟨_, _, rfl, _⟩ := h
    rfl
  · obtain ⟨x, o, rfl, tx, no, q⟩ := h
    obtain ⟨a, y, rfl, ha, ty⟩ := tx.off
    refine ⟨_, pss_cons (ps_if (PW.pt (pw_or (pt_not (pt_val (pe_callB (cr_isT (c := "tuple") (b := true)) (by rfl) T.isi (by decide +kernel) (pa_cons (pv 0) (pa_cons (pe_bltn (v := .ty "tuple") (by rfl) T.tuple (by decide +kernel) rfl) pa_nil)))))
        (pw_or (pt_cmpR op_ne (pe_callB call_len_seq (by rfl) T.len PySem.boot_len (pa_cons (pv 0) pa_nil)) pe_int (nomark _)) (pw_or1 (pt_not (pt_val (pe_call GN.ok hr rfl GN.at_ GN.kp GN.bd .nil pass0 (pa_cons (pe_ix ix_tup (pv 0) pe_int (fun _ _ => rfl)) pa_nil)))))))) (pss_one (ps_ret pe_bl)) pss_nil)
      (pss_one (ps_ret (pe_and (pe_callB (cr_isF (c := "int") (b := true)) (by rfl) T.isi (by decide +kernel) (pa_cons (pe_ix ix_tup (pv 0) pe_int (fun _ _ => rfl)) (pa_cons (pe_bltn (v := .ty "int") (by rfl) T.int (by decide +kernel) rfl) pa_nil)))
        (pe_one (pe_not (pe_callB (cr_isF (c := "bool") (b := false)) (by rfl) T.isi (by decide +kernel) (pa_cons (pe_ix ix_tup (pv 0) pe_int (fun _ _ => rfl)) (pa_cons (pe_bltn (v := .ty "bool") (by rfl) T.bool (by decide +kernel) rfl) pa_nil)))))))), ?_⟩
    refine q_when (b := false) ?_ (fun z => nomatch z) (fun _ H1 e1 => ?_)
    · refine et_or (a := false) (b := false) (et_not (a := true) (et_B (ev_cb (ea_cons (ev_var rfl) (ea_cons ev_c ea_nil)) fun H1 e1 Q k => ⟨a, _, rfl, SqT.of (e1 _ _ ha), kit_ty (by decide +kernel), k _ (Ex.refl _)⟩))) fun _ => ?_
      refine et_or (a := false) (b := false) (et_is (et_ne (ev_cb (ea_cons (ev_var rfl) ea_nil) fun H1 e1 Q k => ⟨a, _, rfl, .inr (SqT.of (e1 _ _ ha)), k _ (Ex.refl _)⟩) ev_c rfl) rfl) fun _ => ?_
      exact et_not (a := true) (et_B (ev_call (ea_cons (ev_ix (ev_var rfl) (st_of ha) rfl) ea_nil) fun H2 e2 Q k E => ⟨y, o.1, rfl, ty.mono (Tk.ex e2), no, k⟩))
    · have ha1 := e1 _ _ ha
      refine s_ret (v := .bl (true && !false)) ?_ fun H2 e2 => q _ (e1.trans e2)
      refine ev_andV (ev_cb (ea_cons (ev_ix (ev_var rfl) (st_of ha1) rfl) (ea_cons ev_c ea_nil)) fun H1 e1 Q k => ⟨_, rfl, .inl ⟨o.2, rfl, kit_ty (by decide +kernel)⟩, k _ (Ex.refl _)⟩) fun _ => ?_
      exact ev_notV (ev_cb (ea_cons (ev_ix (ev_var rfl) (st_of ha1) rfl) (ea_cons ev_c ea_nil)) fun H1 e1 Q k => ⟨_, rfl, .inl ⟨o.2, rfl, kit_ty (by decide +kernel)⟩, k _ (Ex.refl _)⟩)
end
end Pn
set_option maxHeartbeats 200000
/-! lets_offs, first_off -/
namespace Pn
open PySem L2 Evl
theorem et_inO {P : Program} {w : World} {σ : L2.St} {H : Hp} {neg : Bool} {ta tb : TE} {d : Addr} {R : List RowV} {n : Nm} {x : V} (hx : Ev ta σ H x) (hd : Ev tb σ H (.ref d)) (tx : TD H (nmD n) x) (h : H d = some (DicO P w d R)) (hs : (d == sysModules) = false) (ks : KsV H R) :
    EvT (tTest (tOp (rInO P w neg) ta tb)) σ H (if neg then !(atV R (some (nmK n))).isSome else (atV R (some (nmK n))).isSome) :=
  et_test (ev_op hx hd fun H1 e Q k => ⟨d, R, some (nmK n), rfl, hs, e _ _ h, ks.mono (Tk.ex e), (tx.mono (Tk.ex e)).key, k _ (Ex.refl _)⟩)
theorem papM_names (p : Str) (one : Option Nm) (other : Nm) (b : List Page) : ((papM p one other b).map (·.1)).Sublist (b.map (·.1)) := by
  unfold papM
  rw [List.map_map]
  exact (List.filter_sublist).map _
def absI (i : Int) : Int := if i < 0 then -i else i
section
variable {P : Program} {w : World} {K : PySem.W.Frag} {mg : Str → Option Value} {base : Heap}
def spLets : Sp := fun vs H Q _ => ∃ (a t : Addr) (p : Str) (x y : V) (b : List Page) (xs ys : List V) (one : Option Nm) (other : Nm) (n1 n2 : Int), vs = [.ref a, .str p, x, y, .ref t] ∧ PlT H a xs ∧ TDs H (b.map pageD) xs ∧ b.length ≤ 100 ∧ (b.map (·.1)).Nodup ∧ (∀ g ∈ b, g.2.ok) ∧
  OneV H one x ∧ TD H (nmD other) y ∧ PlT H t ys ∧ TDs H ((papM p one other b).map offD) ys ∧ (∀ g ∈ b, NmOk g.1) ∧ (b.map (·.1)).Pairwise (fun n m => ltN n m = true) ∧ Said b one n1 ∧ Said b (some other) n2 ∧
  ∀ H', Ex H H' → Q (.int (absI (n2 - n1 - ((papM p one other b).map (·.2)).sum))) H'
theorem ok_lets {f : Addr} {fd : FuncData} (F : Fun K "lets_offs" "lets_offs" dLets f fd) (T : Tx mg) (GP : Dfn P w K mg base 4 "is_part" ["thing"] spPart) (GO : Dfn P w K mg base 5 "off_paper" ["book", "place", "one", "other"] spOffp) (GS : Dfn P w K mg base 1 "said" ["book", "name"] spSaid) :
    FnOk P w K mg base CX0 6 f fd ["book", "place", "one", "other", "thing"] spLets := by
  refine F.ok cLets (fun vs H Q E h => ?_) (fun cdv A outer s H vs Q E hr h => ?_)
  · obtain ⟨_, _, _, _, _, _, _, _, _, _, _, _, rfl, _⟩ := h
    rfl
  · obtain ⟨a, t, p, x1, x2, b, xs, ys, one, other, n1, n2, rfl, pl, td, len, nd, ok, h1, h2, plt, ty, nok, srt, s1, s2, q⟩ := h
    refine ⟨_, pss_cons (ps_if (PW.pt (pw_or (pt_not (pt_val (pe_callB (cr_isT (c := "tuple") (b := true)) (by rfl) T.isi (by decide +kernel) (pa_cons (pv 4) (pa_cons (pe_bltn (v := .ty "tuple") (by rfl) T.tuple (by decide +kernel) rfl) pa_nil)))))
          (pw_or1 (pt_not (pt_val (pe_callB (cr_all rfl) (by rfl) T.all (by decide +kernel) (pa_cons
            (pe_lc (own := [("part", 5)]) (g := gName 5) (tt := tYes) rfl cLets.nd (pi_tup (pv 4)) (blkOk_by (N := ["book", "place", "one", "other", "thing", "part", "due", "k", "name", "many", "told"]) (sc := defScope dLets) (by decide +kernel))
              (fun _ _ _ _ _ => pg_name (i := 5) cLets.nd rfl (Or.inl rfl)) (fun _ _ _ _ _ => pts_nil) (fun _ _ _ _ _ => pe_call GP.ok (hr.mono (by decide)) rfl GP.at_ GP.kp GP.bd .nil pass0 (pa_cons (pv 5) pa_nil))) pa_nil))))))) pss_never pss_nil)
      (pss_cons (ps_set (i := 6) cLets.nd rfl (Or.inl rfl) (pe_callTy (cr_dictO rfl hr.units) (by rfl) T.dict (by decide +kernel) (pa_cons (pe_call GO.ok hr rfl GO.at_ GO.kp GO.bd .nil pass0 (pa_cons (pv 0) (pa_cons (pv 1) (pa_cons (pv 2) (pa_cons (pv 3) pa_nil))))) pa_nil)))
      (pss_cons (ps_for PassesOwn.never rfl (pi_range1 rfl T.range (pa_cons (pe_callB call_len_seq (by rfl) T.len PySem.boot_len (pa_cons (pv 4) pa_nil)) pa_nil)) (pg_name (i := 7) cLets.nd rfl (Or.inl rfl))
        (pss_cons (ps_asg (pe_ix ix_tup (pv 4) (pv 7) (fun _ _ => rfl)) (pg_tup rfl (pgs_cons (pg_name (i := 8) cLets.nd rfl (.inl rfl)) (pgs_cons (pg_name (i := 9) cLets.nd rfl (.inl rfl)) pgs_nil))))
        (pss_cons (ps_if (PW.pt (pw_or (pt_cmpR (op_ninO hr.units) (pv 8) (pv 6) (by rfl)) (pw_or1 (PW.pt (pw_and (pt_cmpR op_gt (pv 7) pe_int (nomark _)) (pw_and1 (pt_cmpR (op_leD hr.units) (pv 8) (pe_ix ix_tup (pe_ix ix_tup (pv 4) (pe_op op_sub (pv 7) pe_int) (fun _ _ => rfl)) pe_int (fun _ _ => rfl)) (nomark _)))))))) pss_never pss_nil)
        (pss_one (ps_if (pt_cmpR op_ne (pv 9) (pe_ix (ix_o hr.units) (pv 6) (pv 8) (fun _ _ => rfl)) (nomark _)) pss_never pss_nil)))))
      (pss_cons (ps_set (i := 10) cLets.nd rfl (Or.inl rfl) (pe_callTy (cr_dictO rfl hr.units) (by rfl) T.dict (by decide +kernel) (pa_cons (pv 4) pa_nil)))
      (pss_cons (ps_for PassesOwn.never rfl (pi_range1 rfl T.range (pa_cons (pe_callB call_len_seq (by rfl) T.len PySem.boot_len (pa_cons (pv 0) pa_nil)) pa_nil)) (pg_name (i := 7) cLets.nd rfl (Or.inl rfl))
        (pss_one (ps_if (PW.pt (pw_and (pt_cmpR (op_inO hr.units) (pe_ix ix_tup (pe_ix ix_tup (pv 0) (pv 7) (fun _ _ => rfl)) pe_int (fun _ _ => rfl)) (pv 6) (by rfl)) (pw_and1 (pt_cmpR (op_ninO hr.units) (pe_ix ix_tup (pe_ix ix_tup (pv 0) (pv 7) (fun _ _ => rfl)) pe_int (fun _ _ => rfl)) (pv 10) (by rfl))))) pss_never pss_nil)))
      (pss_one (ps_ret (pe_callB call_abs (by rfl) T.abs (by decide +kernel) (pa_cons (pe_op op_sub (pe_op op_sub (pe_call GS.ok (hr.mono (by decide)) rfl GS.at_ GS.kp GS.bd .nil pass0 (pa_cons (pv 0) (pa_cons (pv 3) pa_nil))) (pe_call GS.ok (hr.mono (by decide)) rfl GS.at_ GS.kp GS.bd .nil pass0 (pa_cons (pv 0) (pa_cons (pv 2) pa_nil))))
          (pe_callB (cr_sum rfl) (by rfl) T.sum (by decide +kernel) (pa_cons
            (pe_lc (own := [("name", 8), ("many", 9)]) (tt := tYes) rfl cLets.nd (pi_tup (pv 4)) (blkOk_by (N := ["book", "place", "one", "other", "thing", "part", "due", "k", "name", "many", "told"]) (sc := defScope dLets) (by decide +kernel))
              (fun _ _ _ _ _ => pgc2 K (i := 8) (j := 9) rfl cLets.nd rfl rfl rfl (.inl rfl) (.inl rfl) rfl rfl) (fun _ _ _ _ _ => pts_nil) (fun _ _ _ _ _ => pv 9)) pa_nil))) pa_nil)))))))), ?_⟩
    have lx := Bk.len td
    have ly : ys.length = (papM p one other b).length := by rw [ty.length, List.length_map]
    have pm_len := papM_len p one other b
    have pm_nm : ∀ o ∈ papM p one other b, NmOk o.1 := fun o ho => by
      have h := (papM_names p one other b).subset (List.mem_map.mpr ⟨o, ho, rfl⟩)
      obtain ⟨g, hg, e⟩ := List.mem_map.mp h
      rw [← e]
      exact nok g hg
    have pm_nd : ((papM p one other b).map (·.1)).Nodup := List.Nodup.sublist (papM_names p one other b) nd
    have pm_srt : ((papM p one other b).map (·.1)).Pairwise (fun n m => ltN n m = true) := List.Pairwise.sublist (papM_names p one other b) srt
    -- the i-th part
    have part : ∀ {H1 : Hp} {i : Nat} {x : V}, Ex H H1 → ys[i]? = some x → ∃ o c y, (papM p one other b)[i]? = some o ∧ x = .ref c ∧ H1 c = some (.tup [y, .int o.2]) ∧ TD H1 (nmD o.1) y ∧ TD H1 (offD o) x := fun {H1 i x} e hi => by
      obtain ⟨d, hd, tx⟩ := TDs.getx ty hi
      rw [List.getElem?_map] at hd
      cases ho : (papM p one other b)[i]? with
      | none => rw [ho] at hd; cases hd
      | some o =>
        rw [ho] at hd
        have ed : offD o = d := Option.some.inj hd
        rw [← ed] at tx
        have t1 := tx.mono (Tk.ex e)
        obtain ⟨c, y, rfl, hc, hy⟩ := t1.off
        exact ⟨o, c, y, rfl, rfl, hc, hy, t1⟩
    refine q_when (b := false) ?_ (fun z => nomatch z) (fun _ H1 e1 => ?_)
    · refine et_or (a := false) (b := false) (et_not (a := true) (et_B (ev_cb (ea_cons (ev_var rfl) (ea_cons ev_c ea_nil)) fun H1 e1 Q k => ⟨t, _, rfl, (plt.ex e1).sq, kit_ty (by decide +kernel), k _ (Ex.refl _)⟩))) fun _ => ?_
      refine et_not (a := true) (et_B fun H1 e1 Q k => r_cb (r_cons (lcT (xs := ys) (fun i acc _ => acc = List.replicate i (V.bl true)) (fun _ _ _ _ _ h => h) (by omega) ?_ (fun _ _ => rfl) (fun i x H2 hi e2 => ?_) fun p2 H2 acc hp e2 h2 _ hR => ?_)))
      · exact SrcT.ev (ev_var rfl) (plt.ex e1).sq
      · obtain ⟨o, c, y, ho, rfl, hc, hy, tx⟩ := part (e1.trans e2) hi
        refine ⟨_, fun N k => k, rfl, Turn.yes fun H3 e3 Q k => ?_⟩
        refine r_call ⟨_, rfl, _, o, rfl, tx.mono (Tk.ex e3), pm_nm o (List.mem_of_getElem? ho), fun H4 e4 => k _ _ e4 fun acc ha => ?_⟩
        show acc ++ [_] = _
        rw [show acc = _ from ha, List.replicate_succ']
      · subst hR
        refine ⟨p2, List.replicate ys.length true, rfl, ?_, ?_⟩
        · rw [List.map_replicate]
          exact SqL.of h2
        · have e : (List.replicate ys.length true).all id = true := by simp
          rw [e]
          exact k _ e2
    -- due
    refine r_seq (r_set (r_cb (r_cons (r_call ⟨_, rfl, _, rfl, _, rfl, _, rfl, a, p, x1, x2, b, xs, one, other, rfl, pl.ex e1, td.mono (Tk.ex e1), len, nd, ok, h1.mono (Tk.ex e1), h2.mono (Tk.ex e1), fun H2 t2 ys2 e2 plt2 ty2 => ?_⟩))))
    obtain ⟨R, r1, r2, r3⟩ := rows_off ty2
    have ndR : (R.map (·.1)).Nodup := by rw [r2]; exact keys_nd pm_nd
    refine ⟨t2, ys2, R, rfl, .inr plt2, r1, ndR, fun du hdu hsu => ?_⟩
    dsimp only
    generalize hH3 : upd H2 du (DicO _ _ du R) = H3
    have e3 : Ex H H3 := by rw [← hH3]; exact (e1.trans e2).trans (Ex.new hdu)
    have hdu3 : H3 du = some (DicO P w du R) := by rw [← hH3]; exact upd_same
    have ks3 : KsV H3 R := by rw [← hH3]; exact (ksv_of r1).mono (tk_new hdu)
    have inR : ∀ o ∈ papM p one other b, (atV R (some (nmK o.1))).isSome = true := fun o ho => by
      rw [atV_mem, r2]
      exact List.mem_map.mpr ⟨o, ho, rfl⟩
    have atR : ∀ o ∈ papM p one other b, atV R (some (nmK o.1)) = some (.int o.2) := fun o ho => by
      obtain ⟨r, q1, q2, q3⟩ := r3 o ho
      rw [← q2, ← q3]
      exact atV_get ndR q1
    -- the parts one by one
    refine q_forR1 (n := (ys.length : Int)) (ea_cons (ev_cb (ea_cons (ev_var rfl) ea_nil) fun H4 e4 Q k => ⟨t, ys, rfl, .inr (plt.ex (e3.trans e4)).sq, k _ (Ex.refl _)⟩) ea_nil) ⟨by omega, by omega⟩
      (fun i σ' H' => ∃ y5 y7 y8 y9, σ' = [some (.ref a), some (.str p), some x1, some x2, some (.ref t), y5, some (.ref du), y7, y8, y9, none] ∧ Ex H3 H') (fun H4 e4 => ⟨_, _, _, _, rfl, e4⟩) ?_ ?_
    · rintro i σ' H' hi ⟨y5, y7, y8, y9, rfl, e⟩
      have li : i < ys.length := by omega
      have gi := List.getElem?_eq_getElem li
      have e0 := e3.trans e
      obtain ⟨o, c, y, ho, ex, hc, hy, _⟩ := part e0 gi
      have om := List.mem_of_getElem? ho
      refine r_seq (r_asg (r_op ⟨_, rfl, _, rfl, t, ys, (i : Int), ys[i], rfl, rfl, (plt.ex e0).sq, atI_nat gi, ?_⟩))
      rw [ex]
      refine g2 (SqT.of hc) _ ?_
      dsimp only
      refine q_when (b := false) ?_ (fun z => nomatch z) (fun _ H5 e5 => ?_)
      · refine et_or (a := false) (b := false) (et_is (et_inO (ev_var rfl) (ev_var rfl) hy (e _ _ hdu3) hsu (ks3.mono (Tk.ex e))) (by rw [inR o om]; rfl)) fun _ => ?_
        refine et_is (et_and (a := decide ((i : Int) > 0)) (b := false) (et_test (ev_op (ev_var rfl) ev_c rv_I0)) fun hpos => ?_) (by simp)
        have ip : 0 < i := by
          have := of_decide_eq_true hpos
          omega
        obtain ⟨j, rfl⟩ : ∃ j, i = j + 1 := ⟨i - 1, by omega⟩
        have gj := List.getElem?_eq_getElem (show j < ys.length by omega)
        obtain ⟨o', c', y', ho', ex', hc', hy', _⟩ := part e0 gj
        have lt : ltN o'.1 o.1 = true := by
          have q1 : ((papM p one other b).map (·.1))[j]? = some o'.1 := by rw [List.getElem?_map, ho']; rfl
          have q2 : ((papM p one other b).map (·.1))[j + 1]? = some o.1 := by rw [List.getElem?_map, ho]; rfl
          obtain ⟨l1, e1⟩ := List.getElem?_eq_some_iff.mp q1
          obtain ⟨l2, e2⟩ := List.getElem?_eq_some_iff.mp q2
          have := List.pairwise_iff_getElem.mp pm_srt j (j + 1) l1 l2 (Nat.lt_succ_self _)
          rw [e1, e2] at this
          exact this
        have ej : (((j + 1 : Nat) : Int) - 1) = (j : Int) := by omega
        refine et_is (et_test (ev_op (ev_var rfl) (ev_ix (ev_op (ev_var rfl) (ev_op (ev_var rfl) ev_c rv_I0) (rv_ixT (plt.ex e0).sq (by rw [ej]; exact atI_nat gj)) |> fun h => ev_is h ex') (st_of hc') rfl) (fun H6 e6 Q k => ⟨nmD o.1, nmD o'.1, hy.mono (Tk.ex e6), hy'.mono (Tk.ex e6), alike_nm _ _, fun z => (nomatch z), depth_nm _, k _ (Ex.refl _)⟩))) ?_
        show (!ltN o'.1 o.1) = false
        rw [lt]
        rfl
      · refine s_when (b := false) ?_ (fun z => nomatch z) (fun _ H6 e6 => ⟨_, _, _, _, rfl, (e.trans e5).trans e6⟩)
        refine et_is (et_ne (ev_var rfl) (y := .int o.2) (ev_op (ev_var rfl) (ev_var rfl) fun H6 e6 Q k => ⟨du, R, some (nmK o.1), .int o.2, rfl, e6 _ _ (e5 _ _ (e _ _ hdu3)), ks3.mono (Tk.ex ((e.trans e5).trans e6)), (hy.mono (Tk.ex (e5.trans e6))).key, atR o om, k _ (Ex.refl _)⟩) rfl) (by simp)
    · rintro σ' H4 ⟨y5, y7, y8, y9, rfl, e34⟩
      have e4 := e3.trans e34
      obtain ⟨R2, v1, v2, v3⟩ := rows_off (ty.mono (Tk.ex e4))
      refine r_seq (r_set (r_cb (r_cons ⟨_, rfl, t, ys, R2, rfl, .inr (plt.ex e4), v1, by rw [v2]; exact keys_nd pm_nd, fun dt hdt hst => ?_⟩)))
      dsimp only
      generalize hH5 : upd H4 dt (DicO _ _ dt R2) = H5
      have e45 : Ex H4 H5 := by rw [← hH5]; exact Ex.new hdt
      have hdt5 : H5 dt = some (DicO P w dt R2) := by rw [← hH5]; exact upd_same
      have ks5 : KsV H5 R2 := (ksv_of v1).mono (Tk.ex e45)
      have e5 := e4.trans e45
      have hdu5 := e45 _ _ (e34 _ _ hdu3)
      have ksu5 : KsV H5 R := ks3.mono (Tk.ex (e34.trans e45))
      refine q_forR1 (n := (xs.length : Int)) (ea_cons (ev_cb (ea_cons (ev_var rfl) ea_nil) fun H6 e6 Q k => ⟨a, xs, rfl, .inr (pl.ex (e5.trans e6)).sq, k _ (Ex.refl _)⟩) ea_nil) ⟨by omega, by omega⟩
        (fun i σ' H' => ∃ y5 y7 y8 y9, σ' = [some (.ref a), some (.str p), some x1, some x2, some (.ref t), y5, some (.ref du), y7, y8, y9, some (.ref dt)] ∧ Ex H5 H') (fun H6 e6 => ⟨_, _, _, _, rfl, e6⟩) ?_ ?_
      · rintro i σ' H' hi ⟨y5, y7, y8, y9, rfl, e⟩
        have li : i < xs.length := by omega
        have gi := List.getElem?_eq_getElem li
        have e0 := e5.trans e
        obtain ⟨g, c, y, z, d, zs, hg, ex, hc, hy, hz, rfl, hd, h0⟩ := Bk.page td gi
        have nm : ∀ {H6 : Hp}, Ex H' H6 → Ev (tOp (rIxT K) (tOp (rIxT K) (tVar 0) (tVar 7)) (tC (.int 0))) [some (.ref a), some (.str p), some x1, some x2, some (.ref t), y5, some (.ref du), some (.int (i : Int)), y8, y9, some (.ref dt)] H6 y := fun {H6} e6 =>
          ev_ix (ev_is (ev_op (ev_var rfl) (ev_var rfl) (rv_ixT (pl.ex (e0.trans e6)).sq (atI_nat gi))) ex) (st_of (e6 _ _ (e0 _ _ hc))) rfl
        refine s_when (b := false) ?_ (fun z => nomatch z) (fun _ H6 e6 => ⟨_, _, _, _, rfl, e.trans e6⟩)
        refine et_is (et_and (a := (atV R (some (nmK g.1))).isSome) (b := false) (et_inO (neg := false) (nm (Ex.refl _)) (ev_var rfl) (hy.mono (Tk.ex e0)) (e _ _ hdu5) hsu (ksu5.mono (Tk.ex e))) fun hin => ?_) (by simp)
        refine et_is (et_inO (neg := true) (nm (Ex.refl _)) (ev_var rfl) (hy.mono (Tk.ex e0)) (e _ _ hdt5) hst (ks5.mono (Tk.ex e))) ?_
        have : (atV R2 (some (nmK g.1))).isSome = true := by
          rw [atV_mem, v2, ← r2, ← atV_mem]
          exact hin
        rw [this]
        rfl
      · rintro σ' H6 ⟨y5, y7, y8, y9, rfl, e56⟩
        have e6 := e5.trans e56
        refine s_ret (v := .int (absI (n2 - n1 - ((papM p one other b).map (·.2)).sum))) ?_ fun H7 e7 => q _ (e6.trans e7)
        refine ev_cb (vs := [.int (n2 - n1 - ((papM p one other b).map (·.2)).sum)]) (ea_cons (ev_op (x := .int (n2 - n1)) (y := .int ((papM p one other b).map (·.2)).sum) (ev_op (x := .int n2) (y := .int n1) ?_ ?_ ?_) ?_ ?_) ea_nil) ?_
        · exact ev_call (ea_cons (ev_var rfl) (ea_cons (ev_var rfl) ea_nil)) fun H7 e7 Q k E => ⟨a, x2, b, xs, some other, n2, rfl, pl.ex (e6.trans e7), td.mono (Tk.ex (e6.trans e7)), nd, h2.mono (Tk.ex (e6.trans e7)), s2, k⟩
        · exact ev_call (ea_cons (ev_var rfl) (ea_cons (ev_var rfl) ea_nil)) fun H7 e7 Q k E => ⟨a, x1, b, xs, one, n1, rfl, pl.ex (e6.trans e7), td.mono (Tk.ex (e6.trans e7)), nd, h1.mono (Tk.ex (e6.trans e7)), s1, k⟩
        · exact rv_I0
        rotate_left
        · exact rv_I0
        · exact fun H7 e7 Q k => ⟨_, rfl, k _ (Ex.refl _)⟩
        refine fun H7 e7 Q k => r_cb (r_cons (lcT (xs := ys) (fun i acc _ => acc = (((papM p one other b).take i).map fun o => V.int o.2)) (fun _ _ _ _ _ h => h) (by omega) ?_ (fun _ _ => rfl) (fun i x H8 hi e8 => ?_) fun p8 H8 acc hp e8 h8 _ hR => ?_))
        · exact SrcT.ev (ev_var rfl) (plt.ex (e6.trans e7)).sq
        · obtain ⟨o, c, y, ho, rfl, hc, hy, tx⟩ := part ((e6.trans e7).trans e8) hi
          refine ⟨_, fun N k => g2 (SqT.of hc) N k, rfl, Turn.yes fun H9 e9 Q k => ?_⟩
          refine ⟨_, rfl, k _ _ (Ex.refl _) fun acc ha => ?_⟩
          show acc ++ [_] = _
          rw [show acc = _ from ha, List.take_add_one, ho, List.map_append]
          rfl
        · refine ⟨p8, (papM p one other b).map (·.2), rfl, ?_, k _ e8⟩
          rw [hR, ly, List.take_length] at h8
          rw [List.map_map]
          exact SqL.of h8
end
end Pn
set_option maxHeartbeats 2000000
/-! first_off, _law_net, _law_same -/
namespace Pn
open PySem L2 Evl
def ahD : Option Nm → PyData
  | none => .none
  | some n => nmD n
theorem OneV.td {H : Hp} {o : Option Nm} {x : V} (h : OneV H o x) : TD H (ahD o) x := by
  cases o <;> exact h
/-- the first that is off -/
def foM : Option Nm → List (Nm × Int) → Option (Option Nm × Nm)
  | _, [] => none
  | ah, o :: r => if o.2 = 0 then foM (some o.1) r else some (ah, o.1)
def FoV (H : Hp) : Option (Option Nm × Nm) → V → Prop
  | none, v => v = .non
  | some q, v => TD H (.tuple [ahD q.1, nmD q.2]) v
section
variable {P : Program} {w : World} {K : PySem.W.Frag} {mg : Str → Option Value} {base : Heap}
def spFirst : Sp := fun vs H Q _ => ∃ (a : Addr) (p : Str) (b : List Page) (xs : List V), vs = [.ref a, .str p] ∧ PlT H a xs ∧ TDs H (b.map pageD) xs ∧ b.length ≤ 100 ∧ (b.map (·.1)).Nodup ∧ (∀ g ∈ b, g.2.ok) ∧
  ∀ H' v, Ex H H' → FoV H' (foM none (offsM p b 0)) v → Q v H'
theorem ok_first {f : Addr} {fd : FuncData} (F : Fun K "first_off" "first_off" dFirst f fd) (T : Tx mg) (GO : Dfn P w K mg base 5 "offs" ["book", "place"] spOffs) : FnOk P w K mg base CX0 6 f fd ["book", "place"] spFirst := by
  refine F.ok cFirst (fun vs H Q E h => ?_) (fun cdv A outer s H vs Q E hr h => ?_)
  · obtain ⟨_, _, _, _, rfl, _⟩ := h
    rfl
  · obtain ⟨a, p, b, xs, rfl, pl, td, len, nd, ok, q⟩ := h
    refine ⟨_, pss_cons (ps_asg (pe_tup (pa_cons pe_non (pa_cons pe_int pa_nil))) (pg_tup rfl (pgs_cons (pg_name (i := 2) cFirst.nd rfl (.inl rfl)) (pgs_cons (pg_name (i := 3) cFirst.nd rfl (.inl rfl)) pgs_nil))))
      (pss_cons (ps_for PassesOwn.never rfl (pi_list (pe_call GO.ok hr rfl GO.at_ GO.kp GO.bd .nil pass0 (pa_cons (pv 0) (pa_cons (pv 1) pa_nil)))) (pg_tup rfl (pgs_cons (pg_name (i := 4) cFirst.nd rfl (.inl rfl)) (pgs_cons (pg_name (i := 5) cFirst.nd rfl (.inl rfl)) pgs_nil)))
        (pss_cons (ps_if (pt_cmpR op_ne (pv 5) (pv 3) (nomark _)) (pss_one (ps_ret (pe_tup (pa_cons (pv 2) (pa_cons (pv 4) pa_nil))))) pss_nil)
          (pss_one (ps_set (i := 2) cFirst.nd rfl (Or.inl rfl) (pv 4)))))
      (pss_one (ps_ret pe_non))), ?_⟩
    refine r_seq (r_asg ⟨by show 2 ≤ sizeLine; decide, fun m hm => g2 (SqT.of upd_same) _ ?_⟩)
    dsimp only
    generalize hH1 : upd H m (.tup [V.non, V.int 0]) = H1
    have e1 : Ex H H1 := by rw [← hH1]; exact Ex.new hm
    refine r_seq (r_forL ⟨_, rfl, _, rfl, a, p, b, xs, rfl, pl.ex e1, td.mono (Tk.ex e1), len, nd, ok, fun H2 l ys e2 nl hl ty => ?_⟩)
    have e02 := e1.trans e2
    have ly : ys.length = (offsM p b 0).length := by rw [ty.length, List.length_map]
    refine s_forL (xs := ys) ev_c (SqL.of hl) (fun i σ' H' => ∃ ah xa y4 y5, σ' = [some (.ref a), some (.str p), some xa, some (.int 0), y4, y5] ∧ Ex H2 H' ∧ OneV H' ah xa ∧ foM ah ((offsM p b 0).drop i) = foM none (offsM p b 0))
      (fun H3 e3 => ⟨none, .non, none, none, rfl, e3, rfl, rfl⟩) (fun i σ' H' _ ⟨_, _, _, _, _, h, _⟩ => SqL.of (h _ _ hl)) ?_ ?_
    · rintro i x σ' H' hi ⟨ah, xa, y4, y5, rfl, e, hah, hfo⟩
      obtain ⟨d, hd, tx⟩ := TDs.getx ty hi
      rw [List.getElem?_map] at hd
      cases ho : (offsM p b 0)[i]? with
      | none => rw [ho] at hd; cases hd
      | some o =>
        rw [ho] at hd
        have ed : offD o = d := Option.some.inj hd
        rw [← ed] at tx
        obtain ⟨c, y, rfl, hc, hy⟩ := (tx.mono (Tk.ex e)).off
        obtain ⟨li, eo⟩ := List.getElem?_eq_some_iff.mp ho
        rw [List.drop_eq_getElem_cons li, eo] at hfo
        refine g2 (SqT.of hc) _ ?_
        refine q_when (b := !decide (V.int o.2 = V.int 0)) (et_ne (ev_var rfl) (ev_var rfl) rfl) (fun hb H3 e3 => ?_) (fun hb H3 e3 => ?_)
        · have ne : ¬ o.2 = 0 := by simpa using hb
          refine s_retU (xs := [xa, y]) (eu_tup (ea_cons (ev_var rfl) (ea_cons (ev_var rfl) ea_nil)) (by show 2 ≤ 100000; decide)) fun q' H4 _ e4 hq => ?_
          have f1 : foM none (offsM p b 0) = some (ah, o.1) := by
            rw [← hfo]
            exact if_neg ne
          refine q _ _ (((e02.trans e).trans e3).trans e4) ?_
          rw [f1]
          exact TD.tup hq (TDs.cons ((hah.mono (Tk.ex (e3.trans e4))).td) (TDs.one (hy.mono (Tk.ex (e3.trans e4)))))
        · have ez : o.2 = 0 := by simpa using hb
          refine s_asg (ev_var rfl) fun H4 e4 => ⟨some o.1, y, some y, some (.int o.2), rfl, (e.trans e3).trans e4, hy.mono (Tk.ex (e3.trans e4)), ?_⟩
          rw [← hfo]
          exact (if_pos ez).symm
    · rintro σ' H' ⟨ah, xa, y4, y5, rfl, e, hah, hfo⟩
      rw [ly, List.drop_length] at hfo
      dsimp only
      refine s_ret ev_c fun H3 e3 => q _ _ ((e02.trans e).trans e3) ?_
      rw [← hfo]
      exact rfl
/-! ### _law_net -/
def oneLt (one : Option Nm) (n : Nm) : Bool := match one with | none => true | some o => ltN o n
def netOk (p : Str) (one : Option Nm) (other : Nm) (g : Page) : Bool := oneLt one g.1 && (ltN g.1 other && g.2.at_ p)
def netM (p : Str) (one : Option Nm) (other : Nm) (b : List Page) : Int := ((b.filter (netOk p one other)).map fun g => bringsM g.2 p).sum
def sizM (p : Str) (one : Option Nm) (other : Nm) (b : List Page) : Int := ((b.filter (netOk p one other)).map fun g => g.2.size).sum
def spNet (K : PySem.W.Frag) : Sp := fun vs H Q _ => ∃ (l : Addr) (p : Str) (x y : V) (b : List Page) (xs : List V) (one : Option Nm) (other : Nm), vs = [.ref l, .str p, x, y] ∧ SqL K H l xs ∧ TDs H (b.map pageD) xs ∧ b.length ≤ 100 ∧ (∀ g ∈ b, g.2.ok) ∧ OneV H one x ∧ TD H (nmD other) y ∧
  ∀ H' t, Ex H H' → H' t = some (.tup [.int (netM p one other b), .int (sizM p one other b)]) → Q (.ref t) H'
theorem filt_snoc {α : Type} (f : Page → Bool) (h : Page → Int) (b : List Page) (g : Page) : (((b ++ [g]).filter f).map h).sum = ((b.filter f).map h).sum + (if f g = true then h g else 0) := by
  rw [List.filter_append, List.map_append, List.sum_append, List.filter_cons]
  split <;> simp
theorem ok_net {f : Addr} {fd : FuncData} (F : Fun K "_law_net" "_law_net" dNet f fd) (T : Tx mg) : FnOk P w K mg base CX0 1 f fd ["_law_pages", "_law_place", "_law_one", "_law_other"] (spNet K) := by
  refine F.ok cNet (fun vs H Q E h => ?_) (fun cdv A outer s H vs Q E hr h => ?_)
  · obtain ⟨_, _, _, _, _, _, _, _, rfl, _⟩ := h
    rfl
  · obtain ⟨l, p, x1, x2, b, xs, one, other, rfl, hl, td, len, ok, h1, h2, q⟩ := h
    refine ⟨_, pss_cons (ps_asg (pe_tup (pa_cons pe_int (pa_cons pe_int pa_nil))) (pg_tup rfl (pgs_cons (pg_name (i := 4) cNet.nd rfl (.inl rfl)) (pgs_cons (pg_name (i := 5) cNet.nd rfl (.inl rfl)) pgs_nil))))
      (pss_cons (ps_for PassesOwn.never rfl (pi_list (pv 0)) (pg_tup rfl (pgs_cons (pg_name (i := 6) cNet.nd rfl (.inl rfl)) (pgs_cons (pg_name (i := 7) cNet.nd rfl (.inl rfl)) pgs_nil)))
        (pss_one (ps_if (PW.pt (pw_and (PW.pt (pw_or (pt_cmpR op_isN (pv 2) pe_non (nomark _)) (pw_or1 (pt_cmpR (op_ltD hr.units) (pv 2) (pv 6) (nomark _))))) (pw_and (pt_cmpR (op_ltD hr.units) (pv 6) (pv 3) (nomark _)) (pw_and (pt_cmpR op_ne (pe_ix ix_tup (pv 7) pe_int (fun _ _ => rfl)) pe_str (nomark _))
            (pw_and1 (pt_cmpR op_in_seq (pv 1) (pe_slice sl_tup (pv 7) (po_some pe_int) (po_some pe_int)) (by rfl)))))))
          (pss_cons (ps_set (i := 8) cNet.nd rfl (Or.inl rfl) (pe_ix ix_tup (pv 7) pe_int (fun _ _ => rfl)))
          (pss_cut (ps_if (pt_cmpR op_eq (pe_ix ix_tup (pv 7) pe_int (fun _ _ => rfl)) pe_str (nomark _)) (pss_one (ps_set (i := 8) cNet.nd rfl (Or.inl rfl) (pe_callB (cr_sum rfl) (by rfl) T.sum (by decide +kernel) (pa_cons
              (pe_lc (own := [("_law_series", 9), ("_law_first", 10), ("_law_end", 11)]) (tt := tYes) rfl cNet.nd (pi_tup (pe_ix ix_tup (pv 7) pe_int (fun _ _ => rfl))) (blkOk_by (N := ["_law_pages", "_law_place", "_law_one", "_law_other", "_law_net_here", "_law_many", "_law_name_here", "_law_deed", "_law_size", "_law_series", "_law_first", "_law_end"]) (sc := defScope dNet) (by decide +kernel))
                (fun _ _ _ _ _ => pgc3 K (i := 9) (j := 10) (l := 11) rfl cNet.nd rfl rfl rfl rfl (.inl rfl) (.inl rfl) (.inl rfl) rfl rfl rfl) (fun _ _ _ _ _ => pts_nil) (fun _ _ _ _ _ => pe_op op_sub (pv 11) (pv 10))) pa_nil)))) pss_nil)
          (pss_cons (ps_set (i := 4) cNet.nd rfl (Or.inl rfl) (pe_op op_add (pv 4) (pe_ifExp (pt_cmpR op_eq (pe_ix ix_tup (pv 7) pe_int (fun _ _ => rfl)) (pv 1) (nomark _)) (pv 8) (pe_un un_neg (pv 8)))))
            (pss_one (ps_set (i := 5) cNet.nd rfl (Or.inl rfl) (pe_op op_add (pv 5) (pv 8))))))) pss_nil)))
      (pss_one (ps_ret (pe_tup (pa_cons (pv 4) (pa_cons (pv 5) pa_nil)))))), ?_⟩
    have lx := Bk.len td
    refine r_seq (r_asg ⟨by show 2 ≤ sizeLine; decide, fun m hm => g2 (SqT.of upd_same) _ ?_⟩)
    dsimp only
    generalize hH1 : upd H m (.tup [V.int 0, V.int 0]) = H1
    have e1 : Ex H H1 := by rw [← hH1]; exact Ex.new hm
    refine q_forL (xs := xs) (ev_var rfl) (ex_l e1 hl) (fun i σ' H' => ∃ y6 y7 y8 y9 y10 y11, σ' = [some (.ref l), some (.str p), some x1, some x2, some (.int (netM p one other (b.take i))), some (.int (sizM p one other (b.take i))), y6, y7, y8, y9, y10, y11] ∧ Ex H1 H')
      (fun H3 e3 => ⟨_, _, _, _, _, _, rfl, e3⟩) (fun i σ' H' _ ⟨_, _, _, _, _, _, _, h⟩ => ex_l (e1.trans h) hl) ?_ ?_
    · rintro i x σ' H' hi ⟨y6, y7, y8, y9, y10, y11, rfl, e⟩
      obtain ⟨g, c, y, z, d, zs, hg, rfl, hc, hy, hz, rfl, hd, h0⟩ := Bk.page td hi
      have e0 := e1.trans e
      have nS : netM p one other (b.take (i + 1)) = netM p one other (b.take i) + (if netOk p one other g = true then bringsM g.2 p else 0) := by
        unfold netM
        rw [List.take_add_one, hg]
        exact filt_snoc (α := Page) _ _ _ _
      have sS : sizM p one other (b.take (i + 1)) = sizM p one other (b.take i) + (if netOk p one other g = true then g.2.size else 0) := by
        unfold sizM
        rw [List.take_add_one, hg]
        exact filt_snoc (α := Page) _ _ _ _
      refine g2 (SqT.of (e0 _ _ hc)) _ ?_
      have oneT : ∀ {y8 y9 y10 y11 : Option V}, EvT (tOr (tTest (tOp (fun x y H Q => y = V.non ∧ Q (V.bl (decide (x = V.non))) H) (tVar 2) (tC .non))) (tTest (tOp rLtD (tVar 2) (tVar 6))))
          [some (.ref l), some (.str p), some x1, some x2, some (.int (netM p one other (b.take i))), some (.int (sizM p one other (b.take i))), some y, some (.ref d), y8, y9, y10, y11] H' (oneLt one g.1) := fun {y8 y9 y10 y11} => by
        cases one with
        | none =>
          have ex : x1 = .non := h1
          subst ex
          exact et_or (a := true) (b := false) (et_test (ev_op (ev_var rfl) ev_c (rv_val fun H1 _ Q q => ⟨rfl, q⟩))) fun z => nomatch z
        | some o =>
          obtain ⟨t, rfl, _⟩ := TD.nm h1
          exact et_is (et_or (a := false) (et_test (ev_op (ev_var rfl) ev_c (rv_val fun H1 _ Q q => ⟨rfl, q⟩))) fun _ => et_lt (X := (cxOf CX0 P w K mg base [] "" (defScope dNet) f cdv A outer s H E).nox) (ev_var rfl) (ev_var rfl) (TD.mono (Tk.ex e0) h1) (hy.mono (Tk.ex e0))) rfl
      have skip : netOk p one other g = false → ∀ {y8 y9 y10 y11 : Option V} {H5 : Hp}, Ex H' H5 → (∃ y6 y7 z8 z9 z10 z11, [some (.ref l), some (.str p), some x1, some x2, some (.int (netM p one other (b.take i))), some (.int (sizM p one other (b.take i))), some y, some (V.ref d), y8, y9, y10, y11] = [some (.ref l), some (.str p), some x1, some x2, some (.int (netM p one other (b.take (i + 1)))), some (.int (sizM p one other (b.take (i + 1)))), y6, y7, z8, z9, z10, z11] ∧ Ex H1 H5) := fun hb {y8 y9 y10 y11 H5} e5 => by
        rw [nS, sS, hb]
        refine ⟨some y, some (.ref d), y8, y9, y10, y11, ?_, e.trans e5⟩
        rw [if_neg (by decide), if_neg (by decide), Int.add_zero, Int.add_zero]
      -- the two sums behind size
      have tail : netOk p one other g = true → g.2.at_ p = true → ∀ {y9 y10 y11 : Option V} {H5 : Hp}, Ex H' H5 → g.2.to = g.2.to → ∀ (zt : atI zs 2 = some (.str g.2.to)) (D : Ends),
          (∀ σ5 H6, (∃ y6 y7 z8 z9 z10 z11, σ5 = [some (.ref l), some (.str p), some x1, some x2, some (.int (netM p one other (b.take (i + 1)))), some (.int (sizM p one other (b.take (i + 1)))), y6, y7, z8, z9, z10, z11] ∧ Ex H1 H6) → D.nx σ5 H6) →
          tSeq (tAsg (tOp (rI0 fun i j => V.int (i + j)) (tVar 4) (tIf (tTest (tOp rEq (tOp (rIxT K) (tVar 7) (tC (.int 2))) (tVar 1))) (tVar 8) (tUn (rU fun i => .int (-i)) (tVar 8)))) (gName 4)) (tAsg (tOp (rI0 fun i j => V.int (i + j)) (tVar 5) (tVar 8)) (gName 5)) D
            [some (.ref l), some (.str p), some x1, some x2, some (.int (netM p one other (b.take i))), some (.int (sizM p one other (b.take i))), some y, some (.ref d), some (.int g.2.size), y9, y10, y11] H5 := fun hb hat {y9 y10 y11 H5} e5 _ zt D k => by
        refine q_asg (v := .int (netM p one other (b.take i) + bringsM g.2 p)) ?_ fun H6 e6 => ?_
        · refine ev_op (ev_var rfl) ?_ rv_I0
          have eb : bringsM g.2 p = if g.2.to = p then g.2.size else 0 - g.2.size := if_pos hat
          rw [eb]
          refine ev_if (b := decide (V.str g.2.to = V.str p)) (et_eq (ev_ix (ev_var rfl) (st_of (e5 _ _ (e0 _ _ hd))) zt) (ev_var rfl) rfl) (fun h => ?_) (fun h => ?_)
          · rw [if_pos (by simpa using h)]
            exact ev_var rfl
          · rw [if_neg (by simpa using h), Int.zero_sub]
            exact ev_un (ev_var rfl) ru_neg
        · refine s_asg (v := .int (sizM p one other (b.take i) + g.2.size)) (ev_op (ev_var rfl) (ev_var rfl) rv_I0) fun H7 e7 => k _ _ ⟨some y, some (.ref d), some (.int g.2.size), y9, y10, y11, ?_, ((e.trans e5).trans e6).trans e7⟩
          rw [nS, sS, if_pos hb, if_pos hb]
          rfl
      obtain ⟨n, dd⟩ := g
      cases dd with
      | count q' k =>
        refine s_when (b := netOk p one other (n, .count q' k)) ?_ (fun hb => ?_) (fun hb H5 e5 => skip hb e5)
        · unfold netOk
          refine et_and oneT fun _ => et_and (et_lt (X := (cxOf CX0 P w K mg base [] "" (defScope dNet) f cdv A outer s H E).nox) (ev_var rfl) (ev_var rfl) (hy.mono (Tk.ex e0)) (h2.mono (Tk.ex e0))) fun _ => ?_
          exact et_and (a := false) (b := false) (et_is (et_nkind (ev_var rfl) (e0 _ _ hd) h0) (show (!decide (V.str "count" = V.str "count")) = false by decide +kernel)) fun z => nomatch z
        · exfalso
          unfold netOk at hb
          rw [show (Deed.count q' k).at_ p = false from rfl, Bool.and_false, Bool.and_false] at hb
          cases hb
      | bag c1 c2 k =>
        obtain ⟨d', ed, hd2⟩ := hz.bag
        injection ed with ed
        subst ed
        have ez := (hd.symm.trans hd2)
        injection ez with ez
        injection ez with ez
        subst ez
        refine s_when (b := netOk p one other (n, .bag c1 c2 k)) ?_ (fun hb H5 e5 => ?_) (fun hb H5 e5 => skip hb e5)
        · unfold netOk
          refine et_and oneT fun _ => et_and (et_lt (X := (cxOf CX0 P w K mg base [] "" (defScope dNet) f cdv A outer s H E).nox) (ev_var rfl) (ev_var rfl) (hy.mono (Tk.ex e0)) (h2.mono (Tk.ex e0))) fun _ => ?_
          refine et_and (a := true) (et_is (et_nkind (ev_var rfl) (e0 _ _ hd) h0) (show (!decide (V.str "bag" = V.str "count")) = true by decide +kernel)) fun _ => ?_
          exact et_test (ev_is (ev_inU (ev_var rfl) (eu_sl (ev_var rfl) (eo_some ev_c) (eo_some ev_c) (SqT.of (e0 _ _ hd)) (show ¬ (HT.sIx 4 0 (some 1) = 0 ∧ HT.sIx 4 4 (some 3) = 4) by decide)) rfl rfl) (by
            show V.bl (inV (.str p) [.str c1, .str c2]) = _
            rw [in2]))
        · have hat : (Deed.bag c1 c2 k).at_ p = true := by
            unfold netOk at hb
            rw [Bool.and_eq_true, Bool.and_eq_true] at hb
            exact hb.2.2
          refine q_asg (ev_ix (ev_var rfl) (SqT.of (e5 _ _ (e0 _ _ hd))) rfl) fun H6 e6 => ?_
          refine q_cut (M := fun σ5 H7 => σ5 = [some (.ref l), some (.str p), some x1, some x2, some (.int (netM p one other (b.take i))), some (.int (sizM p one other (b.take i))), some y, some (.ref d), some (.int k), y9, y10, y11] ∧ Ex H' H7) ?_ ?_
          · refine s_when (b := false) (et_is (et_kind (ev_var rfl) (e6 _ _ (e5 _ _ (e0 _ _ hd))) h0) (show decide (V.str "bag" = V.str "move") = false by decide +kernel)) (fun z => nomatch z) fun _ H7 e7 => ⟨rfl, (e5.trans e6).trans e7⟩
          · rintro σ5 H7 ⟨rfl, e7⟩
            exact tail hb hat e7 rfl rfl _ fun _ _ h => h
      | move c1 c2 rs =>
        obtain ⟨d', rb, rys, ed, hd2, hrb, trs⟩ := hz.move
        injection ed with ed
        subst ed
        have ez := (hd.symm.trans hd2)
        injection ez with ez
        injection ez with ez
        subst ez
        refine s_when (b := netOk p one other (n, .move c1 c2 rs)) ?_ (fun hb H5 e5 => ?_) (fun hb H5 e5 => skip hb e5)
        · unfold netOk
          refine et_and oneT fun _ => et_and (et_lt (X := (cxOf CX0 P w K mg base [] "" (defScope dNet) f cdv A outer s H E).nox) (ev_var rfl) (ev_var rfl) (hy.mono (Tk.ex e0)) (h2.mono (Tk.ex e0))) fun _ => ?_
          refine et_and (a := true) (et_is (et_nkind (ev_var rfl) (e0 _ _ hd) h0) (show (!decide (V.str "move" = V.str "count")) = true by decide +kernel)) fun _ => ?_
          exact et_test (ev_is (ev_inU (ev_var rfl) (eu_sl (ev_var rfl) (eo_some ev_c) (eo_some ev_c) (SqT.of (e0 _ _ hd)) (show ¬ (HT.sIx 4 0 (some 1) = 0 ∧ HT.sIx 4 4 (some 3) = 4) by decide)) rfl rfl) (by
            show V.bl (inV (.str p) [.str c1, .str c2]) = _
            rw [in2]))
        · have hat : (Deed.move c1 c2 rs).at_ p = true := by
            unfold netOk at hb
            rw [Bool.and_eq_true, Bool.and_eq_true] at hb
            exact hb.2.2
          refine q_asg (ev_ix (ev_var rfl) (SqT.of (e5 _ _ (e0 _ _ hd))) rfl) fun H6 e6 => ?_
          refine q_cut (M := fun σ5 H7 => ∃ z9 z10 z11, σ5 = [some (.ref l), some (.str p), some x1, some x2, some (.int (netM p one other (b.take i))), some (.int (sizM p one other (b.take i))), some y, some (.ref d), some (.int (manyR rs)), z9, z10, z11] ∧ Ex H' H7) ?_ ?_
          · refine s_when (b := true) (et_is (et_kind (ev_var rfl) (e6 _ _ (e5 _ _ (e0 _ _ hd))) h0) (show decide (V.str "move" = V.str "move") = true by decide +kernel)) (fun _ H7 e7 => ?_) fun z => nomatch z
            have e57 := (e5.trans e6).trans e7
            have okr : rs.length ≤ 1000 := ok _ (List.mem_of_getElem? hg)
            have lr := trs.length
            rw [List.length_map] at lr
            refine s_asg (v := .int (manyR rs)) ?_ fun H8 e8 => ⟨_, _, _, rfl, e57.trans e8⟩
            refine fun H8 e8 Q k => r_cb (r_cons (r_lcT (ev_ix (ev_var rfl) (SqT.of (e57 _ _ (e0 _ _ hd))) rfl H8 e8 _ fun H9 e9 => ?_)))
            have e09 := ((e0.trans e57).trans e8).trans e9
            refine lcT (xs := rys) (fun i acc _ => acc = ((rs.take i).map fun r => V.int (r.2.2 - r.2.1))) (fun _ _ _ _ _ h => h) (by omega) ?_ (fun _ _ => rfl) (fun i x H2 hi e2 => ?_) fun pp H2 acc hp e2 h2 _ hR => ?_
            · exact SrcT.ev ev_c (SqT.of (e09 _ _ hrb))
            · obtain ⟨dd, hdd, tx⟩ := TDs.getx trs hi
              rw [List.getElem?_map] at hdd
              cases hr' : rs[i]? with
              | none => rw [hr'] at hdd; cases hdd
              | some r =>
                rw [hr'] at hdd
                have ed : runD r = dd := Option.some.inj hdd
                rw [← ed] at tx
                obtain ⟨bb, rfl, hbb⟩ := tx.run
                refine ⟨_, fun N k => g3 (SqT.of ((e09.trans e2) _ _ hbb)) N k, rfl, Turn.yes fun H3 e3 Q k => ?_⟩
                refine ev_op (ev_var rfl) (ev_var rfl) rv_I0 H3 (Ex.refl _) _ fun H4 e4 => k _ _ e4 fun acc ha => ?_
                show acc ++ [_] = _
                rw [show acc = _ from ha, List.take_add_one, hr', List.map_append]
                rfl
            · refine ⟨pp, rs.map fun r : Run => r.2.2 - r.2.1, rfl, ?_, k _ (e9.trans e2)⟩
              rw [List.map_map]
              rw [hR, lr, List.take_length] at h2
              exact SqL.of h2
          · rintro σ5 H7 ⟨z9, z10, z11, rfl, e7⟩
            exact tail hb hat e7 rfl rfl _ fun _ _ h => h
    · rintro σ' H' ⟨y6, y7, y8, y9, y10, y11, rfl, e⟩
      rw [lx, List.take_length]
      exact s_retU (eu_tup (ea_cons (ev_var rfl) (ea_cons (ev_var rfl) ea_nil)) (by show 2 ≤ 100000; decide)) fun t H2 _ e2 ht => q _ t ((e1.trans e).trans e2) ht
end
end Pn
set_option maxHeartbeats 2000000
/-! _law_feed, _law_draw -/
namespace Pn
open PySem L2 Evl
/-- all but F stands -/
def Kb (F : Addr) (H H' : Hp) : Prop := ∀ a o, a ≠ F → H a = some o → H' a = some o
theorem Kb.refl (F : Addr) (H : Hp) : Kb F H H := fun _ _ _ h => h
theorem Kb.trans {F : Addr} {H H1 H2 : Hp} (a : Kb F H H1) (b : Kb F H1 H2) : Kb F H H2 := fun x o n h => b x o n (a x o n h)
theorem Kb.ex {F : Addr} {H H' : Hp} (e : Ex H H') : Kb F H H' := fun a o _ h => e a o h
theorem Kb.upd {F : Addr} {H H' : Hp} {o : HO} (k : Kb F H H') : Kb F H (L2.upd H' F o) := fun a u n h => by
  rw [upd_ne n]
  exact k a u n h
/-- the feed at F -/
def FD (H : Hp) (F S : Addr) (n : Nat) : Prop := ∃ (ns : List Int) (t d : Int), H F = some (.lst [.ref S, .int t, .int d]) ∧ H S = some (.lst (ns.map V.int)) ∧ 0 ≤ t ∧ t ≤ (n : Int) ∧ 0 ≤ d
theorem FD.ex {H H' : Hp} {F S : Addr} {n : Nat} (e : Ex H H') (h : FD H F S n) : FD H' F S n := by
  obtain ⟨ns, t, d, h1, h2, r⟩ := h
  exact ⟨ns, t, d, e _ _ h1, e _ _ h2, r⟩
theorem FD.more {H : Hp} {F S : Addr} {n m : Nat} (h : FD H F S n) (l : n ≤ m) : FD H F S m := by
  obtain ⟨ns, t, d, h1, h2, h3, h4, r⟩ := h
  exact ⟨ns, t, d, h1, h2, h3, by omega, r⟩
theorem FD.at {H : Hp} {F S : Addr} {n : Nat} (h : FD H F S n) : ∃ xs, H F = some (.lst xs) := by
  obtain ⟨ns, t, d, h1, _⟩ := h
  exact ⟨_, h1⟩
theorem FD.ns {H : Hp} {F S : Addr} {n : Nat} (h : FD H F S n) : S ≠ F := by
  obtain ⟨ns, t, d, hF, hS, _⟩ := h
  intro z
  rw [z, hF] at hS
  injection hS with hS
  injection hS with hS
  cases ns with
  | nil => cases hS
  | cons x r => cases hS
theorem FD.tk {H H' : Hp} {F S : Addr} {n : Nat} (h : FD H F S n) (k : Kb F H H') : Tk H H' := fun a xs e => by
  obtain ⟨ys, hy⟩ := h.at
  exact k a _ (fun z => by rw [z, hy] at e; cases e) e
/-- a new thing isn't the feed -/
theorem FD.new {H : Hp} {F S p : Addr} {n : Nat} (h : FD H F S n) (hp : H p = none) : p ≠ F := by
  obtain ⟨ys, hy⟩ := h.at
  exact fun z => by rw [z, hy] at hp; cases hp
theorem FD.newS {H : Hp} {F S p : Addr} {n : Nat} (h : FD H F S n) (hp : H p = none) : p ≠ S := by
  obtain ⟨ns, t, d, h1, h2, _⟩ := h
  exact fun z => by rw [z, h2] at hp; cases hp
theorem FD.upd {H : Hp} {F S p : Addr} {n : Nat} {o : HO} (h : FD H F S n) (h1 : p ≠ F) (h2 : p ≠ S) : FD (L2.upd H p o) F S n := by
  obtain ⟨ns, t, d, q1, q2, r⟩ := h
  exact ⟨ns, t, d, by rw [upd_ne h1.symm]; exact q1, by rw [upd_ne h2.symm]; exact q2, r⟩
section
variable {P : Program} {w : World} {K : PySem.W.Frag} {mg : Str → Option Value} {base : Heap}
def spFeed (K : PySem.W.Frag) : Sp := fun vs H Q _ => ∃ (a : Addr) (ns : List Int), vs = [.ref a] ∧ SqL K H a (ns.map V.int) ∧ ∀ H' F S, Ex H H' → FD H' F S 0 → Q (.ref F) H'
theorem ok_feed {f : Addr} {fd : FuncData} (F : Fun K "_law_feed" "_law_feed" dFeed f fd) (T : Tx mg) : FnOk P w K mg base CX0 1 f fd ["_law_script"] (spFeed K) := by
  refine F.ok cFeed (fun vs H Q E h => ?_) (fun cdv A outer s H vs Q E hr h => ?_)
  · obtain ⟨_, _, rfl, _⟩ := h
    rfl
  · obtain ⟨a, ns, rfl, ha, q⟩ := h
    refine ⟨_, pss_one (ps_ret (pe_lst (pa_cons (pe_slice sl_list (pv 0) po_none (po_some pe_int)) (pa_cons pe_int (pa_cons pe_int pa_nil))))), ?_⟩
    refine ⟨_, rfl, _, rfl, a, ns.map V.int, rfl, ha, fun S hS => ⟨by show 3 ≤ sizeLine; decide, fun F hF => ?_⟩⟩
    have nSF : S ≠ F := fun z => by
      rw [z, upd_same] at hF
      cases hF
    refine q _ F S ((Ex.new hS).trans (Ex.new hF)) ⟨(ns.drop (HT.sIx (ns.map V.int).length 0 none)).take (HT.sIx (ns.map V.int).length (ns.map V.int).length (some 63) - HT.sIx (ns.map V.int).length 0 none), 0, 0, upd_same, ?_, by decide, by decide, by decide⟩
    rw [upd_ne nSF, upd_same]
    unfold cutV
    rw [List.map_take, List.map_drop]
def spDraw : Sp := fun vs H Q _ => ∃ (F S : Addr) (m : Int) (n : Nat), vs = [.ref F, .int m] ∧ FD H F S n ∧ n ≤ 50000 ∧ 0 < m ∧ m ≤ 1000 ∧ ∀ H' r, Kb F H H' → FD H' F S (n + 1) → 0 ≤ r → r < m → Q (.int r) H'
theorem ok_draw {f : Addr} {fd : FuncData} (F : Fun K "_law_draw" "_law_draw" dDraw f fd) (T : Tx mg) : FnOk P w K mg base CX0 1 f fd ["_law_feed_here", "_law_many"] spDraw := by
  refine F.ok cDraw (fun vs H Q E h => ?_) (fun cdv A outer s H vs Q E hr h => ?_)
  · obtain ⟨_, _, _, _, rfl, _⟩ := h
    rfl
  · obtain ⟨F, S, m, n, rfl, fdh, nb, m0, m1, q⟩ := h
    have nSF := fdh.ns
    obtain ⟨ns, t, d, hF, hS, t0, tn, d0⟩ := fdh
    refine ⟨_, pss_cons (ps_if (pt_cmpR op_gt (pe_ix ix_list (pv 0) pe_int (fun _ _ => rfl)) pe_int (nomark _))
        (pss_cons (ps_set (i := 2) cDraw.nd rfl (Or.inl rfl) (pe_op op_mod (pe_ix ix_list (pv 0) pe_int (fun _ _ => rfl)) (pv 1)))
        (pss_cons (ps_asg (pe_op op_fdiv (pe_ix ix_list (pv 0) pe_int (fun _ _ => rfl)) (pv 1)) (pg_sub (pv 0) pe_int set_list)) (pss_one (ps_ret (pv 2))))) pss_nil)
      (pss_cons (ps_set (i := 3) cDraw.nd rfl (Or.inl rfl) (pe_ix ix_list (pv 0) pe_int (fun _ _ => rfl)))
      (pss_cons (ps_asg (pe_op op_add (pv 3) pe_int) (pg_sub (pv 0) pe_int set_list))
      (pss_cons (ps_set (i := 4) cDraw.nd rfl (Or.inl rfl) (pe_ifExp (pt_cmpR op_gt (pe_callB call_len_seq (by rfl) T.len PySem.boot_len (pa_cons (pe_ix ix_list (pv 0) pe_int (fun _ _ => rfl)) pa_nil)) pe_int (nomark _))
          (pe_ix ix_list (pe_ix ix_list (pv 0) pe_int (fun _ _ => rfl)) (pe_op op_mod (pv 3) (pe_callB call_len_seq (by rfl) T.len PySem.boot_len (pa_cons (pe_ix ix_list (pv 0) pe_int (fun _ _ => rfl)) pa_nil))) (fun _ _ => rfl)) pe_int))
      (pss_cons (ps_if (PW.pt (pw_and (pt_cmpR op_ge (pv 4) (pe_op op_pow pe_int pe_int) (nomark _)) (pw_and1 (pt_cmpR op_lt (pv 3) (pe_callB call_len_seq (by rfl) T.len PySem.boot_len (pa_cons (pe_ix ix_list (pv 0) pe_int (fun _ _ => rfl)) pa_nil)) (nomark _)))))
          (pss_cons (ps_asg (pe_op op_fdiv (pv 4) (pv 1)) (pg_sub (pv 0) pe_int set_list)) (pss_one (ps_ret (pe_op op_mod (pv 4) (pv 1))))) pss_nil)
      (pss_cons (ps_set (i := 5) cDraw.nd rfl (Or.inl rfl) (pe_op op_mod (pe_op op_mul (pe_op op_add (pe_op op_add (pe_op op_add (pe_op op_mod (pv 4) pe_int) (pe_op op_mul (pe_op op_mul pe_int (pv 3)) (pv 3))) (pe_op op_mul pe_int (pv 3))) pe_int) pe_int) pe_int))
      (pss_cons (ps_set (i := 5) cDraw.nd rfl (Or.inl rfl) (pe_op op_mod (pe_op op_add (pe_op op_add (pe_op op_mul (pv 5) (pv 5)) (pe_op op_mul pe_int (pv 3))) pe_int) pe_int))
      (pss_one (ps_ret (pe_op op_mod (pe_op op_fdiv (pe_op op_mod (pe_op op_mul (pv 5) pe_int) pe_int) pe_int) (pv 1)))))))))), ?_⟩
    have m2 : m < 1073741824 := by omega
    refine q_when (b := decide (0 < d)) (et_test (ev_op (ev_op (ev_var rfl) ev_c (rv_ixL (sq_of hF) rfl)) ev_c rv_I0)) (fun hb H1 e1 => ?_) (fun hb H1 e1 => ?_)
    · have hF1 := e1 _ _ hF
      refine q_asg (v := .int (d % m)) (ev_op (ev_op (ev_var rfl) ev_c (rv_ixL (sq_of hF1) rfl)) (ev_var rfl) (rv_I m0)) fun H2 e2 => ?_
      have hF2 := e2 _ _ hF1
      refine q_setL (j := 2) (v := .int (d / m)) hF2 (ev_op (ev_op (ev_var rfl) ev_c (rv_ixL (sq_of hF2) rfl)) (ev_var rfl) (rv_I ⟨m0, m2⟩)) (ev_var rfl) ev_c (by show 2 < 3; decide) fun H3 e3 => ?_
      refine s_ret (ev_var rfl) fun H4 e4 => ?_
      refine q H4 (d % m) ((Kb.upd (Kb.ex ((e1.trans e2).trans e3))).trans (Kb.ex e4)) ⟨ns, t, d / m, e4 _ _ upd_same, e4 _ _ ?_, t0, by omega, Int.ediv_nonneg d0 (by omega)⟩ (Int.emod_nonneg _ (by omega)) (Int.emod_lt_of_pos _ m0)
      rw [upd_ne nSF]
      exact e3 _ _ (e2 _ _ (e1 _ _ hS))
    · have hF1 := e1 _ _ hF
      refine q_asg (v := .int t) (ev_op (ev_var rfl) ev_c (rv_ixL (sq_of hF1) rfl)) fun H2 e2 => ?_
      have hF2 := e2 _ _ hF1
      refine q_setL (j := 1) (v := .int (t + 1)) hF2 (ev_op (ev_var rfl) ev_c rv_I0) (ev_var rfl) ev_c (by show 1 < 3; decide) fun H3 e3 => ?_
      have k3 : Kb F H (upd H3 F (.lst [.ref S, .int (t + 1), .int d])) := Kb.upd (Kb.ex ((e1.trans e2).trans e3))
      have hS3 : upd H3 F (.lst [.ref S, .int (t + 1), .int d]) S = some (.lst (ns.map V.int)) := by
        rw [upd_ne nSF]
        exact e3 _ _ (e2 _ _ (e1 _ _ hS))
      have hF3 : upd H3 F (.lst [.ref S, .int (t + 1), .int d]) F = some (.lst [.ref S, .int (t + 1), .int d]) := upd_same
      show tSeq _ _ _ _ (upd H3 F (.lst [.ref S, .int (t + 1), .int d]))
      generalize upd H3 F (.lst [.ref S, .int (t + 1), .int d]) = H4 at k3 hS3 hF3 ⊢
      have lenE : ∀ {H5 : Hp} {σ5 : L2.St}, Ex H4 H5 → σ5[0]? = some (some (V.ref F)) → Ev (tCB (fun xs H Q => ∃ p ys, xs = [V.ref p] ∧ (SqL K H p ys ∨ SqT K H p ys) ∧ Q (V.int (ys.length : Int)) H) (tCons (tOp (rIxL K) (tVar 0) (tC (.int 0))) tNil)) σ5 H5 (.int ((ns.length : Nat) : Int)) := fun {H5 σ5} e5 h0 =>
        ev_is (v := .int (((ns.map V.int).length : Nat) : Int)) (ev_cb (ea_cons (ev_op (ev_var h0) ev_c (rv_ixL (sq_of (e5 _ _ hF3)) rfl)) ea_nil) fun H6 e6 Q k => ⟨S, ns.map V.int, rfl, .inl (sq_of (e6 _ _ (e5 _ _ hS3))), k _ (Ex.refl _)⟩) (by rw [List.length_map])
      obtain ⟨c, hc⟩ : ∃ c : Int, if 0 < ns.length then ns[(t % (ns.length : Int)).toNat]? = some c else c = 0 := by
        split
        · rename_i h
          have h1 := Int.emod_nonneg t (show (ns.length : Int) ≠ 0 by omega)
          have h2 := Int.emod_lt_of_pos t (show (0 : Int) < (ns.length : Int) by omega)
          exact ⟨_, List.getElem?_eq_getElem (show (t % (ns.length : Int)).toNat < ns.length by omega)⟩
        · exact ⟨0, rfl⟩
      refine q_asg (v := .int c) ?_ fun H5 e5 => ?_
      · refine ev_if (b := decide (0 < (ns.length : Int))) (et_test (ev_op (lenE (Ex.refl _) rfl) ev_c rv_I0)) (fun h => ?_) (fun h => ?_)
        · have lp : 0 < ns.length := by
            have := of_decide_eq_true h
            omega
          rw [if_pos lp] at hc
          have h1 := Int.emod_nonneg t (show (ns.length : Int) ≠ 0 by omega)
          refine ev_op (ev_op (ev_var rfl) ev_c (rv_ixL (sq_of hF3) rfl)) (ev_op (ev_var rfl) (lenE (Ex.refl _) rfl) (rv_I (show (0 : Int) < (ns.length : Int) by omega))) (rv_ixL (sq_of hS3) ?_)
          have e : t % (ns.length : Int) = (((t % (ns.length : Int)).toNat : Nat) : Int) := by omega
          rw [e]
          exact atI_nat (by rw [List.getElem?_map, hc]; rfl)
        · have lp : ¬ 0 < ns.length := by
            have := of_decide_eq_false h
            omega
          rw [if_neg lp] at hc
          rw [hc]
          exact ev_c
      · have hF5 := e5 _ _ hF3
        refine q_when (b := decide (10 ^ (18 : Int).toNat ≤ c) && decide (t < (ns.length : Int))) ?_ (fun hb H6 e6 => ?_) (fun hb H6 e6 => ?_)
        · exact et_and (et_test (ev_op (ev_var rfl) (ev_op ev_c ev_c (rv_I ⟨by decide, by decide, by decide⟩)) rv_I0)) fun _ => et_test (ev_op (ev_var rfl) (lenE e5 rfl) rv_I0)
        · have c0 : 0 ≤ c := by
            rw [Bool.and_eq_true, decide_eq_true_eq] at hb
            have h1 := hb.1
            have h2 : (0 : Int) ≤ 10 ^ (18 : Int).toNat := by decide
            omega
          have hF6 := e6 _ _ hF5
          refine q_setL (j := 2) (v := .int (c / m)) hF6 (ev_op (ev_var rfl) (ev_var rfl) (rv_I ⟨m0, m2⟩)) (ev_var rfl) ev_c (by show 2 < 3; decide) fun H7 e7 => ?_
          refine s_ret (v := .int (c % m)) (ev_op (ev_var rfl) (ev_var rfl) (rv_I m0)) fun H8 e8 => ?_
          refine q H8 (c % m) ((k3.trans (Kb.upd (Kb.ex ((e5.trans e6).trans e7)))).trans (Kb.ex e8)) ⟨ns, t + 1, c / m, e8 _ _ upd_same, e8 _ _ ?_, by omega, by omega, Int.ediv_nonneg c0 (by omega)⟩ (Int.emod_nonneg _ (by omega)) (Int.emod_lt_of_pos _ m0)
          rw [upd_ne nSF]
          exact e7 _ _ (e6 _ _ (e5 _ _ hS3))
        · have tt : t * t ≤ 50001 * 50001 := Int.mul_le_mul (by omega) (by omega) t0 (by omega)
          have tt0 : 0 ≤ t * t := Int.mul_nonneg t0 t0
          have et : 53 * t * t = 53 * (t * t) := Int.mul_assoc _ _ _
          have a1 := Int.emod_nonneg c (show (1000003 : Int) ≠ 0 by decide)
          have a2 := Int.emod_lt_of_pos c (show (0 : Int) < 1000003 by decide)
          generalize hA : c % 1000003 = cA at a1 a2
          have f1 := Int.emod_nonneg ((cA + 53 * t * t + 29 * t + 811) * 40009) (show (2147483629 : Int) ≠ 0 by decide)
          have f2 := Int.emod_lt_of_pos ((cA + 53 * t * t + 29 * t + 811) * 40009) (show (0 : Int) < 2147483629 by decide)
          refine q_asg (v := .int ((cA + 53 * t * t + 29 * t + 811) * 40009 % 2147483629)) ?_ fun H7 e7 => ?_
          · rw [← hA]
            refine ev_op (ev_op (ev_op (ev_op (ev_op (ev_op (ev_var rfl) ev_c (rv_I (show (0 : Int) < 1000003 by decide))) (ev_op (ev_op ev_c (ev_var rfl) (rv_I (.inl ⟨by decide, by decide⟩))) (ev_var rfl) (rv_I (.inl ⟨?_, ?_⟩))) rv_I0) (ev_op ev_c (ev_var rfl) (rv_I (.inl ⟨by decide, by decide⟩))) rv_I0) ev_c rv_I0) ev_c (rv_I (.inl ⟨?_, ?_⟩))) ev_c (rv_I (show (0 : Int) < 2147483629 by decide))
            · show -(2 ^ 64 : Int) < 53 * t
              omega
            · show 53 * t < (2 ^ 64 : Int)
              omega
            · show -(2 ^ 64 : Int) < c % 1000003 + 53 * t * t + 29 * t + 811
              rw [hA, et]
              omega
            · show c % 1000003 + 53 * t * t + 29 * t + 811 < (2 ^ 64 : Int)
              rw [hA, et]
              omega
          generalize (cA + 53 * t * t + 29 * t + 811) * 40009 % 2147483629 = f1v at f1 f2 ⊢
          have g1 := Int.emod_nonneg (f1v * f1v + 38317 * t + 101) (show (2147483587 : Int) ≠ 0 by decide)
          have g2 := Int.emod_lt_of_pos (f1v * f1v + 38317 * t + 101) (show (0 : Int) < 2147483587 by decide)
          refine q_asg (v := .int ((f1v * f1v + 38317 * t + 101) % 2147483587)) ?_ fun H8 e8 => ?_
          · refine ev_op (ev_op (ev_op (ev_op (ev_var rfl) (ev_var rfl) (rv_I (.inl ⟨?_, ?_⟩))) (ev_op ev_c (ev_var rfl) (rv_I (.inl ⟨by decide, by decide⟩))) rv_I0) ev_c rv_I0) ev_c (rv_I (show (0 : Int) < 2147483587 by decide))
            · show -(2 ^ 64 : Int) < f1v
              omega
            · show f1v < (2 ^ 64 : Int)
              omega
          generalize (f1v * f1v + 38317 * t + 101) % 2147483587 = g1v at g1 g2 ⊢
          refine s_ret (v := .int (g1v * 48271 % 2147483563 / 7 % m)) ?_ fun H9 e9 => ?_
          · refine ev_op (ev_op (ev_op (ev_op (ev_var rfl) ev_c (rv_I (.inl ⟨?_, ?_⟩))) ev_c (rv_I (show (0 : Int) < 2147483563 by decide))) ev_c (rv_I ⟨by decide, by decide⟩)) (ev_var rfl) (rv_I m0)
            · show -(2 ^ 64 : Int) < g1v
              omega
            · show g1v < (2 ^ 64 : Int)
              omega
          · have e := ((e5.trans e6).trans (e7.trans e8)).trans e9
            exact q H9 _ (k3.trans (Kb.ex e)) ⟨ns, t + 1, d, e _ _ hF3, e _ _ hS3, by omega, by omega, d0⟩ (Int.emod_nonneg _ (by omega)) (Int.emod_lt_of_pos _ m0)
end
end Pn
set_option maxHeartbeats 2000000
/-! _law_words, _law_name, _law_runs_of -/
namespace Pn
open PySem L2 Evl
def dayL : List Int := [0, 1, 2, 3, 4, 5, 8, 9, 10, 11, 12, 99999]
def numL : List Int := [0, 2, 10, 999]
def handL : List Str := ["a", "ab", "b", "bcdefghi"]
def NmIn (n : Nm) : Prop := n.1 ∈ dayL ∧ n.2.1 ∈ numL ∧ n.2.2 ∈ handL
abbrev Note := Str × Int
def noteD (n : Note) : PyData := .tuple [.str n.1, .int n.2]
def noteK (n : Note) : List Key := [.inr n.1, .inl n.2]
section
variable {P : Program} {w : World} {K : PySem.W.Frag} {mg : Str → Option Value} {base : Heap}
def spWords : Sp := fun vs H Q _ => ∃ (F S : Addr) (n : Nat), vs = [.ref F] ∧ FD H F S n ∧ n ≤ 49000 ∧ ∀ (H' : Hp) (l : Addr) (ws : List Str), Kb F H H' → FD H' F S (n + 1) → l ≠ F → H' l = some (.lst (ws.map V.str)) → ws.length = 5 → (∀ z ∈ ws, z ≠ "none") → Q (.ref l) H'
theorem ok_words {f : Addr} {fd : FuncData} (F : Fun K "_law_words" "_law_words" dWords f fd) (T : Tx mg) (GD : Dfn P w K mg base 1 "_law_draw" ["_law_feed_here", "_law_many"] spDraw) : FnOk P w K mg base CX0 2 f fd ["_law_feed_here"] spWords := by
  refine F.ok cWords (fun vs H Q E h => ?_) (fun cdv A outer s H vs Q E hr h => ?_)
  · obtain ⟨_, _, _, rfl, _⟩ := h
    rfl
  · obtain ⟨F, S, n, rfl, fdh, nb, q⟩ := h
    refine ⟨_, pss_cons (ps_set (i := 1) cWords.nd rfl (Or.inl rfl) (pe_lst (pa_cons (pe_lst (pa_cons pe_str (pa_cons pe_str (pa_cons pe_str (pa_cons pe_str (pa_cons pe_str pa_nil)))))) (pa_cons (pe_lst (pa_cons pe_str (pa_cons pe_str (pa_cons pe_str (pa_cons pe_str (pa_cons pe_str pa_nil)))))) pa_nil))))
      (pss_cons (ps_set (i := 1) cWords.nd rfl (Or.inl rfl) (pe_op op_cat (pv 1) (pe_lst (pa_cons (pe_lst (pa_cons pe_str (pa_cons pe_str (pa_cons pe_str (pa_cons pe_str (pa_cons pe_str pa_nil)))))) (pa_cons (pe_lst (pa_cons pe_str (pa_cons pe_str (pa_cons pe_str (pa_cons pe_str (pa_cons pe_str pa_nil)))))) pa_nil)))))
      (pss_one (ps_ret (pe_ix ix_list (pv 1) (pe_call GD.ok hr rfl GD.at_ GD.kp GD.bd .nil pass0 (pa_cons (pv 0) (pa_cons pe_int pa_nil))) (fun _ _ => rfl))))), ?_⟩
    have h5 : 5 ≤ sizeLine := by decide
    have h2 : 2 ≤ sizeLine := by decide
    refine r_seq (r_set ⟨h5, fun l1 hl1 => ⟨h5, fun l2 hl2 => ⟨h2, fun s1 hs1 => ?_⟩⟩⟩)
    have e1 := ((Ex.new (o := .lst ((["a", "aa", "aaa", "ab", "b"] : List Str).map V.str)) hl1).trans (Ex.new (o := .lst ((["move", "bag", "read", "count", "void"] : List Str).map V.str)) hl2)).trans (Ex.new (o := .lst [.ref l1, .ref l2]) hs1)
    have g1 : (upd (upd (upd H l1 (.lst ((["a", "aa", "aaa", "ab", "b"] : List Str).map V.str))) l2 (.lst ((["move", "bag", "read", "count", "void"] : List Str).map V.str))) s1 (.lst [.ref l1, .ref l2])) l1 = some (.lst ((["a", "aa", "aaa", "ab", "b"] : List Str).map V.str)) := Ex.new hs1 _ _ (Ex.new hl2 _ _ upd_same)
    have g2' : (upd (upd (upd H l1 (.lst ((["a", "aa", "aaa", "ab", "b"] : List Str).map V.str))) l2 (.lst ((["move", "bag", "read", "count", "void"] : List Str).map V.str))) s1 (.lst [.ref l1, .ref l2])) l2 = some (.lst ((["move", "bag", "read", "count", "void"] : List Str).map V.str)) := Ex.new hs1 _ _ upd_same
    have g3' : (upd (upd (upd H l1 (.lst ((["a", "aa", "aaa", "ab", "b"] : List Str).map V.str))) l2 (.lst ((["move", "bag", "read", "count", "void"] : List Str).map V.str))) s1 (.lst [.ref l1, .ref l2])) s1 = some (.lst [.ref l1, .ref l2]) := upd_same
    dsimp only
    show tSeq _ _ _ _ (upd (upd (upd H l1 (.lst ((["a", "aa", "aaa", "ab", "b"] : List Str).map V.str))) l2 (.lst ((["move", "bag", "read", "count", "void"] : List Str).map V.str))) s1 (.lst [.ref l1, .ref l2]))
    generalize upd (upd (upd H l1 (.lst ((["a", "aa", "aaa", "ab", "b"] : List Str).map V.str))) l2 (.lst ((["move", "bag", "read", "count", "void"] : List Str).map V.str))) s1 (.lst [.ref l1, .ref l2]) = H1 at e1 g1 g2' g3' ⊢
    refine r_seq (r_set (r_op ⟨_, rfl, h5, fun l3 hl3 => ⟨h5, fun l4 hl4 => ⟨h2, fun s2 hs2 => ?_⟩⟩⟩))
    have x4 := (Ex.new (o := .lst ((["vault", "press", "out", "ash", "till"] : List Str).map V.str)) hl3).trans ((Ex.new (o := .lst ((["banka", "bankb", "bankc", "tell", "office"] : List Str).map V.str)) hl4).trans (Ex.new (o := .lst [.ref l3, .ref l4]) hs2))
    refine ⟨s1, s2, [.ref l1, .ref l2], [.ref l3, .ref l4], rfl, rfl, x4 _ _ g3', upd_same, (show 2 + 2 ≤ sizeLine by decide), fun p hp => ?_⟩
    have x5 := x4.trans (Ex.new (o := .lst ([.ref l1, .ref l2] ++ [.ref l3, .ref l4])) hp)
    dsimp only
    have n1 := fdh.new hl1
    have n2 : l2 ≠ F := fdh.new (fresh_back (Ex.new hl1) hl2)
    have n3 : l3 ≠ F := fdh.new (fresh_back e1 hl3)
    have n4 : l4 ≠ F := fdh.new (fresh_back (e1.trans (Ex.new hl3)) hl4)
    have np : p ≠ F := fdh.new (fresh_back (e1.trans x4) hp)
    refine r_ret (r_op ⟨_, rfl, r_call ⟨_, rfl, F, S, 4, n, rfl, fdh.ex (e1.trans x5), by omega, by decide, by decide, fun H2 r kb fd2 r0 r4 => ?_⟩⟩)
    have k0 : Kb F H H2 := (Kb.ex (e1.trans x5)).trans kb
    have hp2 := kb p _ np (show _ = some (.lst ([.ref l1, .ref l2] ++ [.ref l3, .ref l4])) from upd_same)
    have c1 := kb l1 _ n1 (x5 _ _ g1)
    have c2 := kb l2 _ n2 (x5 _ _ g2')
    have c3 : H2 l3 = some (.lst ((["vault", "press", "out", "ash", "till"] : List Str).map V.str)) := kb l3 _ n3 (Ex.new hp _ _ (Ex.new hs2 _ _ (Ex.new hl4 _ _ upd_same)))
    have c4 : H2 l4 = some (.lst ((["banka", "bankb", "bankc", "tell", "office"] : List Str).map V.str)) := kb l4 _ n4 (Ex.new hp _ _ (Ex.new hs2 _ _ upd_same))
    have hr4 : r = 0 ∨ r = 1 ∨ r = 2 ∨ r = 3 := by omega
    rcases hr4 with rfl | rfl | rfl | rfl
    · exact ⟨p, _, 0, .ref l1, rfl, rfl, SqL.of hp2, rfl, q H2 l1 _ k0 fd2 n1 c1 rfl (by decide +kernel)⟩
    · exact ⟨p, _, 1, .ref l2, rfl, rfl, SqL.of hp2, rfl, q H2 l2 _ k0 fd2 n2 c2 rfl (by decide +kernel)⟩
    · exact ⟨p, _, 2, .ref l3, rfl, rfl, SqL.of hp2, rfl, q H2 l3 _ k0 fd2 n3 c3 rfl (by decide +kernel)⟩
    · exact ⟨p, _, 3, .ref l4, rfl, rfl, SqL.of hp2, rfl, q H2 l4 _ k0 fd2 n4 c4 rfl (by decide +kernel)⟩
/-! ### _law_name -/
def spNm : Sp := fun vs H Q _ => ∃ (F S : Addr) (n : Nat), vs = [.ref F] ∧ FD H F S n ∧ n ≤ 49000 ∧ ∀ H' v nm, Kb F H H' → FD H' F S (n + 5) → TD H' (nmD nm) v → NmIn nm → Q v H'
theorem ok_nm {f : Addr} {fd : FuncData} (F : Fun K "_law_name" "_law_name" dNm f fd) (T : Tx mg) (GD : Dfn P w K mg base 1 "_law_draw" ["_law_feed_here", "_law_many"] spDraw) : FnOk P w K mg base CX0 2 f fd ["_law_feed_here"] spNm := by
  refine F.ok cNm (fun vs H Q E h => ?_) (fun cdv A outer s H vs Q E hr h => ?_)
  · obtain ⟨_, _, _, rfl, _⟩ := h
    rfl
  · obtain ⟨F, S, n, rfl, fdh, nb, q⟩ := h
    refine ⟨_, pss_cons (ps_set (i := 1) cNm.nd rfl (Or.inl rfl) (pe_lst (pa_cons (pe_call GD.ok hr rfl GD.at_ GD.kp GD.bd .nil pass0 (pa_cons (pv 0) (pa_cons pe_int pa_nil))) (pa_cons (pe_op op_add pe_int (pe_call GD.ok hr rfl GD.at_ GD.kp GD.bd .nil pass0 (pa_cons (pv 0) (pa_cons pe_int pa_nil)))) (pa_cons pe_int pa_nil)))))
      (pss_cons (ps_set (i := 2) cNm.nd rfl (Or.inl rfl) (pe_ix ix_list (pe_lst (pa_cons pe_str (pa_cons pe_str (pa_cons pe_str (pa_cons pe_str pa_nil))))) (pe_call GD.ok hr rfl GD.at_ GD.kp GD.bd .nil pass0 (pa_cons (pv 0) (pa_cons pe_int pa_nil))) (fun _ _ => rfl)))
      (pss_one (ps_ret (pe_tup (pa_cons (pe_ix ix_list (pv 1) (pe_ix ix_list (pe_lst (pa_cons pe_int (pa_cons pe_int (pa_cons pe_int (pa_cons pe_int (pa_cons pe_int pa_nil)))))) (pe_call GD.ok hr rfl GD.at_ GD.kp GD.bd .nil pass0 (pa_cons (pv 0) (pa_cons pe_int pa_nil))) (fun _ _ => rfl)) (fun _ _ => rfl))
        (pa_cons (pe_ix ix_list (pe_lst (pa_cons pe_int (pa_cons pe_int (pa_cons pe_int (pa_cons pe_int pa_nil))))) (pe_call GD.ok hr rfl GD.at_ GD.kp GD.bd .nil pass0 (pa_cons (pv 0) (pa_cons pe_int pa_nil))) (fun _ _ => rfl)) (pa_cons (pv 2) pa_nil))))))), ?_⟩
    refine r_seq (r_set ?_)
    refine ⟨_, rfl, F, S, 6, n, rfl, fdh, by omega, by decide, by decide, fun H1 r1 k1 f1 a1 b1 => ?_⟩
    refine ⟨_, rfl, F, S, 5, n + 1, rfl, f1, by omega, by decide, by decide, fun H2 r2 k2 f2 a2 b2 => ⟨8, r2, rfl, rfl, ?_⟩⟩
    refine ⟨by show 3 ≤ sizeLine; decide, fun dl hdl => ?_⟩
    dsimp only
    have ndl := f2.new hdl
    have k02 := k1.trans (k2.trans (Kb.ex (Ex.new (o := .lst [.int r1, .int (8 + r2), .int 99999]) hdl)))
    have f2' := f2.ex (Ex.new (o := .lst [.int r1, .int (8 + r2), .int 99999]) hdl)
    have hd2 : (upd H2 dl (.lst [.int r1, .int (8 + r2), .int 99999])) dl = some (.lst [.int r1, .int (8 + r2), .int 99999]) := upd_same
    show tSeq _ _ _ _ (upd H2 dl (.lst [.int r1, .int (8 + r2), .int 99999]))
    generalize upd H2 dl (.lst [.int r1, .int (8 + r2), .int 99999]) = H2' at k02 f2' hd2 ⊢
    -- hand
    refine r_seq (r_set (r_op ⟨by show 4 ≤ sizeLine; decide, fun hl hhl => ?_⟩))
    have nhl := f2'.new hhl
    refine ⟨_, rfl, F, S, 4, n + 2, rfl, f2'.ex (Ex.new hhl), by omega, by decide, by decide, fun H3 r3 k3 f3 a3 b3 => ?_⟩
    have hh3 := k3 hl _ nhl upd_same
    have hd3 := k3 dl _ ndl (Ex.new hhl _ _ hd2)
    obtain ⟨hand, hhand, hat⟩ : ∃ z : Str, z ∈ handL ∧ atI [V.str "a", V.str "ab", V.str "b", V.str "bcdefghi"] r3 = some (.str z) := by
      have : r3 = 0 ∨ r3 = 1 ∨ r3 = 2 ∨ r3 = 3 := by omega
      rcases this with rfl | rfl | rfl | rfl
      · exact ⟨_, List.mem_cons_self, rfl⟩
      · exact ⟨_, List.mem_cons_of_mem _ List.mem_cons_self, rfl⟩
      · exact ⟨_, List.mem_cons_of_mem _ (List.mem_cons_of_mem _ List.mem_cons_self), rfl⟩
      · exact ⟨_, List.mem_cons_of_mem _ (List.mem_cons_of_mem _ (List.mem_cons_of_mem _ List.mem_cons_self)), rfl⟩
    refine ⟨hl, _, r3, .str hand, rfl, rfl, SqL.of hh3, hat, ?_⟩
    dsimp only
    have k03 := k02.trans ((Kb.ex (Ex.new hhl)).trans k3)
    refine r_ret ?_
    refine ⟨_, rfl, by show 5 ≤ sizeLine; decide, fun il hil => ?_⟩
    have nil_ := f3.new hil
    refine ⟨_, rfl, F, S, 5, n + 3, rfl, f3.ex (Ex.new hil), by omega, by decide, by decide, fun H4 r4 k4 f4 a4 b4 => ?_⟩
    have hi4 := k4 il _ nil_ upd_same
    have hd4 := k4 dl _ ndl (Ex.new hil _ _ hd3)
    have k04 := k03.trans ((Kb.ex (Ex.new hil)).trans k4)
    obtain ⟨j, hj, hj0⟩ : ∃ j : Int, atI [V.int 0, V.int 0, V.int 1, V.int 1, V.int 2] r4 = some (.int j) ∧ (j = 0 ∨ j = 1 ∨ j = 2) := by
      have : r4 = 0 ∨ r4 = 1 ∨ r4 = 2 ∨ r4 = 3 ∨ r4 = 4 := by omega
      rcases this with rfl | rfl | rfl | rfl | rfl
      · exact ⟨0, rfl, .inl rfl⟩
      · exact ⟨0, rfl, .inl rfl⟩
      · exact ⟨1, rfl, .inr (.inl rfl)⟩
      · exact ⟨1, rfl, .inr (.inl rfl)⟩
      · exact ⟨2, rfl, .inr (.inr rfl)⟩
    obtain ⟨day, hday, hdat⟩ : ∃ z : Int, z ∈ dayL ∧ atI [V.int r1, V.int (8 + r2), V.int 99999] j = some (.int z) := by
      rcases hj0 with rfl | rfl | rfl
      · refine ⟨r1, ?_, rfl⟩
        have : r1 = 0 ∨ r1 = 1 ∨ r1 = 2 ∨ r1 = 3 ∨ r1 = 4 ∨ r1 = 5 := by omega
        rcases this with rfl | rfl | rfl | rfl | rfl | rfl <;> decide
      · refine ⟨8 + r2, ?_, rfl⟩
        have : r2 = 0 ∨ r2 = 1 ∨ r2 = 2 ∨ r2 = 3 ∨ r2 = 4 := by omega
        rcases this with rfl | rfl | rfl | rfl | rfl <;> decide
      · exact ⟨99999, by decide, rfl⟩
    refine ⟨il, _, r4, .int j, rfl, rfl, SqL.of hi4, hj, dl, _, j, .int day, rfl, rfl, SqL.of hd4, hdat, ?_⟩
    refine ⟨by show 4 ≤ sizeLine; decide, fun ul hul => ?_⟩
    have nul := f4.new hul
    refine ⟨_, rfl, F, S, 4, n + 4, rfl, f4.ex (Ex.new hul), by omega, by decide, by decide, fun H5 r5 k5 f5 a5 b5 => ?_⟩
    have hu5 := k5 ul _ nul upd_same
    obtain ⟨num, hnum, hnat⟩ : ∃ z : Int, z ∈ numL ∧ atI [V.int 0, V.int 2, V.int 10, V.int 999] r5 = some (.int z) := by
      have : r5 = 0 ∨ r5 = 1 ∨ r5 = 2 ∨ r5 = 3 := by omega
      rcases this with rfl | rfl | rfl | rfl
      · exact ⟨_, by decide, rfl⟩
      · exact ⟨_, by decide, rfl⟩
      · exact ⟨_, by decide, rfl⟩
      · exact ⟨_, by decide, rfl⟩
    refine ⟨ul, _, r5, .int num, rfl, rfl, SqL.of hu5, hnat, _, rfl, by show 3 ≤ sizeLine; decide, fun t ht => ?_⟩
    exact q _ _ (day, num, hand) ((k04.trans ((Kb.ex (Ex.new hul)).trans k5)).trans (Kb.ex (Ex.new ht))) (f5.ex (Ex.new ht)) (TD.tup upd_same (TDs.cons rfl (TDs.cons rfl (TDs.one rfl)))) ⟨hday, hnum, hhand⟩
end
end Pn
set_option maxHeartbeats 2000000
/-! _law_runs_of -/
namespace Pn
open PySem L2 Evl
theorem noteK_inj {n m : Note} (h : noteK n = noteK m) : n = m := by
  obtain ⟨a, b⟩ := n
  obtain ⟨a', b'⟩ := m
  unfold noteK at h
  injection h with h1 h
  injection h with h2 h
  injection h1 with h1
  injection h2 with h2
  dsimp only at h1 h2
  rw [h1, h2]
theorem nodup_of_map' {α β : Type} {f : α → β} {l : List α} (h : (l.map f).Nodup) : l.Nodup := List.Pairwise.imp (fun hne e => hne (by rw [e])) (List.pairwise_map.mp h)
/-- as many stand in the sorted set as in the list, if it holds nothing twice -/
theorem sorted1_len {α γ : Type} {enc : α → PyData} {kk : α → γ} {bs bs' : List α} (inj : ∀ x y, kk x = kk y → x = y) (nd : bs.Nodup) (h : Sorted1 enc kk bs bs') : bs'.Perm bs := by
  obtain ⟨h1, h2, h3, _⟩ := h
  refine (List.perm_ext_iff_of_nodup (nodup_of_map' h3) nd).mpr fun x => ⟨h1 x, fun hx => ?_⟩
  obtain ⟨y, hy, e⟩ := h2 x hx
  rw [← inj y x e]
  exact hy
theorem TD.note {H : Hp} {n : Note} {v : V} (h : TD H (noteD n) v) : ∃ a, v = .ref a ∧ H a = some (.tup [.str n.1, .int n.2]) := by
  obtain ⟨a, xs, rfl, ha, hs⟩ := h
  obtain ⟨x, y, rfl, h1, h2⟩ := hs.two
  have e1 : x = .str n.1 := h1
  have e2 : y = .int n.2 := h2
  subst e1 e2
  exact ⟨a, rfl, ha⟩
theorem td_run {H : Hp} {r : Run} {t : Addr} (h : H t = some (.tup [.str r.1, .int r.2.1, .int r.2.2])) : TD H (runD r) (.ref t) :=
  TD.tup h (TDs.cons (d := .str r.1) rfl (TDs.cons (d := .int r.2.1) rfl (TDs.one (d := .int r.2.2) rfl)))
theorem manyR_snoc (rs : List Run) (r : Run) : manyR (rs ++ [r]) = manyR rs + (r.2.2 - r.2.1) := by
  unfold manyR
  rw [List.map_append, List.sum_append]
  simp
theorem side_note (bs : List Note) : SortSide noteD bs where
  al := fun d hd d' hd' => by
    obtain ⟨b, _, rfl⟩ := List.mem_map.mp hd
    obtain ⟨b', _, rfl⟩ := List.mem_map.mp hd'
    rfl
  so := .inl fun d hd => by
    obtain ⟨b, _, rfl⟩ := List.mem_map.mp hd
    exact ⟨_, _, rfl⟩
  dp := fun b _ => by
    show (1 : Nat) ≤ 8
    decide
theorem set_last {α : Type} (x y : α) : ∀ l : List α, (l ++ [x]).set l.length y = l ++ [y]
  | [] => rfl
  | a :: l => by
    show a :: (l ++ [x]).set l.length y = a :: (l ++ [y])
    rw [set_last x y l]
theorem ixN_last {α : Type} (l : List α) (x : α) : ixN (l ++ [x]).length (-1) = some l.length := by
  have hl : (l ++ [x]).length = l.length + 1 := by simp
  rw [hl]
  unfold ixN
  rw [if_neg (by omega)]
  split
  · congr 1
    omega
  · omega
theorem snoc_cases {α : Type} (l : List α) : l = [] ∨ ∃ l0 x, l = l0 ++ [x] := by
  cases h : l.reverse with
  | nil => exact .inl (by simpa using h)
  | cons x r =>
    refine .inr ⟨r.reverse, x, ?_⟩
    have := congrArg List.reverse h
    simpa using this
section
variable {P : Program} {w : World} {K : PySem.W.Frag} {mg : Str → Option Value} {base : Heap}
def spRuns (K : PySem.W.Frag) : Sp := fun vs H Q _ => ∃ (l : Addr) (xs : List V) (ns : List Note), vs = [.ref l] ∧ SqL K H l xs ∧ TDs H (ns.map noteD) xs ∧ ns.length < 127 ∧ ns.Nodup ∧
  ∀ H' t (rs : List Run) ys, Ex H H' → H' t = some (.tup ys) → TDs H' (rs.map runD) ys → rs.length ≤ 1000 → manyR rs = ns.length → Q (.ref t) H'
theorem ok_runs {f : Addr} {fd : FuncData} (F : Fun K "_law_runs_of" "_law_runs_of" dRuns f fd) (T : Tx mg) : FnOk P w K mg base CX0 1 f fd ["_law_notes"] (spRuns K) := by
  refine F.ok cRuns (fun vs H Q E h => ?_) (fun cdv A outer s H vs Q E hr h => ?_)
  · obtain ⟨_, _, _, rfl, _⟩ := h
    rfl
  · obtain ⟨l, xs, ns, rfl, hl, td, len, nd, q⟩ := h
    refine ⟨_, pss_cons (ps_set (i := 1) cRuns.nd rfl (Or.inl rfl) (pe_lst pa_nil))
      (pss_cons (ps_for PassesOwn.never rfl (pi_list (pe_sortG (enc := noteD) (kk := noteK) rfl hr.units (by rfl) T.sorted (by rfl) T.set (pv 0))) (pg_tup rfl (pgs_cons (pg_name (i := 2) cRuns.nd rfl (.inl rfl)) (pgs_cons (pg_name (i := 3) cRuns.nd rfl (.inl rfl)) pgs_nil)))
        (pss_one (ps_if (PW.pt (pw_and (pt_cmpR op_gt (pe_callB call_len_seq (by rfl) T.len PySem.boot_len (pa_cons (pv 1) pa_nil)) pe_int (nomark _))
            (pw_and (pt_cmpR op_eq (pe_ix ix_tup (pe_ix ix_list (pv 1) (pe_un un_neg pe_int) (fun _ _ => rfl)) pe_int (fun _ _ => rfl)) (pv 2) (nomark _))
              (pw_and1 (pt_cmpR op_eq (pe_ix ix_tup (pe_ix ix_list (pv 1) (pe_un un_neg pe_int) (fun _ _ => rfl)) pe_int (fun _ _ => rfl)) (pv 3) (nomark _))))))
          (pss_one (ps_asg (pe_tup (pa_cons (pv 2) (pa_cons (pe_ix ix_tup (pe_ix ix_list (pv 1) (pe_un un_neg pe_int) (fun _ _ => rfl)) pe_int (fun _ _ => rfl)) (pa_cons (pe_op op_add (pv 3) pe_int) pa_nil)))) (pg_sub (pv 1) (pe_un un_neg pe_int) set_list)))
          (pss_one (ps_expr (pe_bm PySem.F.plainAttrs_list PySem.F.slot_list_append PySem.F.type_list_append mt_append (pv 1) (pa_cons (pe_tup (pa_cons (pv 2) (pa_cons (pv 3) (pa_cons (pe_op op_add (pv 3) pe_int) pa_nil)))) pa_nil)))))))
      (pss_one (ps_ret (pe_callTy call_tuple_of (by rfl) T.tuple (by decide +kernel) (pa_cons (pv 1) pa_nil))))), ?_⟩
    refine q_asgL (el_lst ea_nil (by decide)) fun fl H1 nfl e1 hfl => ?_
    refine r_seq (r_forL ⟨_, rfl, l, xs, ns, rfl, ex_l e1 hl, td.mono (Tk.ex e1), len, side_note ns, fun _ _ => rfl, fun sp ys bs hsp ty so => ?_⟩)
    have pm := sorted1_len (fun _ _ => noteK_inj) nd so
    have nsf : sp ≠ fl := fun z => by
      rw [z, hfl] at hsp
      cases hsp
    have e2 : Ex H (upd H1 sp (.lst ys)) := e1.trans (Ex.new hsp)
    have h2 : (upd H1 sp (.lst ys)) sp = some (.lst ys) := upd_same
    have f2 : (upd H1 sp (.lst ys)) fl = some (.lst []) := by
      rw [upd_ne nsf.symm]
      exact hfl
    have t2 : TDs (upd H1 sp (.lst ys)) (bs.map noteD) ys := ty.mono (tk_new hsp)
    generalize upd H1 sp (.lst ys) = H2 at e2 h2 f2 t2 ⊢
    have ly : ys.length = bs.length := by rw [t2.length, List.length_map]
    refine s_forL (xs := ys) ev_c (SqL.of h2) (fun i σ' H' => ∃ (y2 y3 : Option V) (rs : List Run) (acc : List V), σ' = [some (.ref l), some (.ref fl), y2, y3] ∧ Ex H H' ∧ Tk H2 H' ∧ H' sp = some (.lst ys) ∧ H' fl = some (.lst acc) ∧ TDs H' (rs.map runD) acc ∧ rs.length ≤ i ∧ manyR rs = (i : Int))
      (fun H3 e3 => ⟨none, none, [], [], rfl, e2.trans e3, Tk.ex e3, e3 _ _ h2, e3 _ _ f2, TDs.nil, Nat.le_refl _, rfl⟩) (fun i σ' H' _ ⟨_, _, _, _, _, _, _, h, _⟩ => SqL.of h) ?_ ?_
    · rintro i x σ' H' hi ⟨y2, y3, rs, acc, rfl, e, tk, hsp', hfl', ta, lr, mr⟩
      obtain ⟨d, hd, tx⟩ := TDs.getx t2 hi
      rw [List.getElem?_map] at hd
      cases hn : bs[i]? with
      | none => rw [hn] at hd; cases hd
      | some n =>
        rw [hn] at hd
        have ed : noteD n = d := Option.some.inj hd
        rw [← ed] at tx
        obtain ⟨c, rfl, hc⟩ := (tx.mono tk).note
        have li : i < 127 := by
          have := (List.getElem?_eq_some_iff.mp hn).1
          have := pm.length_eq
          omega
        refine g2 (SqT.of hc) _ ?_
        have la := ta.length
        rw [List.length_map] at la
        have lenE : Ev (tCB (fun xs H Q => ∃ p ys, xs = [V.ref p] ∧ (SqL K H p ys ∨ SqT K H p ys) ∧ Q (V.int (ys.length : Int)) H) (tCons (tVar 1) tNil)) [some (.ref l), some (.ref fl), some (.str n.1), some (.int n.2)] H' (.int ((acc.length : Nat) : Int)) :=
          ev_cb (ea_cons (ev_var rfl) ea_nil) fun H6 e6 Q k => ⟨fl, acc, rfl, .inl (sq_of (e6 _ _ hfl')), k _ (Ex.refl _)⟩
        -- a new run
        have more : ∀ (D : Ends) H5, Ex H' H5 → (∀ σ6 H6, (∃ (z2 z3 : Option V) (rs : List Run) (acc : List V), σ6 = [some (.ref l), some (.ref fl), z2, z3] ∧ Ex H H6 ∧ Tk H2 H6 ∧ H6 sp = some (.lst ys) ∧ H6 fl = some (.lst acc) ∧ TDs H6 (rs.map runD) acc ∧ rs.length ≤ i + 1 ∧ manyR rs = ((i + 1 : Nat) : Int)) → D.nx σ6 H6) →
            tDrop (tBM K "list" rAppend (tVar 1) (tCons (tTup (tCons (tVar 2) (tCons (tVar 3) (tCons (tOp (rI0 fun i j => V.int (i + j)) (tVar 3) (tC (.int 1))) tNil)))) tNil)) D [some (.ref l), some (.ref fl), some (.str n.1), some (.int n.2)] H5 := fun D H5 e5 k => by
          refine s_appU (e5 _ _ hfl') (ev_var rfl) (eu_tup (ea_cons (ev_var rfl) (ea_cons (ev_var rfl) (ea_cons (ev_op (ev_var rfl) ev_c rv_I0) ea_nil))) (by show 3 ≤ 100000; decide)) (by omega) fun pt H6 npt e6 hpt => ?_
          have hl6 := e6 _ _ (e5 _ _ hfl')
          refine k _ _ ⟨_, _, rs ++ [(n.1, n.2, n.2 + 1)], _, rfl, Ex.mut ((e.trans e5).trans e6) nfl, (tk.trans (Tk.ex (e5.trans e6))).trans (tk_lst hl6), by rw [upd_ne nsf]; exact e6 _ _ (e5 _ _ hsp'), upd_same, ?_, by rw [List.length_append, List.length_singleton]; omega, ?_⟩
          · rw [List.map_append]
            exact ((ta.mono (Tk.ex (e5.trans e6))).append (TDs.one (td_run (r := (n.1, n.2, n.2 + 1)) hpt))).mono (tk_lst hl6)
          · rw [manyR_snoc, mr]
            show (i : Int) + (n.2 + 1 - n.2) = _
            omega
        rcases snoc_cases rs with rfl | ⟨rs0, r, rfl⟩
        · have ea : acc = [] := ta
          subst ea
          refine s_if (b := false) (et_and (a := false) (b := false) (et_is (et_test (ev_op lenE ev_c rv_I0)) rfl) fun z => nomatch z) (fun z => nomatch z) fun _ H5 e5 => ?_
          exact more _ H5 e5 fun _ _ h => h
        · rw [List.map_append] at ta
          obtain ⟨acc0, a1, rfl, t0, t1⟩ := ta.split
          obtain ⟨xl, r0, rfl, txl, e0⟩ := t1
          have e0 : r0 = [] := e0
          subst e0
          obtain ⟨rb, rfl, hrb⟩ := txl.run
          have lastE : Ev (tOp (rIxL K) (tVar 1) (tUn (rU fun i => .int (-i)) (tC (.int 1)))) [some (.ref l), some (.ref fl), some (.str n.1), some (.int n.2)] H' (.ref rb) := ev_op (ev_var rfl) (ev_un ev_c ru_neg) (rv_ixL (sq_of hfl') (atI_last acc0 (V.ref rb)))
          refine s_if (b := true && (decide (V.str r.1 = V.str n.1) && decide (V.int r.2.2 = V.int n.2))) ?_ (fun hb H5 e5 => ?_) (fun _ H5 e5 => more _ H5 e5 fun _ _ h => h)
          · refine et_and (et_is (et_test (ev_op lenE ev_c rv_I0)) ?_) fun _ => et_and (et_eq (ev_ix lastE (SqT.of hrb) rfl) (ev_var rfl) rfl) fun _ => et_eq (ev_ix lastE (SqT.of hrb) rfl) (ev_var rfl) rfl
            rw [List.length_append, List.length_singleton]
            exact decide_eq_true (by omega)
          · have hb' : r.1 = n.1 ∧ r.2.2 = n.2 := by simpa using hb
            refine eu_tup (ea_cons (ev_var rfl) (ea_cons (ev_ix (lastE.mono e5) (SqT.of (e5 _ _ hrb)) rfl) (ea_cons (ev_op (ev_var rfl) ev_c rv_I0) ea_nil))) (by show 3 ≤ 100000; decide) H5 (Ex.refl _) _ fun nt H6 nnt e6 hnt => ?_
            have hfl6 := e6 _ _ (e5 _ _ hfl')
            refine ⟨_, rfl, 1, rfl, fl, _, -1, acc0.length, rfl, rfl, hfl6, ixN_last _ _, ?_⟩
            rw [set_last]
            refine ⟨_, _, rs0 ++ [(n.1, r.2.1, n.2 + 1)], _, rfl, Ex.mut ((e.trans e5).trans e6) nfl, (tk.trans (Tk.ex (e5.trans e6))).trans (tk_lst hfl6), by rw [upd_ne nsf]; exact e6 _ _ (e5 _ _ hsp'), upd_same, ?_, by rw [List.length_append, List.length_singleton] at lr ⊢; omega, ?_⟩
            · rw [List.map_append]
              exact ((t0.mono (Tk.ex (e5.trans e6))).append (TDs.one (td_run (r := (n.1, r.2.1, n.2 + 1)) hnt))).mono (tk_lst hfl6)
            · rw [manyR_snoc] at mr ⊢
              show manyR rs0 + (n.2 + 1 - r.2.1) = _
              have := hb'.2
              omega
    · rintro σ' H' ⟨y2, y3, rs, acc, rfl, e, tk, hsp', hfl', ta, lr, mr⟩
      dsimp only
      refine r_ret (r_cb (r_cons ?_))
      have := pm.length_eq
      refine ⟨_, rfl, fl, acc, rfl, .inl ⟨SqL.of hfl', fun m hm => q _ m rs acc (e.trans (Ex.new hm)) upd_same (ta.mono (tk_new hm)) (by omega) (by rw [mr]; omega)⟩⟩
end
end Pn
set_option maxHeartbeats 2000000
/-! comprehensions that draw -/
namespace Pn
open PySem L2 Evl
theorem Kb.put {F p : Addr} {H H' : Hp} {o : HO} (k : Kb F H H') (hp : H p = none) : Kb F H (L2.upd H' p o) := fun a u n h => by
  rw [upd_ne (ne_of_none h hp)]
  exact k a u n h
section
variable {K : PySem.W.Frag} {σ : L2.St} {H : Hp} {te tl : TE} {t : TT} {g : L2.TG} {vs : List Nat} {Q : VK} {F S : Addr} {c n0 : Nat}
def LkP (H : Hp) (F S : Addr) (c n0 : Nat) (R : Nat → List V → Hp → Prop) (Dl : Addr) (i : Nat) (H' : Hp) : Prop := H Dl = none ∧ Kb F H H' ∧ FD H' F S (n0 + c * i) ∧ ∃ acc, H' Dl = some (.lst acc) ∧ acc.length ≤ i ∧ R i acc H'
def TurnK (t : TT) (te : TE) (F S : Addr) (c n0 : Nat) (R : Nat → List V → Hp → Prop) (i : Nat) (σ2 : L2.St) (H1 : Hp) : Prop :=
  ∀ (Q1 : VK) (Q0 : Hp → Prop), (∀ y H4, Kb F H1 H4 → FD H4 F S (n0 + c * (i + 1)) → (∀ acc, R i acc H1 → R (i + 1) (acc ++ [y]) H4) → Q1 y H4) → (∀ H4, Kb F H1 H4 → FD H4 F S (n0 + c * (i + 1)) → (∀ acc, R i acc H1 → R (i + 1) acc H4) → Q0 H4) →
    t σ2 H1 fun b H3 => if b = true then te σ2 H3 Q1 else Q0 H3
theorem lk_turn {R : Nat → List V → Hp → Prop} (mono : ∀ j acc H1 H2, Tk H1 H2 → R j acc H1 → R j acc H2) (f0 : FD H F S n0) {Dl : Addr} {i : Nat} {H' : Hp} {σ2 : L2.St} (p : LkP H F S c n0 R Dl i H') (hi : i < 50000) (T : TurnK t te F S c n0 R i σ2 H') :
    t σ2 H' fun b H3 => if b = true then te σ2 H3 fun y H4 => ∃ acc, H4 Dl = some (.lst acc) ∧ acc.length < sizeLine ∧ LkP H F S c n0 R Dl (i + 1) (upd H4 Dl (.lst (acc ++ [y]))) else LkP H F S c n0 R Dl (i + 1) H3 := by
  obtain ⟨p1, p2, fi, acc, p3, p4, p5⟩ := p
  have nF := f0.new p1
  have nS := f0.newS p1
  refine T _ _ (fun y H4 k4 f4 r => ?_) fun H4 k4 f4 r => ?_
  · have h4 := k4 _ _ nF p3
    exact ⟨acc, h4, sz_lt (by omega), p1, (p2.trans k4).put p1, f4.upd nF nS, acc ++ [y], upd_same, by rw [List.length_append, List.length_singleton]; omega, mono _ _ _ _ (tk_lst h4) (r acc p5)⟩
  · exact ⟨p1, p2.trans k4, f4, acc, k4 _ _ nF p3, by omega, r acc p5⟩
theorem lkL {a : Addr} {xs : List V} (c : Nat) (R : Nat → List V → Hp → Prop) (mono : ∀ j acc H1 H2, Tk H1 H2 → R j acc H1 → R j acc H2) (f0 : FD H F S n0) (hz : xs.length ≤ 40000) (keep : ∀ H', Kb F H H' → SqL K H' a xs) (h0 : R 0 [] H)
    (hs : ∀ (i : Nat) (x : V) H1, xs[i]? = some x → Kb F H H1 → FD H1 F S (n0 + c * i) → ∃ σ2, (∀ N : L2.St → Hp → Prop, N σ2 H1 → g x (wipe σ vs) H1 N) ∧ wipe σ2 vs = wipe σ vs ∧ TurnK t te F S c n0 R i σ2 H1)
    (q : ∀ p H2 acc, H p = none → Kb F H H2 → FD H2 F S (n0 + c * xs.length) → H2 p = some (.lst acc) → acc.length ≤ xs.length → R xs.length acc H2 → Q (.ref p) H2) : tLc (iList K (tC (.ref a))) g t te vs σ H Q :=
  ⟨a, rfl, ⟨xs, keep H (Kb.refl _ _)⟩, fun Dl hD =>
  lc_list (xs := xs) (LkP H F S c n0 R Dl) ⟨hD, (Kb.refl F H).put hD, f0.upd (f0.new hD) (f0.newS hD), [], upd_same, Nat.le_refl _, mono _ _ _ _ (tk_new hD) h0⟩ (fun i H' _ p => keep H' p.2.1) (fun i x H' hi p => by
    obtain ⟨σ2, h1, h2, h3⟩ := hs i x H' hi p.2.1 p.2.2.1
    exact h1 _ ⟨h2, lk_turn mono f0 p (by have := (List.getElem?_eq_some_iff.mp hi).1; omega) h3⟩)
    (fun H' ⟨p1, p2, p3, acc, p4, p5, p6⟩ => q Dl H' acc p1 p2 p3 p4 p5 p6)⟩
theorem lkT {a : Addr} {xs : List V} (c : Nat) (R : Nat → List V → Hp → Prop) (mono : ∀ j acc H1 H2, Tk H1 H2 → R j acc H1 → R j acc H2) (f0 : FD H F S n0) (hz : xs.length ≤ 40000) (keep : ∀ H', Kb F H H' → SqT K H' a xs) (h0 : R 0 [] H)
    (hs : ∀ (i : Nat) (x : V) H1, xs[i]? = some x → Kb F H H1 → FD H1 F S (n0 + c * i) → ∃ σ2, (∀ N : L2.St → Hp → Prop, N σ2 H1 → g x (wipe σ vs) H1 N) ∧ wipe σ2 vs = wipe σ vs ∧ TurnK t te F S c n0 R i σ2 H1)
    (q : ∀ p H2 acc, H p = none → Kb F H H2 → FD H2 F S (n0 + c * xs.length) → H2 p = some (.lst acc) → acc.length ≤ xs.length → R xs.length acc H2 → Q (.ref p) H2) : tLc (iTup K (tC (.ref a))) g t te vs σ H Q :=
  ⟨a, rfl, ⟨xs, keep H (Kb.refl _ _)⟩, fun Dl hD =>
  lc_tup (xs := xs) (LkP H F S c n0 R Dl) ⟨hD, (Kb.refl F H).put hD, f0.upd (f0.new hD) (f0.newS hD), [], upd_same, Nat.le_refl _, mono _ _ _ _ (tk_new hD) h0⟩ (fun i H' _ p => keep H' p.2.1) (fun i x H' hi p => by
    obtain ⟨σ2, h1, h2, h3⟩ := hs i x H' hi p.2.1 p.2.2.1
    exact h1 _ ⟨h2, lk_turn mono f0 p (by have := (List.getElem?_eq_some_iff.mp hi).1; omega) h3⟩)
    (fun H' ⟨p1, p2, p3, acc, p4, p5, p6⟩ => q Dl H' acc p1 p2 p3 p4 p5 p6)⟩
theorem lkR {n : Nat} (c : Nat) (R : Nat → List V → Hp → Prop) (mono : ∀ j acc H1 H2, Tk H1 H2 → R j acc H1 → R j acc H2) (f0 : FD H F S n0) (hz : n ≤ 40000) (h0 : R 0 [] H)
    (hs : ∀ (i : Nat) H1, i < n → Kb F H H1 → FD H1 F S (n0 + c * i) → ∃ σ2, (∀ N : L2.St → Hp → Prop, N σ2 H1 → g (.int (i : Int)) (wipe σ vs) H1 N) ∧ wipe σ2 vs = wipe σ vs ∧ TurnK t te F S c n0 R i σ2 H1)
    (q : ∀ p H2 acc, H p = none → Kb F H H2 → FD H2 F S (n0 + c * n) → H2 p = some (.lst acc) → acc.length ≤ n → R n acc H2 → Q (.ref p) H2) : tLc (iRng1 (tCons (tC (.int (n : Int))) tNil)) g t te vs σ H Q :=
  ⟨(n : Int), rfl, by omega, by omega, fun Dl hD =>
  lc_range (lo := 0) (n := n) (LkP H F S c n0 R Dl) ⟨hD, (Kb.refl F H).put hD, f0.upd (f0.new hD) (f0.newS hD), [], upd_same, Nat.le_refl _, mono _ _ _ _ (tk_new hD) h0⟩ (fun i H' hi p => by
    have e0 : (0 : Int) + (i : Int) = (i : Int) := Int.zero_add _
    obtain ⟨σ2, h1, h2, h3⟩ := hs i H' hi p.2.1 p.2.2.1
    rw [e0]
    exact h1 _ ⟨h2, lk_turn mono f0 p (by omega) h3⟩)
    (fun H' ⟨p1, p2, p3, acc, p4, p5, p6⟩ => q Dl H' acc p1 p2 p3 p4 p5 p6)⟩
end
abbrev Way := Str × Str
def wayD (r : Way) : PyData := .tuple [.str r.1, .str r.2]
def wayK (r : Way) : List Key := [.inr r.1, .inr r.2]
def worthD (n : Note) : PyData := noteD n
def WaysOk (ways : List Way) : Prop := ways ≠ [] ∧ ways.length ≤ 100 ∧ ∀ r ∈ ways, r.1 ≠ r.2 ∧ r.2 ≠ "none"
theorem wayK_inj {n m : Way} (h : wayK n = wayK m) : n = m := by
  obtain ⟨a, b⟩ := n
  obtain ⟨a', b'⟩ := m
  unfold wayK at h
  injection h with h1 h
  injection h with h2 h
  injection h1 with h1
  injection h2 with h2
  dsimp only at h1 h2
  rw [h1, h2]
theorem side_way (bs : List Way) : SortSide wayD bs where
  al := fun d hd d' hd' => by
    obtain ⟨b, _, rfl⟩ := List.mem_map.mp hd
    obtain ⟨b', _, rfl⟩ := List.mem_map.mp hd'
    rfl
  so := .inl fun d hd => by
    obtain ⟨b, _, rfl⟩ := List.mem_map.mp hd
    exact ⟨_, _, rfl⟩
  dp := fun b _ => by
    show (1 : Nat) ≤ 8
    decide
theorem TD.way {H : Hp} {n : Way} {v : V} (h : TD H (wayD n) v) : ∃ a, v = .ref a ∧ H a = some (.tup [.str n.1, .str n.2]) := by
  obtain ⟨a, xs, rfl, ha, hs⟩ := h
  obtain ⟨x, y, rfl, h1, h2⟩ := hs.two
  have e1 : x = .str n.1 := h1
  have e2 : y = .str n.2 := h2
  subst e1 e2
  exact ⟨a, rfl, ha⟩
theorem td_way {H : Hp} {n : Way} {a : Addr} (h : H a = some (.tup [.str n.1, .str n.2])) : TD H (wayD n) (.ref a) := TD.tup h (TDs.cons (d := .str n.1) rfl (TDs.one (d := .str n.2) rfl))
theorem td_note {H : Hp} {n : Note} {a : Addr} (h : H a = some (.tup [.str n.1, .int n.2])) : TD H (noteD n) (.ref a) := TD.tup h (TDs.cons (d := .str n.1) rfl (TDs.one (d := .int n.2) rfl))
theorem td_strs {H : Hp} : ∀ {bs : List Str} {xs : List V}, TDs H (bs.map PyData.str) xs → xs = bs.map V.str
  | [], _, h => h
  | b :: bs, _, h => by
    obtain ⟨x, r, rfl, h1, h2⟩ := h
    have e : x = .str b := h1
    rw [e, td_strs h2]
    rfl
theorem strs_td {H : Hp} : ∀ (bs : List Str), TDs H (bs.map PyData.str) (bs.map V.str)
  | [] => rfl
  | b :: bs => ⟨.str b, bs.map V.str, rfl, rfl, strs_td bs⟩
theorem cut_to (xs : List V) (k : Nat) : cutV xs none (some (k : Int)) = xs.take k := by
  unfold cutV
  rw [HT.sIx_none, HT.sIx_nat, List.drop_zero, Nat.sub_zero]
  by_cases h : k ≤ xs.length
  · rw [Nat.min_eq_left h]
  · rw [Nat.min_eq_right (by omega), List.take_length, List.take_of_length_le (by omega)]
theorem cut_from (xs : List V) (k : Nat) : cutV xs (some (k : Int)) none = xs.drop k := by
  unfold cutV
  rw [HT.sIx_none, HT.sIx_nat]
  by_cases h : k ≤ xs.length
  · rw [Nat.min_eq_left h, List.take_of_length_le (by rw [List.length_drop]; omega)]
  · rw [Nat.min_eq_right (by omega), List.drop_length, List.drop_eq_nil_of_le (by omega), List.take_nil]
end Pn
set_option maxHeartbeats 4000000
/-! _law_office -/
namespace Pn
open PySem L2 Evl
section
variable {X : Cx}
theorem ilc (K : PySem.W.Frag) (e : X.K = K) : IxR X (rIxL K) := by
  subst e
  exact ix_list
end
theorem atI_pick {α : Type} {xs : List α} {r : Int} (r0 : 0 ≤ r) (r1 : r < (xs.length : Int)) : ∃ v, v ∈ xs ∧ atI xs r = some v := by
  obtain ⟨j, rfl⟩ := Int.eq_ofNat_of_zero_le r0
  have lj : j < xs.length := by omega
  exact ⟨xs[j], List.getElem_mem lj, atI_nat (List.getElem?_eq_getElem lj)⟩
theorem pick_str {xs : List Str} {r : Int} (r0 : 0 ≤ r) (r1 : r < ((xs.map V.str).length : Int)) : ∃ z ∈ xs, atI (xs.map V.str) r = some (.str z) := by
  obtain ⟨v, hv, h⟩ := atI_pick r0 r1
  obtain ⟨z, hz, rfl⟩ := List.mem_map.mp hv
  exact ⟨z, hz, h⟩
theorem nd_len {α : Type} [DecidableEq α] : ∀ {l m : List α}, l.Nodup → (∀ x ∈ l, x ∈ m) → l.length ≤ m.length
  | [], _, _, _ => Nat.zero_le _
  | x :: l, m, nd, h => by
    obtain ⟨n1, n2⟩ := List.nodup_cons.mp nd
    have hx := h x List.mem_cons_self
    have ih := nd_len (l := l) (m := m.erase x) n2 fun y hy => (List.mem_erase_of_ne (fun (e : y = x) => n1 (by rw [← e]; exact hy))).mpr (h y (List.mem_cons_of_mem _ hy))
    rw [List.length_erase_of_mem hx] at ih
    have := List.length_pos_of_mem hx
    rw [List.length_cons]
    omega
section
variable {K : PySem.W.Frag} {σ : L2.St} {H : Hp} {te : TE} {g : L2.TG} {D : Ends} {tu : TS}
theorem r_yes {Q1 : VK} {Q0 : Hp → Prop} (h : te σ H Q1) : tYes σ H fun b H3 => if b = true then te σ H3 Q1 else Q0 H3 := by
  show (if true = true then te σ H Q1 else Q0 H)
  rw [if_pos rfl]
  exact h
theorem r_forR (h : te σ H fun x H1 => tFor (iRng1 (tCons (tC x) tNil)) g tu D σ H1) : tFor (iRng1 (tCons te tNil)) g tu D σ H := h
end
section
variable {P : Program} {w : World} {K : PySem.W.Frag} {mg : Str → Option Value} {base : Heap}
def spOffice : Sp := fun vs H Q _ => ∃ (F S : Addr) (n : Nat), vs = [.ref F] ∧ FD H F S n ∧ n ≤ 40000 ∧
  ∀ (H' : Hp) (t wt yt : Addr) (wxs yxs : List V) (ws : List Note) (ways : List Way), Kb F H H' → FD H' F S (n + 100) → H' t = some (.tup [.ref wt, .ref yt]) → H' wt = some (.tup wxs) → TDs H' (ws.map noteD) wxs → ws ≠ [] → ws.length ≤ 100 → H' yt = some (.tup yxs) → TDs H' (ways.map wayD) yxs → WaysOk ways → Q (.ref t) H'
theorem ok_office {f : Addr} {fd : FuncData} (F : Fun K "_law_office" "_law_office" dOffice f fd) (T : Tx mg) (GD : Dfn P w K mg base 1 "_law_draw" ["_law_feed_here", "_law_many"] spDraw) (GW : Dfn P w K mg base 2 "_law_words" ["_law_feed_here"] spWords) :
    FnOk P w K mg base CX0 3 f fd ["_law_feed_here"] spOffice := by
  refine F.ok cOffice (fun vs H Q E h => ?_) (fun cdv A outer s H vs Q E hr h => ?_)
  · obtain ⟨_, _, _, rfl, _⟩ := h
    rfl
  · obtain ⟨F, S, n, rfl, f0, nb, q⟩ := h
    have hr1 := hr.mono (show 1 ≤ 2 by decide)
    refine ⟨_, pss_cons (ps_set (i := 1) cOffice.nd rfl (Or.inl rfl) (pe_call GW.ok hr rfl GW.at_ GW.kp GW.bd .nil pass0 (pa_cons (pv 0) pa_nil)))
      (pss_cons (ps_set (i := 2) cOffice.nd rfl (Or.inl rfl) (pe_slice sl_list (pv 1) po_none (po_some (pe_op op_add pe_int (pe_call GD.ok hr1 rfl GD.at_ GD.kp GD.bd .nil pass0 (pa_cons (pv 0) (pa_cons pe_int pa_nil)))))))
      (pss_cons (ps_set (i := 3) cOffice.nd rfl (Or.inl rfl) (pe_lst (pa_cons (pe_tup (pa_cons pe_str (pa_cons (pe_ix ix_list (pv 2) (pe_call GD.ok hr1 rfl GD.at_ GD.kp GD.bd .nil pass0 (pa_cons (pv 0) (pa_cons (pe_callB call_len_seq (by rfl) T.len PySem.boot_len (pa_cons (pv 2) pa_nil)) pa_nil))) (fun _ _ => rfl)) pa_nil))) pa_nil)))
      (pss_cons (ps_for PassesOwn.never rfl (pi_range1 rfl T.range (pa_cons (pe_op op_add pe_int (pe_call GD.ok hr1 rfl GD.at_ GD.kp GD.bd .nil pass0 (pa_cons (pv 0) (pa_cons pe_int pa_nil)))) pa_nil)) (pg_name (i := 4) cOffice.nd rfl (Or.inl rfl))
        (pss_cons (ps_set (i := 5) cOffice.nd rfl (Or.inl rfl) (pe_ix ix_list (pe_op op_cat (pv 2) (pe_lst (pa_cons pe_str pa_nil))) (pe_call GD.ok hr1 rfl GD.at_ GD.kp GD.bd .nil pass0 (pa_cons (pv 0) (pa_cons (pe_op op_add (pe_callB call_len_seq (by rfl) T.len PySem.boot_len (pa_cons (pv 2) pa_nil)) pe_int) pa_nil))) (fun _ _ => rfl)))
        (pss_cons (ps_set (i := 6) cOffice.nd rfl (Or.inl rfl) (pe_ix ix_list (pv 2) (pe_call GD.ok hr1 rfl GD.at_ GD.kp GD.bd .nil pass0 (pa_cons (pv 0) (pa_cons (pe_callB call_len_seq (by rfl) T.len PySem.boot_len (pa_cons (pv 2) pa_nil)) pa_nil))) (fun _ _ => rfl)))
        (pss_one (ps_if (pt_cmpR op_ne (pv 5) (pv 6) (nomark _)) (pss_one (ps_expr (pe_bm PySem.F.plainAttrs_list PySem.F.slot_list_append PySem.F.type_list_append mt_append (pv 3) (pa_cons (pe_tup (pa_cons (pv 5) (pa_cons (pv 6) pa_nil))) pa_nil)))) pss_nil)))))
      (pss_cons (ps_set (i := 7) cOffice.nd rfl (Or.inl rfl) (pe_slice sl_list (pe_ix ix_list (pe_lst (pa_cons (pe_lst (pa_cons pe_str (pa_cons pe_str (pa_cons pe_str pa_nil)))) (pa_cons (pe_lst (pa_cons pe_str (pa_cons pe_str (pa_cons pe_str pa_nil)))) (pa_cons (pe_lst (pa_cons pe_str (pa_cons pe_str (pa_cons pe_str pa_nil)))) pa_nil))))
          (pe_call GD.ok hr1 rfl GD.at_ GD.kp GD.bd .nil pass0 (pa_cons (pv 0) (pa_cons pe_int pa_nil))) (fun _ _ => rfl)) po_none (po_some (pe_op op_add pe_int (pe_call GD.ok hr1 rfl GD.at_ GD.kp GD.bd .nil pass0 (pa_cons (pv 0) (pa_cons pe_int pa_nil)))))))
      (pss_cons (ps_set (i := 8) cOffice.nd rfl (Or.inl rfl) (pe_callTy call_tuple_of (by rfl) T.tuple (by decide +kernel) (pa_cons
          (pe_lc (own := [("_law_word", 9)]) (g := gName 9) (tt := tYes) rfl cOffice.nd (pi_list (pe_callB (cr_sortD hr.units PyData.str) (by rfl) T.sorted (by decide +kernel) (pa_cons (pv 7) pa_nil)))
            (blkOk_by (N := ["_law_feed_here", "_law_words_here", "_law_places", "_law_ways", "_law_k", "_law_one", "_law_other", "_law_series", "_law_worths", "_law_word"]) (sc := defScope dOffice) (by decide +kernel))
            (fun _ _ _ _ _ => pg_name (i := 9) cOffice.nd rfl (Or.inl rfl)) (fun _ _ _ _ _ => pts_nil)
            (fun _ _ _ _ _ => pe_tup (pa_cons (pv 9) (pa_cons (pe_ix (ilc K rfl) (pe_lst (pa_cons pe_int (pa_cons pe_int (pa_cons pe_int pa_nil)))) (pe_call GD.ok hr1 rfl GD.at_ GD.kp GD.bd .nil pass0 (pa_cons (pv 0) (pa_cons pe_int pa_nil))) (fun _ _ => rfl)) pa_nil)))) pa_nil)))
      (pss_one (ps_ret (pe_tup (pa_cons (pv 8) (pa_cons (pe_callTy call_tuple_of (by rfl) T.tuple (by decide +kernel) (pa_cons (pe_sortG (enc := wayD) (kk := wayK) rfl hr.units (by rfl) T.sorted (by rfl) T.set (pv 3)) pa_nil)) pa_nil)))))))))), ?_⟩
    -- words
    refine r_seq (r_set ⟨_, rfl, F, S, n, rfl, f0, by omega, fun H1 wl wsl k1 f1 nwl hwl lw nn => ?_⟩)
    dsimp only
    -- places
    refine r_seq (r_set ⟨_, rfl, _, rfl, F, S, 4, n + 1, rfl, f1, by omega, by decide, by decide, fun H2 r k2 f2 r0 r4 => ⟨2, r, rfl, rfl, _, rfl, wl, wsl.map V.str, rfl, SqL.of (k2 _ _ nwl hwl), fun Pl hPl => ?_⟩⟩)
    dsimp only
    obtain ⟨pl, epl, pl2, pl5, pln⟩ : ∃ pl : List Str, cutV (wsl.map V.str) none (some (2 + r)) = pl.map V.str ∧ 2 ≤ pl.length ∧ pl.length ≤ 5 ∧ ∀ z ∈ pl, z ≠ "none" := by
      obtain ⟨j, rfl⟩ := Int.eq_ofNat_of_zero_le r0
      refine ⟨wsl.take (2 + j), ?_, by rw [List.length_take]; omega, by rw [List.length_take]; omega, fun z hz => nn z (List.mem_of_mem_take hz)⟩
      rw [show (2 : Int) + (j : Int) = ((2 + j : Nat) : Int) by omega, cut_to, List.map_take]
    rw [epl]
    have k3 : Kb F H (upd H2 Pl (.lst (pl.map V.str))) := (k1.trans k2).trans (Kb.ex (Ex.new hPl))
    have f3 : FD (upd H2 Pl (.lst (pl.map V.str))) F S (n + 2) := f2.upd (f2.new hPl) (f2.newS hPl)
    have nP := f2.new hPl
    have hP : (upd H2 Pl (.lst (pl.map V.str))) Pl = some (.lst (pl.map V.str)) := upd_same
    show tSeq _ _ _ _ (upd H2 Pl (.lst (pl.map V.str)))
    generalize upd H2 Pl (.lst (pl.map V.str)) = H3 at k3 f3 hP ⊢
    have lpm : (pl.map V.str).length = pl.length := List.length_map _
    -- ways
    refine r_seq (r_set ⟨_, rfl, _, rfl, _, rfl, Pl, _, rfl, .inl (SqL.of hP), F, S, _, n + 2, rfl, f3, by omega, by omega, by omega, fun H4 r' k4 f4 r0' r1' => ?_⟩)
    obtain ⟨z0, hz0, hat0⟩ := pick_str r0' r1'
    refine ⟨Pl, _, r', .str z0, rfl, rfl, SqL.of (k4 _ _ nP hP), hat0, by show 2 ≤ sizeLine; decide, fun tp htp => ⟨by show 1 ≤ sizeLine; decide, fun W hW => ?_⟩⟩
    dsimp only
    have e45 := (Ex.new (o := .tup [.str "none", .str z0]) htp).trans (Ex.new (o := .lst [.ref tp]) hW)
    have k5 := (k3.trans k4).trans (Kb.ex e45)
    have f5 := f4.ex e45
    have hP5 := e45 _ _ (k4 _ _ nP hP)
    have tp5 : (upd (upd H4 tp (.tup [.str "none", .str z0])) W (.lst [.ref tp])) tp = some (.tup [.str "none", .str z0]) := Ex.new hW _ _ upd_same
    have hW5 : (upd (upd H4 tp (.tup [.str "none", .str z0])) W (.lst [.ref tp])) W = some (.lst [.ref tp]) := upd_same
    have hW4 : H4 W = none := fresh_back (Ex.new htp) hW
    have nWF := f4.new hW4
    have nWS := f4.newS hW4
    have nWP : W ≠ Pl := (ne_of_none (k4 _ _ nP hP) hW4).symm
    have nW0 : H W = none := by
      cases e : H W with
      | none => rfl
      | some o =>
        have := (k3.trans k4) W o nWF e
        rw [hW4] at this
        cases this
    show tSeq _ _ _ _ (upd (upd H4 tp (.tup [.str "none", .str z0])) W (.lst [.ref tp]))
    generalize upd (upd H4 tp (.tup [.str "none", .str z0])) W (.lst [.ref tp]) = H5 at k5 f5 hP5 tp5 hW5 ⊢
    -- the loop
    refine r_seq (r_forR ⟨_, rfl, F, S, 10, n + 3, rfl, f5, by omega, by decide, by decide, fun H6 r6 k6 f6 r60 r61 => ⟨2, r6, rfl, rfl, ?_⟩⟩)
    refine s_forR1 (n := 2 + r6) (ea_cons ev_c ea_nil) ⟨by omega, by omega⟩ (fun i σ' H' => ∃ (y4 y5 y6 : Option V) (acc : List V) (ways : List Way), σ' = [some (.ref F), some (.ref wl), some (.ref Pl), some (.ref W), y4, y5, y6, none, none, none] ∧ Kb F H H' ∧ H' Pl = some (.lst (pl.map V.str)) ∧ FD H' F S (n + 4 + 2 * i) ∧
        H' W = some (.lst acc) ∧ TDs H' (ways.map wayD) acc ∧ ways ≠ [] ∧ ways.length ≤ i + 1 ∧ ∀ r ∈ ways, r.1 ≠ r.2 ∧ r.2 ≠ "none") (fun H7 e7 => ?_) ?_ ?_
    · have tp6 := k6 tp _ (fun z => by
        obtain ⟨ys, hy⟩ := f5.at
        rw [← z, tp5] at hy
        cases hy) tp5
      refine ⟨none, none, none, [.ref tp], [("none", z0)], rfl, (k5.trans k6).trans (Kb.ex e7), e7 _ _ (k6 _ _ nP hP5), (f6.ex e7).more (by omega), e7 _ _ (k6 _ _ nWF hW5), TDs.one (td_way (n := ("none", z0)) (e7 _ _ tp6)), (fun z => by cases z), Nat.le_refl _, fun r hr => ?_⟩
      rw [List.mem_singleton.mp hr]
      exact ⟨(pln z0 hz0).symm, pln z0 hz0⟩
    · rintro i σ' H' hi ⟨y4, y5, y6, acc, ways, rfl, k, hPi, fi, hWi, tw, nw, lw', ow⟩
      have li : i < 11 := by omega
      refine r_seq (r_set (r_op ⟨_, rfl, by show 1 ≤ sizeLine; decide, fun nl hnl => ⟨Pl, nl, _, _, rfl, rfl, Ex.new hnl _ _ hPi, upd_same, by rw [lpm]; exact sz_of (by show pl.length + 1 ≤ 100000; omega), fun cl hcl => ?_⟩⟩))
      have en := (Ex.new (o := .lst [.str "none"]) hnl).trans (Ex.new (o := .lst (pl.map V.str ++ [.str "none"])) hcl)
      refine ⟨_, rfl, _, rfl, Pl, _, rfl, .inl (SqL.of (en _ _ hPi)), _, 1, rfl, rfl, F, S, _, n + 4 + 2 * i, rfl, fi.ex en, by omega, by omega, by omega, fun H7 r7 k7 f7 r70 r71 => ?_⟩
      have ncl : cl ≠ F := (fi.ex (Ex.new hnl)).new hcl
      have hcl7 : H7 cl = some (.lst ((pl ++ (["none"] : List Str)).map V.str)) := by
        rw [List.map_append]
        exact k7 _ _ ncl upd_same
      obtain ⟨z1, hz1, hat1⟩ := pick_str (xs := pl ++ (["none"] : List Str)) r70 (by rw [List.length_map, List.length_append]; rw [lpm] at r71; show r7 < ((pl.length + 1 : Nat) : Int); omega)
      refine ⟨cl, _, r7, .str z1, rfl, rfl, SqL.of hcl7, hat1, ?_⟩
      dsimp only
      have k07 := (k.trans (Kb.ex en)).trans k7
      have hP7 := k7 _ _ nP (en _ _ hPi)
      have hW7 := k7 _ _ nWF (en _ _ hWi)
      have tw7 := (tw.mono (Tk.ex en)).mono ((fi.ex en).tk k7)
      refine r_seq (r_set (r_op ⟨_, rfl, _, rfl, _, rfl, Pl, _, rfl, .inl (SqL.of hP7), F, S, _, n + 4 + 2 * i + 1, rfl, f7, by omega, by omega, by omega, fun H8 r8 k8 f8 r80 r81 => ?_⟩))
      obtain ⟨z2, hz2, hat2⟩ := pick_str r80 r81
      have hP8 := k8 _ _ nP hP7
      refine ⟨Pl, _, r8, .str z2, rfl, rfl, SqL.of hP8, hat2, ?_⟩
      dsimp only
      have hW8 := k8 _ _ nWF hW7
      have tw8 := tw7.mono (f7.tk k8)
      have k08 := k07.trans k8
      have f8' : FD H8 F S (n + 4 + 2 * (i + 1)) := f8.more (by omega)
      refine s_when (b := !decide (V.str z1 = V.str z2)) (et_ne (ev_var rfl) (ev_var rfl) rfl) (fun hb H9 e9 => ?_) (fun hb H9 e9 => ?_)
      · have ne : z1 ≠ z2 := by simpa using hb
        have lt := tw.length
        rw [List.length_map] at lt
        refine s_appU (e9 _ _ hW8) (ev_var rfl) (eu_tup (ea_cons (ev_var rfl) (ea_cons (ev_var rfl) ea_nil)) (by show 2 ≤ 100000; decide)) (by omega) fun pt H10 npt e10 hpt => ?_
        have hW10 := e10 _ _ (e9 _ _ hW8)
        refine ⟨_, _, _, _, ways ++ [(z1, z2)], rfl, (k08.trans (Kb.ex (e9.trans e10))).put nW0, by rw [upd_ne nWP.symm]; exact e10 _ _ (e9 _ _ hP8), ((f8'.ex e9).ex e10).upd nWF nWS, upd_same, ?_, by simp, by rw [List.length_append, List.length_singleton]; omega, fun r hr => ?_⟩
        · rw [List.map_append]
          exact ((tw8.mono (Tk.ex (e9.trans e10))).append (TDs.one (td_way (n := (z1, z2)) hpt))).mono (tk_lst hW10)
        · rcases List.mem_append.mp hr with h | h
          · exact ow r h
          · rw [List.mem_singleton.mp h]
            exact ⟨ne, pln z2 hz2⟩
      · exact ⟨_, _, _, acc, ways, rfl, k08.trans (Kb.ex e9), e9 _ _ hP8, f8'.ex e9, e9 _ _ hW8, tw8.mono (Tk.ex e9), nw, by omega, ow⟩
    · rintro σ' H7 ⟨y4, y5, y6, acc, ways, rfl, k7, hP7, f7, hW7, tw, nw, lw', ow⟩
      have f7' : FD H7 F S (n + 30) := f7.more (by omega)
      dsimp only
      -- series
      have h3 : 3 ≤ sizeLine := by decide
      refine r_seq (r_set ⟨h3, fun l1 hl1 => ⟨h3, fun l2 hl2 => ⟨h3, fun l3 hl3 => ⟨h3, fun ol hol => ?_⟩⟩⟩⟩)
      have e1 := Ex.new (o := .lst ((["a", "b", "c"] : List Str).map V.str)) hl1
      have e2 := Ex.new (o := .lst ((["ab", "abc", "b"] : List Str).map V.str)) hl2
      have e3 := Ex.new (o := .lst ((["none", "move", "x"] : List Str).map V.str)) hl3
      have e4 := Ex.new (o := .lst [.ref l1, .ref l2, .ref l3]) hol
      have ee := e1.trans (e2.trans (e3.trans e4))
      have c1 := e4 _ _ (e3 _ _ (e2 l1 _ (show _ = some (.lst ((["a", "b", "c"] : List Str).map V.str)) from upd_same)))
      have c2 := e4 _ _ (e3 l2 _ (show _ = some (.lst ((["ab", "abc", "b"] : List Str).map V.str)) from upd_same))
      have c3 := e4 l3 _ (show _ = some (.lst ((["none", "move", "x"] : List Str).map V.str)) from upd_same)
      have n1 := f7'.new hl1
      have n2 := (f7'.ex e1).new hl2
      have n3 := ((f7'.ex e1).ex e2).new hl3
      have n4 := (((f7'.ex e1).ex e2).ex e3).new hol
      refine ⟨_, rfl, F, S, 3, n + 30, rfl, f7'.ex ee, by omega, by decide, by decide, fun H8 r8 k8 f8 r80 r83 => ?_⟩
      have ho8 := k8 ol _ n4 (show _ = some (.lst [.ref l1, .ref l2, .ref l3]) from upd_same)
      obtain ⟨sl, cs, hsl, hcs, lcs, nsl⟩ : ∃ (sl : Addr) (cs : List Str), atI [V.ref l1, V.ref l2, V.ref l3] r8 = some (.ref sl) ∧ H8 sl = some (.lst (cs.map V.str)) ∧ cs.length = 3 ∧ sl ≠ F := by
        have : r8 = 0 ∨ r8 = 1 ∨ r8 = 2 := by omega
        rcases this with rfl | rfl | rfl
        · exact ⟨l1, _, rfl, k8 _ _ n1 c1, rfl, n1⟩
        · exact ⟨l2, _, rfl, k8 _ _ n2 c2, rfl, n2⟩
        · exact ⟨l3, _, rfl, k8 _ _ n3 c3, rfl, n3⟩
      refine ⟨ol, _, r8, .ref sl, rfl, rfl, SqL.of ho8, hsl, _, rfl, F, S, 3, n + 31, rfl, f8, by omega, by decide, by decide, fun H9 r9 k9 f9 r90 r93 => ⟨1, r9, rfl, rfl, _, rfl, sl, cs.map V.str, rfl, SqL.of (k9 _ _ nsl hcs), fun sp hsp => ?_⟩⟩
      dsimp only
      obtain ⟨sr, esr, sr1, sr3⟩ : ∃ sr : List Str, cutV (cs.map V.str) none (some (1 + r9)) = sr.map V.str ∧ 1 ≤ sr.length ∧ sr.length ≤ 3 := by
        obtain ⟨j, rfl⟩ := Int.eq_ofNat_of_zero_le r90
        refine ⟨cs.take (1 + j), ?_, by rw [List.length_take]; omega, by rw [List.length_take]; omega⟩
        rw [show (1 : Int) + (j : Int) = ((1 + j : Nat) : Int) by omega, cut_to, List.map_take]
      rw [esr]
      have kA : Kb F H7 (upd H9 sp (.lst (sr.map V.str))) := (((Kb.ex ee).trans k8).trans k9).trans (Kb.ex (Ex.new hsp))
      have fA : FD (upd H9 sp (.lst (sr.map V.str))) F S (n + 32) := f9.ex (Ex.new hsp)
      have hsA : (upd H9 sp (.lst (sr.map V.str))) sp = some (.lst (sr.map V.str)) := upd_same
      have nsp := f9.new hsp
      show tSeq _ _ _ _ (upd H9 sp (.lst (sr.map V.str)))
      generalize upd H9 sp (.lst (sr.map V.str)) = HA at kA fA hsA ⊢
      -- worths
      refine r_seq (r_set (r_cb (r_cons (r_lcL ⟨_, rfl, sp, sr.map V.str, sr, rfl, SqL.of hsA, strs_td sr, ?_, ?_, ?_, fun so ys hso tys => ?_⟩))))
      · intro d hd d' hd'
        obtain ⟨b, _, rfl⟩ := List.mem_map.mp hd
        obtain ⟨b', _, rfl⟩ := List.mem_map.mp hd'
        rfl
      · refine .inr fun d hd => ?_
        obtain ⟨b, _, rfl⟩ := List.mem_map.mp hd
        exact ⟨fun e => (nomatch e), fun _ e => (nomatch e)⟩
      · intro b _
        show (0 : Nat) ≤ 8
        omega
      have eys := td_strs tys
      have lss : (sr.mergeSort (PySem.W.dataLe false PyData.str)).length = sr.length := (List.mergeSort_perm _ _).length_eq
      generalize sr.mergeSort (PySem.W.dataLe false PyData.str) = ss at eys lss
      subst eys
      have nso := fA.new hso
      have fB := fA.ex (Ex.new (o := .lst (ss.map V.str)) hso)
      have kB := kA.trans (Kb.ex (Ex.new (o := .lst (ss.map V.str)) hso))
      have hsB : (upd HA so (.lst (ss.map V.str))) so = some (.lst (ss.map V.str)) := upd_same
      generalize upd HA so (.lst (ss.map V.str)) = HB at fB kB hsB ⊢
      refine lkL (F := F) (S := S) (n0 := n + 32) (xs := ss.map V.str) 1 (fun i acc H' => ∃ ws : List Note, TDs H' (ws.map noteD) acc ∧ ws.length = i) (fun _ _ _ _ k ⟨ws, h1, h2⟩ => ⟨ws, h1.mono k, h2⟩) fB (by rw [List.length_map]; omega) (fun H' k => SqL.of (k _ _ nso hsB)) ⟨[], TDs.nil, rfl⟩ (fun i x HC hi kC fC => ?_) fun wl2 HC acc2 hwl2 kC fC hwC lC hR => ?_
      · obtain ⟨z, hz, rfl⟩ := List.mem_map.mp (List.mem_of_getElem? hi)
        refine ⟨_, fun N k => k, rfl, fun Q1 Q0 q1 q0 => ?_⟩
        have li : i < 3 := by
          have := (List.getElem?_eq_some_iff.mp hi).1
          rw [List.length_map] at this
          omega
        refine r_yes ?_
        refine ⟨_, rfl, h3, fun il hil => ⟨_, rfl, F, S, 3, n + 32 + 1 * i, rfl, fC.ex (Ex.new hil), by omega, by decide, by decide, fun HD rD kD fD rD0 rD3 => ?_⟩⟩
        have nil_ := fC.new hil
        have hiD := kD il _ nil_ (show _ = some (.lst [.int 1, .int 5, .int 1000000]) from upd_same)
        obtain ⟨v, hv⟩ : ∃ v : Int, atI [V.int 1, V.int 5, V.int 1000000] rD = some (.int v) := by
          have : rD = 0 ∨ rD = 1 ∨ rD = 2 := by omega
          rcases this with rfl | rfl | rfl
          · exact ⟨_, rfl⟩
          · exact ⟨_, rfl⟩
          · exact ⟨_, rfl⟩
        refine ⟨il, _, rD, .int v, rfl, rfl, SqL.of hiD, hv, by show 2 ≤ sizeLine; decide, fun tq htq => ?_⟩
        have kE := ((Kb.ex (F := F) (Ex.new (o := .lst [.int 1, .int 5, .int 1000000]) hil)).trans kD).trans (Kb.ex (Ex.new (o := .tup [.str z, .int v]) htq))
        refine q1 _ _ kE ((fD.ex (Ex.new htq)).more (by omega)) fun acc ⟨ws, t1, t2⟩ => ⟨ws ++ [(z, v)], ?_, by rw [List.length_append, t2]; rfl⟩
        rw [List.map_append]
        exact (t1.mono (fC.tk kE)).append (TDs.one (td_note (n := (z, v)) upd_same))
      · obtain ⟨ws, tws, lws⟩ := hR
        rw [List.length_map] at lws fC
        refine ⟨_, _, rfl, .inl ⟨SqL.of hwC, fun wt hwt => ?_⟩⟩
        dsimp only
        have kC' : Kb F H7 (upd HC wt (.tup acc2)) := (kB.trans kC).trans (Kb.ex (Ex.new hwt))
        have fC' : FD (upd HC wt (.tup acc2)) F S (n + 40) := (fC.ex (Ex.new hwt)).more (by omega)
        have tws' := tws.mono (tk_new (o := .tup acc2) hwt)
        have hwt' : (upd HC wt (.tup acc2)) wt = some (.tup acc2) := upd_same
        show tRet _ _ _ (upd HC wt (.tup acc2))
        generalize upd HC wt (.tup acc2) = HE at kC' fC' tws' hwt' ⊢
        have hWE := kC' _ _ nWF hW7
        have twE := tw.mono (f7.tk kC')
        -- the office
        refine r_ret ⟨_, rfl, _, rfl, W, acc, ways, rfl, SqL.of hWE, twE, by omega, side_way ways, fun _ _ => rfl, fun so2 ys2 bs2 hso2 tys2 sd2 => ⟨so2, ys2, rfl, .inl ⟨SqL.of upd_same, fun yt hyt => ⟨by show 2 ≤ sizeLine; decide, fun t ht => ?_⟩⟩⟩⟩
        have eF := ((Ex.new (o := .lst ys2) hso2).trans (Ex.new (o := .tup ys2) hyt)).trans (Ex.new (o := .tup [.ref wt, .ref yt]) ht)
        obtain ⟨s1, s2, s3, _⟩ := id sd2
        have lb : bs2.length ≤ 100 := by
          have := nodup_of_map' s3
          have h2 : bs2.length ≤ ways.length := by
            exact nd_len this fun x hx => s1 x hx
          omega
        refine q _ t wt yt acc2 ys2 ws bs2 ((k7.trans kC').trans (Kb.ex eF)) ((fC'.ex eF).more (by omega)) upd_same (eF _ _ hwt') (tws'.mono (Tk.ex eF)) (fun z => by rw [z] at lws; rw [← lws] at lss; simp at lss; omega) (by omega) (Ex.new ht _ _ upd_same) (tys2.mono (Tk.ex eF)) ⟨fun z => ?_, lb, fun r hr => ow r (s1 r hr)⟩
        obtain ⟨x, hx⟩ := List.exists_mem_of_ne_nil _ nw
        obtain ⟨y, hy, _⟩ := s2 x hx
        rw [z] at hy
        cases hy
end
end Pn
set_option maxHeartbeats 4000000
/-! _law_went -/
namespace Pn
open PySem L2 Evl
def updF {α β : Type} [DecidableEq α] (f : α → β) (k : α) (v : β) : α → β := fun p => if p = k then v else f p
theorem updF_same {α β : Type} [DecidableEq α] (f : α → β) (k : α) (v : β) : updF f k v k = v := if_pos rfl
theorem updF_ne {α β : Type} [DecidableEq α] (f : α → β) {k p : α} (v : β) (h : p ≠ k) : updF f k v p = f p := if_neg h
def Kb3 (F T B : Addr) (H H' : Hp) : Prop := ∀ a o, a ≠ F → a ≠ T → a ≠ B → H a = some o → H' a = some o
theorem Kb3.of {F T B : Addr} {H H' : Hp} (k : Kb F H H') : Kb3 F T B H H' := fun a o h _ _ e => k a o h e
theorem Kb3.trans {F T B : Addr} {H H1 H2 : Hp} (a : Kb3 F T B H H1) (b : Kb3 F T B H1 H2) : Kb3 F T B H H2 := fun x o h1 h2 h3 e => b x o h1 h2 h3 (a x o h1 h2 h3 e)
theorem Kb3.updT {F T B : Addr} {H : Hp} (o : HO) : Kb3 F T B H (L2.upd H T o) := fun a u _ h _ e => by
  rw [upd_ne h]
  exact e
theorem Kb3.updB {F T B : Addr} {H : Hp} (o : HO) : Kb3 F T B H (L2.upd H B o) := fun a u _ _ h e => by
  rw [upd_ne h]
  exact e
theorem put_len {kvs : List (Key × V)} {k : Key} {v y : V} (h : valV kvs k = some v) : (putK kvs k y).length = kvs.length := by
  unfold putK
  rw [if_pos (by rw [valV_any, h]; rfl), List.length_map]
structure WSt (H : Hp) (F S G T B : Addr) (n : Nat) (pls : List Str) (th : Str → List Note) (bg : Str → Int) : Prop where
  fd : FD H F S n
  ne : T ≠ B
  th : ∃ kvs, H T = some (.dK kvs) ∧ kvs.length ≤ 1000 ∧ ∀ p ∈ pls, ∃ l xs, valV kvs (.inr p) = some (.ref l) ∧ H l = some (.lst xs) ∧ TDs H ((th p).map noteD) xs ∧ l ≠ F ∧ l ≠ G
  bg : ∃ kvs, H B = some (.dK kvs) ∧ kvs.length ≤ 1000 ∧ ∀ p ∈ pls, valV kvs (.inr p) = some (.int (bg p))
  gt : ∃ zs, H G = some (.lst zs)
  gF : G ≠ F
section
variable {H H' : Hp} {F S G T B : Addr} {n m : Nat} {pls : List Str} {th : Str → List Note} {bg : Str → Int}
theorem WSt.tF (s : WSt H F S G T B n pls th bg) : T ≠ F := by
  obtain ⟨ys, hy⟩ := s.fd.at
  obtain ⟨kvs, h, _⟩ := s.th
  exact ne_of h hy (by intro z; cases z)
theorem WSt.bF (s : WSt H F S G T B n pls th bg) : B ≠ F := by
  obtain ⟨ys, hy⟩ := s.fd.at
  obtain ⟨kvs, h, _⟩ := s.bg
  exact ne_of h hy (by intro z; cases z)
theorem WSt.kb (s : WSt H F S G T B n pls th bg) (k : Kb F H H') (f : FD H' F S m) : WSt H' F S G T B m pls th bg := by
  obtain ⟨kvs, h1, h2, h3⟩ := s.th
  obtain ⟨kvb, b1, b2, b3⟩ := s.bg
  obtain ⟨zs, hz⟩ := s.gt
  refine ⟨f, s.ne, ⟨kvs, k _ _ s.tF h1, h2, fun p hp => ?_⟩, ⟨kvb, k _ _ s.bF b1, b2, b3⟩, ⟨zs, k _ _ s.gF hz⟩, s.gF⟩
  obtain ⟨l, xs, q1, q2, q3, q4⟩ := h3 p hp
  exact ⟨l, xs, q1, k _ _ q4.1 q2, q3.mono (s.fd.tk k), q4⟩
theorem WSt.ex (s : WSt H F S G T B n pls th bg) (e : Ex H H') : WSt H' F S G T B n pls th bg := s.kb (Kb.ex e) (s.fd.ex e)
theorem WSt.fresh (s : WSt H F S G T B n pls th bg) {p : Addr} (hp : H p = none) : p ≠ F ∧ p ≠ G := by
  obtain ⟨zs, hz⟩ := s.gt
  exact ⟨s.fd.new hp, fun z => by rw [z, hz] at hp; cases hp⟩
/-- there[p] = a new list -/
theorem WSt.putT (s : WSt H F S G T B n pls th bg) {p : Str} (hp : p ∈ pls) {l : Addr} {xs : List V} {ns : List Note} (hl : H l = some (.lst xs)) (lF : l ≠ F ∧ l ≠ G) (t : TDs H (ns.map noteD) xs) :
    ∃ H', DPut H T (kV (.inr p)) (.ref l) H' ∧ Kb3 F T B H H' ∧ Tk H H' ∧ (∀ a o, a ≠ T → H a = some o → H' a = some o) ∧ WSt H' F S G T B n pls (updF th p ns) bg := by
  obtain ⟨kvs, h1, h2, h3⟩ := s.th
  obtain ⟨kvb, b1, b2, b3⟩ := s.bg
  obtain ⟨ns0, t0, d0, q1, q2, r⟩ := id s.fd
  obtain ⟨zs, hz⟩ := s.gt
  have tk : Tk H (upd H T (.dK (putK kvs (.inr p) (.ref l)))) := fun a xs e => by
    rw [upd_ne (ne_of e h1 (by intro z; cases z))]
    exact e
  have lst : ∀ {a : Addr} {ys : List V}, H a = some (.lst ys) → upd H T (.dK (putK kvs (.inr p) (.ref l))) a = some (.lst ys) := fun {a ys} e => by
    rw [upd_ne (ne_of e h1 (by intro z; cases z))]
    exact e
  refine ⟨upd H T (.dK (putK kvs (.inr p) (.ref l))), DPut.k h1 (sz_lt (by omega)), Kb3.updT _, tk, fun a o na e => by rw [upd_ne na]; exact e, ⟨ns0, t0, d0, lst q1, lst q2, r⟩, s.ne, ⟨_, upd_same, ?_, fun p' hp' => ?_⟩, ⟨kvb, ?_, b2, b3⟩, ⟨zs, lst hz⟩, s.gF⟩
  · obtain ⟨l', xs', q, _⟩ := h3 p hp
    rw [put_len q]
    exact h2
  · obtain ⟨l', xs', w1, w2, w3, w4⟩ := h3 p' hp'
    by_cases e : p' = p
    · subst e
      refine ⟨l, xs, ?_, lst hl, ?_, lF⟩
      · rw [valV_put, if_pos rfl]
      · rw [updF_same]
        exact t.mono tk
    · refine ⟨l', xs', ?_, lst w2, ?_, w4⟩
      · rw [valV_put, if_neg (fun z => e (Sum.inr.inj z))]
        exact w1
      · rw [updF_ne _ _ e]
        exact w3.mono tk
  · rw [upd_ne s.ne.symm]
    exact b1
theorem WSt.putB (s : WSt H F S G T B n pls th bg) {p : Str} (hp : p ∈ pls) (v : Int) :
    ∃ H', DPut H B (kV (.inr p)) (.int v) H' ∧ Kb3 F T B H H' ∧ Tk H H' ∧ WSt H' F S G T B n pls th (updF bg p v) := by
  obtain ⟨kvs, h1, h2, h3⟩ := s.th
  obtain ⟨kvb, b1, b2, b3⟩ := s.bg
  obtain ⟨ns0, t0, d0, q1, q2, r⟩ := id s.fd
  obtain ⟨zs, hz⟩ := s.gt
  have tk : Tk H (upd H B (.dK (putK kvb (.inr p) (.int v)))) := fun a xs e => by
    rw [upd_ne (ne_of e b1 (by intro z; cases z))]
    exact e
  have lst : ∀ {a : Addr} {ys : List V}, H a = some (.lst ys) → upd H B (.dK (putK kvb (.inr p) (.int v))) a = some (.lst ys) := fun {a ys} e => by
    rw [upd_ne (ne_of e b1 (by intro z; cases z))]
    exact e
  refine ⟨upd H B (.dK (putK kvb (.inr p) (.int v))), DPut.k b1 (sz_lt (by omega)), Kb3.updB _, tk, ⟨ns0, t0, d0, lst q1, lst q2, r⟩, s.ne, ⟨kvs, ?_, h2, fun p' hp' => ?_⟩, ⟨_, upd_same, ?_, fun p' hp' => ?_⟩, ⟨zs, lst hz⟩, s.gF⟩
  · rw [upd_ne s.ne]
    exact h1
  · obtain ⟨l', xs', w1, w2, w3, w4⟩ := h3 p' hp'
    exact ⟨l', xs', w1, lst w2, w3.mono tk, w4⟩
  · rw [put_len (b3 p hp)]
    exact b2
  · rw [valV_put]
    by_cases e : p' = p
    · rw [e, if_pos rfl, updF_same]
    · rw [if_neg (fun z => e (Sum.inr.inj z)), updF_ne _ _ e]
      exact b3 p' hp'
end
/-- the list at G grows -/
theorem WSt.updG {H : Hp} {F S G T B : Addr} {n : Nat} {pls : List Str} {th : Str → List Note} {bg : Str → Int} (s : WSt H F S G T B n pls th bg) (gS : G ≠ S) (ys : List V) : WSt (L2.upd H G (.lst ys)) F S G T B n pls th bg := by
  obtain ⟨kvs, h1, h2, h3⟩ := s.th
  obtain ⟨kvb, b1, b2, b3⟩ := s.bg
  obtain ⟨zs, hz⟩ := s.gt
  have gT : T ≠ G := ne_of h1 hz (by intro z; cases z)
  have gB : B ≠ G := ne_of b1 hz (by intro z; cases z)
  refine ⟨s.fd.upd s.gF gS, s.ne, ⟨kvs, by rw [upd_ne gT]; exact h1, h2, fun p hp => ?_⟩, ⟨kvb, by rw [upd_ne gB]; exact b1, b2, b3⟩, ⟨ys, upd_same⟩, s.gF⟩
  obtain ⟨l, xs, q1, q2, q3, q4⟩ := h3 p hp
  exact ⟨l, xs, q1, by rw [upd_ne q4.2]; exact q2, q3.mono (tk_lst hz), q4⟩
/-- one turn of the history -/
def Went (ways : List Way) (th : Str → List Note) (bg : Str → Int) (fresh : Int) (d : Deed) (th' : Str → List Note) (bg' : Str → Int) : Prop :=
  ∃ r ∈ ways, (d = .count r.2 ((th r.2).length + bg r.2) ∧ th' = th ∧ bg' = bg) ∨
    (∃ (s : Str) (k : Nat) (rs : List Run), r.1 = "none" ∧ k ≤ 5 ∧ d = .move r.1 r.2 rs ∧ rs.length ≤ 1000 ∧ manyR rs = (k : Int) ∧ th' = updF th r.2 (th r.2 ++ (List.range k).map fun j : Nat => (s, fresh + (j : Int))) ∧ bg' = bg) ∨
    (∃ c : Nat, r.1 ≠ "none" ∧ d = .bag r.1 r.2 ((th r.1).take c).length ∧ th' = updF th r.1 ((th r.1).drop ((th r.1).take c).length) ∧ bg' = updF bg r.2 (bg r.2 + ((th r.1).take c).length)) ∨
    (∃ (c : Nat) (rs : List Run), r.1 ≠ "none" ∧ d = .move r.1 r.2 rs ∧ rs.length ≤ 1000 ∧ manyR rs = (((th r.1).take c).length : Int) ∧ th' = updF (updF th r.1 ((th r.1).drop ((th r.1).take c).length)) r.2 (th r.2 ++ (th r.1).take c) ∧ bg' = bg)
/-- an office at O -/
def OffOk (H : Hp) (O : Addr) (ws : List Note) (ways : List Way) : Prop := ∃ wt yt wxs yxs, H O = some (.tup [.ref wt, .ref yt]) ∧ H wt = some (.tup wxs) ∧ TDs H (ws.map noteD) wxs ∧ H yt = some (.tup yxs) ∧ TDs H (ways.map wayD) yxs
theorem OffOk.tk {H H' : Hp} {O : Addr} {ws : List Note} {ways : List Way} (h : OffOk H O ws ways) (k : Tk H H') : OffOk H' O ws ways := by
  obtain ⟨wt, yt, wxs, yxs, h1, h2, h3, h4, h5⟩ := h
  exact ⟨wt, yt, wxs, yxs, k _ _ h1, k _ _ h2, h3.mono k, k _ _ h4, h5.mono k⟩
theorem note_item {H : Hp} {ns : List Note} {xs : List V} (t : TDs H (ns.map noteD) xs) {i : Nat} {x : V} (h : xs[i]? = some x) : ∃ n a, ns[i]? = some n ∧ x = .ref a ∧ H a = some (.tup [.str n.1, .int n.2]) := by
  obtain ⟨d, hd, tx⟩ := TDs.getx t h
  rw [List.getElem?_map] at hd
  cases hn : ns[i]? with
  | none => rw [hn] at hd; cases hd
  | some n =>
    rw [hn] at hd
    have e : noteD n = d := Option.some.inj hd
    rw [← e] at tx
    obtain ⟨a, rfl, ha⟩ := tx.note
    exact ⟨n, a, rfl, rfl, ha⟩
theorem way_item {H : Hp} {ns : List Way} {xs : List V} (t : TDs H (ns.map wayD) xs) {i : Nat} {x : V} (h : xs[i]? = some x) : ∃ n a, ns[i]? = some n ∧ x = .ref a ∧ H a = some (.tup [.str n.1, .str n.2]) := by
  obtain ⟨d, hd, tx⟩ := TDs.getx t h
  rw [List.getElem?_map] at hd
  cases hn : ns[i]? with
  | none => rw [hn] at hd; cases hd
  | some n =>
    rw [hn] at hd
    have e : wayD n = d := Option.some.inj hd
    rw [← e] at tx
    obtain ⟨a, rfl, ha⟩ := tx.way
    exact ⟨n, a, rfl, rfl, ha⟩
theorem get_pick {α : Type} {xs : List α} {r : Int} (r0 : 0 ≤ r) (r1 : r < (xs.length : Int)) : ∃ (j : Nat) (v : α), r = (j : Int) ∧ xs[j]? = some v ∧ atI xs r = some v := by
  obtain ⟨j, rfl⟩ := Int.eq_ofNat_of_zero_le r0
  have lj : j < xs.length := by omega
  exact ⟨j, xs[j], rfl, List.getElem?_eq_getElem lj, atI_nat (List.getElem?_eq_getElem lj)⟩
section
variable {K : PySem.W.Frag} {σ : L2.St} {H : Hp} {F S G T B : Addr} {n : Nat} {pls : List Str} {th : Str → List Note} {bg : Str → Int} {ta tb : TE}
theorem ev_there (s : WSt H F S G T B n pls th bg) {p : Str} (hp : p ∈ pls) (ha : Ev ta σ H (.ref T)) (hb : Ev tb σ H (.str p)) : ∃ l xs, H l = some (.lst xs) ∧ TDs H ((th p).map noteD) xs ∧ l ≠ F ∧ Ev (tDGet ta tb) σ H (.ref l) := by
  obtain ⟨kvs, h1, h2, h3⟩ := s.th
  obtain ⟨l, xs, q1, q2, q3, q4⟩ := h3 p hp
  exact ⟨l, xs, q2, q3, q4.1, fun H1 e Q q => ha H1 e _ fun H2 e2 => hb H2 (e.trans e2) _ fun H3 e3 => ⟨T, .ref l, rfl, by rw [← q1]; exact DGet.k (k := Sum.inr p) (((e.trans e2).trans e3) _ _ h1), q _ (e2.trans e3)⟩⟩
theorem ev_bagged (s : WSt H F S G T B n pls th bg) {p : Str} (hp : p ∈ pls) (ha : Ev ta σ H (.ref B)) (hb : Ev tb σ H (.str p)) : Ev (tDGet ta tb) σ H (.int (bg p)) := by
  obtain ⟨kvs, h1, h2, h3⟩ := s.bg
  exact fun H1 e Q q => ha H1 e _ fun H2 e2 => hb H2 (e.trans e2) _ fun H3 e3 => ⟨B, .int (bg p), rfl, by rw [← h3 p hp]; exact DGet.k (k := Sum.inr p) (((e.trans e2).trans e3) _ _ h1), q _ (e2.trans e3)⟩
def rLen2 (K : PySem.W.Frag) : List V → Hp → VK → Prop := fun xs H Q => ∃ p ys, xs = [V.ref p] ∧ (SqL K H p ys ∨ SqT K H p ys) ∧ Q (V.int (ys.length : Int)) H
theorem ev_len2 {l : Addr} {xs : List V} (ha : Ev ta σ H (.ref l)) (hl : H l = some (.lst xs)) : Ev (tCB (rLen2 K) (tCons ta tNil)) σ H (.int ((xs.length : Nat) : Int)) :=
  ev_cb (ea_cons ha ea_nil) fun H1 e Q k => ⟨l, xs, rfl, .inl (sq_of (e _ _ hl)), k _ (Ex.refl _)⟩
theorem went_test (s : WSt H F S G T B n pls th bg) (nb : n ≤ 50000) {one : Str} (h1 : one ∈ pls) (h0 : σ[0]? = some (some (.ref F))) (h2 : σ[2]? = some (some (.ref T))) (h5 : σ[5]? = some (some (.str one))) {Qb : Bool → Hp → Prop}
    (h : ∀ b H2, Kb F H H2 → FD H2 F S (n + 1) → (b = false → one = "none" ∨ th one ≠ []) → Qb b H2) :
    tOr (tTest (tOp rEq (tCall spDraw [] E0 (tCons (tVar 0) (tCons (tC (.int 3)) tNil))) (tC (.int 0)))) (tAnd (tTest (tOp rNe (tVar 5) (tC (.str "none")))) (tTest (tOp rEq (tCB (rLen2 K) (tCons (tDGet (tVar 2) (tVar 5)) tNil)) (tC (.int 0))))) σ H Qb := by
  refine ⟨_, h0, F, S, 3, n, rfl, s.fd, nb, by decide, by decide, fun H1 r k1 f1 r0 r3 => ⟨rfl, _, rfl, ?_⟩⟩
  by_cases hr : r = 0
  · rw [decide_eq_true (by rw [hr])]
    dsimp only
    rw [if_pos rfl]
    exact h true H1 k1 f1 fun z => nomatch z
  · rw [decide_eq_false (fun z => hr (by injection z))]
    have s1 := s.kb k1 f1
    obtain ⟨l, xs, hl, t, _, ev⟩ := ev_there (σ := σ) (ta := tVar 2) (tb := tVar 5) s1 h1 (ev_var h2) (ev_var h5)
    dsimp only
    rw [if_neg (by decide)]
    refine et_and (et_ne (ev_var h5) ev_c rfl) (fun _ => et_eq (ev_len2 (K := K) ev hl) ev_c rfl) H1 (Ex.refl _) _ fun H2 e2 => h _ H2 (k1.trans (Kb.ex e2)) (f1.ex e2) fun hb => ?_
    by_cases e : one = "none"
    · exact .inl e
    · refine .inr fun z => ?_
      have lt := t.length
      rw [z] at lt
      have lt0 : xs.length = 0 := lt
      rw [lt0, decide_eq_false (fun z => e (by injection z))] at hb
      cases hb
end
end Pn
set_option maxHeartbeats 4000000
/-! _law_went, the walk -/
namespace Pn
open PySem L2 Evl
theorem WSt.more {H : Hp} {F S G T B : Addr} {n m : Nat} {pls : List Str} {th : Str → List Note} {bg : Str → Int} (s : WSt H F S G T B n pls th bg) (h : n ≤ m) : WSt H F S G T B m pls th bg := ⟨s.fd.more h, s.ne, s.th, s.bg, s.gt, s.gF⟩
theorem r_ifS {σ : L2.St} {H : Hp} {t : TT} {tu tw : TS} {D : Ends} (h : t σ H fun b H1 => if b = true then tu D σ H1 else tw D σ H1) : tIfS t tu tw D σ H := h
theorem r_lcR {σ : L2.St} {H : Hp} {te tl : TE} {t : TT} {g : L2.TG} {vs : List Nat} {Q : VK} (h : tl σ H fun x H1 => tLc (iRng1 (tCons (tC x) tNil)) g t te vs σ H1 Q) : tLc (iRng1 (tCons tl tNil)) g t te vs σ H Q := h
theorem take_td {H : Hp} {ns : List Note} {xs : List V} (c : Nat) (t : TDs H (ns.map noteD) xs) : TDs H ((ns.take c).map noteD) (xs.take c) := by
  rw [List.map_take]
  exact TDs.take c t
theorem drop_td {H : Hp} {ns : List Note} {xs : List V} (c : Nat) (t : TDs H (ns.map noteD) xs) : TDs H ((ns.drop c).map noteD) (xs.drop c) := by
  rw [List.map_drop]
  exact TDs.drop c t
section
variable {P : Program} {w : World} {K : PySem.W.Frag} {mg : Str → Option Value} {base : Heap}
def spWent : Sp := fun vs H Q _ => ∃ (F S G T B O : Addr) (n : Nat) (fresh : Int) (pls : List Str) (th : Str → List Note) (bg : Str → Int) (ws : List Note) (ways : List Way), vs = [.ref F, .ref O, .ref T, .ref B, .int fresh] ∧ WSt H F S G T B n pls th bg ∧ n ≤ 30000 ∧
  OffOk H O ws ways ∧ ws ≠ [] ∧ ws.length ≤ 100 ∧ WaysOk ways ∧ (∀ r ∈ ways, r.1 ∈ pls ∧ r.2 ∈ pls) ∧ (∀ p, (th p).length < 127 ∧ (th p).Nodup) ∧
  ∀ H' v d th' bg', Kb3 F T B H H' → Tk H H' → WSt H' F S G T B (n + 10) pls th' bg' → TD H' (deedD d) v → Went ways th bg fresh d th' bg' → Q v H'
theorem ok_went {f : Addr} {fd : FuncData} (F : Fun K "_law_went" "_law_went" dWent f fd) (T : Tx mg) (GD : Dfn P w K mg base 1 "_law_draw" ["_law_feed_here", "_law_many"] spDraw) (GR : Dfn P w K mg base 1 "_law_runs_of" ["_law_notes"] (spRuns K)) :
    FnOk P w K mg base CX0 2 f fd ["_law_feed_here", "_law_office_here", "_law_there", "_law_bagged", "_law_fresh"] spWent := by
  refine F.ok cWent (fun vs H Q E h => ?_) (fun cdv A outer s H vs Q E hr h => ?_)
  · obtain ⟨_, _, _, _, _, _, _, _, _, _, _, _, _, rfl, _⟩ := h
    rfl
  · obtain ⟨F, S, G, Ta, B, O, n, fresh, pls, th, bg, ws, ways, rfl, st, nb, off, wne, wlen, wok, win, thl, q⟩ := h
    have hu := hu_of hr
    refine ⟨_, pss_cons (ps_asg (pe_ix ix_tup (pe_ix ix_tup (pv 1) pe_int (fun _ _ => rfl)) (pe_call GD.ok hr rfl GD.at_ GD.kp GD.bd .nil pass0 (pa_cons (pv 0) (pa_cons (pe_callB call_len_seq (by rfl) T.len PySem.boot_len (pa_cons (pe_ix ix_tup (pv 1) pe_int (fun _ _ => rfl)) pa_nil)) pa_nil))) (fun _ _ => rfl)) (pg_tup rfl (pgs_cons (pg_name (i := 5) cWent.nd rfl (.inl rfl)) (pgs_cons (pg_name (i := 6) cWent.nd rfl (.inl rfl)) pgs_nil))))
      (pss_cons (ps_if (PW.pt (pw_or (pt_cmpR op_eq (pe_call GD.ok hr rfl GD.at_ GD.kp GD.bd .nil pass0 (pa_cons (pv 0) (pa_cons pe_int pa_nil))) pe_int (nomark _)) (pw_or1 (PW.pt (pw_and (pt_cmpR op_ne (pv 5) pe_str (nomark _)) (pw_and1 (pt_cmpR op_eq (pe_callB call_len_seq (by rfl) T.len PySem.boot_len (pa_cons (pe_dget hu (pv 2) (pv 5) (fun _ _ => rfl)) pa_nil)) pe_int (nomark _))))))))
          (pss_one (ps_ret (pe_tup (pa_cons pe_str (pa_cons (pv 6) (pa_cons (pe_op op_add (pe_callB call_len_seq (by rfl) T.len PySem.boot_len (pa_cons (pe_dget hu (pv 2) (pv 6) (fun _ _ => rfl)) pa_nil)) (pe_dget hu (pv 3) (pv 6) (fun _ _ => rfl))) pa_nil)))))) pss_nil)
      (pss_cut (ps_if (pt_cmpR op_eq (pv 5) pe_str (nomark _))
          (pss_cons (ps_set (i := 7) cWent.nd rfl (Or.inr rfl) (pe_ix ix_tup (pe_ix ix_tup (pe_ix ix_tup (pv 1) pe_int (fun _ _ => rfl)) (pe_call GD.ok hr rfl GD.at_ GD.kp GD.bd .nil pass0 (pa_cons (pv 0) (pa_cons (pe_callB call_len_seq (by rfl) T.len PySem.boot_len (pa_cons (pe_ix ix_tup (pv 1) pe_int (fun _ _ => rfl)) pa_nil)) pa_nil))) (fun _ _ => rfl)) pe_int (fun _ _ => rfl)))
            (pss_one (ps_setLc (i := 8) (own := [("_law_j", 9)]) (g := gName 9) (tt := tYes) rfl cWent.nd rfl rfl (sw_true rfl rfl rfl (by decide +kernel)) (pi_range1 rfl T.range (pa_cons (pe_op op_add pe_int (pe_call GD.ok hr rfl GD.at_ GD.kp GD.bd .nil pass0 (pa_cons (pv 0) (pa_cons pe_int pa_nil)))) pa_nil))
              (blkOk_by (N := ["_law_feed_here", "_law_office_here", "_law_there", "_law_bagged", "_law_fresh", "_law_one", "_law_other", "_law_series", "_law_notes", "_law_j"]) (sc := defScope dWent) (by decide +kernel))
              (fun _ _ _ _ _ => pg_name (i := 9) cWent.nd rfl (Or.inl rfl)) (fun _ _ _ _ _ => pts_nil) (fun _ _ _ _ _ => pe_tup (pa_cons (pv 7) (pa_cons (pe_op op_add (pv 4) (pv 9)) pa_nil))))))
          (pss_cons (ps_set (i := 8) cWent.nd rfl (Or.inl rfl) (pe_slice sl_list (pe_dget hu (pv 2) (pv 5) (fun _ _ => rfl)) po_none (po_some (pe_op op_add pe_int (pe_call GD.ok hr rfl GD.at_ GD.kp GD.bd .nil pass0 (pa_cons (pv 0) (pa_cons (pe_callB call_len_seq (by rfl) T.len PySem.boot_len (pa_cons (pe_dget hu (pv 2) (pv 5) (fun _ _ => rfl)) pa_nil)) pa_nil)))))))
          (pss_cons (ps_dput hu (pv 2) (pv 5) (pe_slice sl_list (pe_dget hu (pv 2) (pv 5) (fun _ _ => rfl)) (po_some (pe_callB call_len_seq (by rfl) T.len PySem.boot_len (pa_cons (pv 8) pa_nil))) po_none) rfl)
          (pss_one (ps_if (pt_cmpR op_eq (pe_call GD.ok hr rfl GD.at_ GD.kp GD.bd .nil pass0 (pa_cons (pv 0) (pa_cons pe_int pa_nil))) pe_int (nomark _))
            (pss_cons (ps_dput hu (pv 3) (pv 6) (pe_op op_add (pe_dget hu (pv 3) (pv 6) (fun _ _ => rfl)) (pe_callB call_len_seq (by rfl) T.len PySem.boot_len (pa_cons (pv 8) pa_nil))) rfl)
              (pss_one (ps_ret (pe_tup (pa_cons pe_str (pa_cons (pv 5) (pa_cons (pv 6) (pa_cons (pe_callB call_len_seq (by rfl) T.len PySem.boot_len (pa_cons (pv 8) pa_nil)) pa_nil)))))))) pss_nil)))))
      (pss_cons (ps_dput hu (pv 2) (pv 6) (pe_op op_cat (pe_dget hu (pv 2) (pv 6) (fun _ _ => rfl)) (pv 8)) rfl)
      (pss_one (ps_ret (pe_tup (pa_cons pe_str (pa_cons (pv 5) (pa_cons (pv 6) (pa_cons (pe_call GR.ok hr rfl GR.at_ GR.kp GR.bd .nil pass0 (pa_cons (pv 8) pa_nil)) pa_nil)))))))))), ?_⟩
    obtain ⟨wt, yt, wxs, yxs, hO, hwt, tws, hyt, tyx⟩ := off
    have lyx : yxs.length = ways.length := by rw [tyx.length, List.length_map]
    have lwx : wxs.length = ws.length := by rw [tws.length, List.length_map]
    have pyx : 0 < ways.length := List.length_pos_iff.mpr wok.1
    have pwx : 0 < ws.length := List.length_pos_iff.mpr wne
    have lw100 := wok.2.1
    refine r_seq (r_asg (r_op ⟨_, rfl, O, _, 1, .ref yt, rfl, rfl, SqT.of hO, rfl, _, rfl, _, rfl, O, _, 1, .ref yt, rfl, rfl, SqT.of hO, rfl, yt, yxs, rfl, .inr (SqT.of hyt), F, S, _, n, rfl, st.fd, by omega, by omega, by omega, fun H1 r k1 f1 r0 r1 => ?_⟩))
    have tk1 := st.fd.tk k1
    have st1 := st.kb k1 f1
    obtain ⟨j, v, rfl, hj, hat⟩ := get_pick r0 r1
    obtain ⟨⟨one, other⟩, wa, hway, rfl, hwa⟩ := way_item (tyx.mono tk1) hj
    have wm := List.mem_of_getElem? hway
    obtain ⟨hone, hother⟩ := win _ wm
    obtain ⟨wneq, won⟩ := wok.2.2 _ wm
    dsimp only at hone hother wneq won hwa
    refine ⟨yt, yxs, (j : Int), .ref wa, rfl, rfl, SqT.of (tk1 _ _ hyt), hat, g2 (SqT.of hwa) _ ?_⟩
    dsimp only
    refine r_seq (r_ifS (went_test (K := K) st1 (by omega) hone rfl rfl rfl fun b H2 k2 f2 hbt => ?_))
    have st2 := st1.kb k2 f2
    have k02 : Kb F H H2 := k1.trans k2
    have tk2 := st.fd.tk k02
    cases b with
    | true =>
      dsimp only
      rw [if_pos rfl]
      obtain ⟨l, xs, hl, tl, lF, ev⟩ := ev_there (σ := [some (.ref F), some (.ref O), some (.ref Ta), some (.ref B), some (.int fresh), some (.str one), some (.str other), none, none, none]) (ta := tVar 2) (tb := tVar 6) st2 hother (ev_var rfl) (ev_var rfl)
      refine s_retU (eu_tup (ea_cons ev_c (ea_cons (ev_var rfl) (ea_cons (ev_op (ev_len2 (K := K) ev hl) (ev_bagged st2 hother (ev_var rfl) (ev_var rfl)) rv_I0) ea_nil))) (by show 3 ≤ 100000; decide)) fun t H3 _ e3 ht => ?_
      have lx := tl.length
      rw [List.length_map] at lx
      refine q H3 _ (.count other ((th other).length + bg other)) th bg (Kb3.of (k02.trans (Kb.ex e3))) (tk2.trans (Tk.ex e3)) ((st2.ex e3).more (by omega)) ?_ ⟨_, wm, .inl ⟨rfl, rfl, rfl⟩⟩
      rw [lx] at ht
      exact TD.tup ht (TDs.cons (d := .str "count") rfl (TDs.cons (d := .str other) rfl (TDs.one (d := .int _) rfl)))
    | false =>
      dsimp only
      rw [if_neg (by decide)]
      refine q_cut (M := fun σ' H5 => ∃ (s7 s9 : Option V) (nl : Addr) (nxs : List V) (nts : List Note) (th1 : Str → List Note), σ' = [some (.ref F), some (.ref O), some (.ref Ta), some (.ref B), some (.int fresh), some (.str one), some (.str other), s7, some (.ref nl), s9] ∧ Kb3 F Ta B H H5 ∧ Tk H H5 ∧ WSt H5 F S G Ta B (n + 9) pls th1 bg ∧
        H5 nl = some (.lst nxs) ∧ nl ≠ F ∧ TDs H5 (nts.map noteD) nxs ∧ nts.length < 127 ∧ nts.Nodup ∧ (th1 other).length < 127 ∧ ∀ rs : List Run, rs.length ≤ 1000 → manyR rs = (nts.length : Int) → Went ways th bg fresh (.move one other rs) (updF th1 other (th1 other ++ nts)) bg) ?_ ?_
      · refine s_if (b := decide (V.str one = V.str "none")) (et_eq (ev_var rfl) ev_c rfl) (fun hb H3 e3 => ?_) (fun hb H3 e3 => ?_)
        · have en : one = "none" := by simpa using hb
          have k03 := k02.trans (Kb.ex e3)
          have tk3 := st.fd.tk k03
          have f3 := f2.ex e3
          refine r_seq (r_set (r_op ⟨_, rfl, O, _, 0, .ref wt, rfl, rfl, SqT.of (tk3 _ _ hO), rfl, _, rfl, _, rfl, O, _, 0, .ref wt, rfl, rfl, SqT.of (tk3 _ _ hO), rfl, wt, wxs, rfl, .inr (SqT.of (tk3 _ _ hwt)), F, S, _, n + 2, rfl, f3, by omega, by omega, by omega, fun H4 r4 k4 f4 r40 r41 => ?_⟩))
          have tk4 := tk3.trans (f3.tk k4)
          obtain ⟨j4, v4, rfl, hj4, hat4⟩ := get_pick r40 r41
          obtain ⟨⟨s, sv⟩, wa4, hw4, rfl, hwa4⟩ := note_item (tws.mono tk4) hj4
          refine ⟨wt, wxs, (j4 : Int), .ref wa4, rfl, rfl, SqT.of (tk4 _ _ hwt), hat4, wa4, _, 0, .str s, rfl, rfl, SqT.of hwa4, rfl, ?_⟩
          dsimp only
          refine r_set (r_lcR ⟨_, rfl, F, S, 5, n + 3, rfl, f4, by omega, by decide, by decide, fun H5 r5 k5 f5 r50 r55 => ⟨1, r5, rfl, rfl, ?_⟩⟩)
          obtain ⟨j5, rfl⟩ := Int.eq_ofNat_of_zero_le r50
          refine lcR (n := 1 + j5) (fun i acc H' => TDs H' (((List.range i).map fun j : Nat => ((s, fresh + (j : Int)) : Note)).map noteD) acc) (fun _ _ _ _ k h => h.mono k) (by omega) ?_ (fun _ _ => TDs.nil) (fun i H6 hi e6 => ?_) fun p H6 acc hp e6 h6 la hR => ?_
          · exact ea_cons (ev_is ev_c (by show V.int (1 + (j5 : Int)) = V.int ((1 + j5 : Nat) : Int); rw [show (1 : Int) + (j5 : Int) = ((1 + j5 : Nat) : Int) by omega])) ea_nil
          · refine ⟨_, fun N k => k, rfl, Turn.yes fun H7 e7 Q k => ?_⟩
            refine eu_tup (ea_cons (ev_var rfl) (ea_cons (ev_op (ev_var rfl) (ev_var rfl) rv_I0) ea_nil)) (by show 2 ≤ 100000; decide) H7 (Ex.refl _) _ fun t H8 _ e8 ht => k _ _ e8 fun acc ha => ?_
            show TDs H8 (((List.range (i + 1)).map _).map noteD) (acc ++ [_])
            rw [List.range_succ, List.map_append, List.map_append]
            exact TDs.append ha (TDs.one (td_note (n := (s, fresh + (i : Int))) ht))
          · have k06 := ((k03.trans k4).trans k5).trans (Kb.ex e6)
            refine ⟨_, _, p, acc, (List.range (1 + j5)).map fun j : Nat => ((s, fresh + (j : Int)) : Note), th, rfl, Kb3.of k06, st.fd.tk k06, (st.kb k06 (f5.ex e6)).more (by omega), h6, f5.new hp, hR, by rw [List.length_map, List.length_range]; omega, ?_, (thl other).1, fun rs h1 h2 => ⟨_, wm, .inr (.inl ⟨s, 1 + j5, rs, en, by omega, rfl, h1, ?_, rfl, rfl⟩)⟩⟩
            · refine List.pairwise_map.mpr (List.Pairwise.imp (fun {a b} hab e => hab ?_) List.nodup_range)
              have e2 := (Prod.mk.inj e).2
              omega
            · rw [h2, List.length_map, List.length_range]
        · have ne : one ≠ "none" := by simpa using hb
          have tne : th one ≠ [] := (hbt rfl).resolve_left ne
          have st3 := st2.ex e3
          obtain ⟨l, xs, hl, tl, lF, ev⟩ := ev_there (σ := [some (.ref F), some (.ref O), some (.ref Ta), some (.ref B), some (.int fresh), some (.str one), some (.str other), none, none, none]) (ta := tVar 2) (tb := tVar 5) st3 hone (ev_var rfl) (ev_var rfl)
          have lx : xs.length = (th one).length := by rw [tl.length, List.length_map]
          have px : 0 < (th one).length := List.length_pos_iff.mpr tne
          have tl1 := (thl one).1
          refine r_seq (r_set (ev H3 (Ex.refl _) _ fun H4 e4 => ?_))
          refine ⟨_, rfl, ev_len2 (K := K) (ev.mono e4) (e4 _ _ hl) H4 (Ex.refl _) _ fun H5 e5 => ?_⟩
          refine ⟨F, S, _, n + 2, rfl, (st3.fd.ex e4).ex e5, by omega, by omega, by omega, fun H6 r6 k6 f6 r60 r61 => ⟨1, r6, rfl, rfl, _, rfl, l, xs, rfl, SqL.of (k6 _ _ lF (e5 _ _ (e4 _ _ hl))), fun nl hnl => ?_⟩⟩
          obtain ⟨j6, rfl⟩ := Int.eq_ofNat_of_zero_le r60
          dsimp only
          rw [show (1 : Int) + (j6 : Int) = ((1 + j6 : Nat) : Int) by omega, cut_to]
          generalize 1 + j6 = c
          have k37 : Kb F H3 (upd H6 nl (.lst (xs.take c))) := ((Kb.ex (e4.trans e5)).trans k6).trans (Kb.ex (Ex.new hnl))
          have f7 : FD (upd H6 nl (.lst (xs.take c))) F S (n + 3) := f6.ex (Ex.new hnl)
          have hnl7 : (upd H6 nl (.lst (xs.take c))) nl = some (.lst (xs.take c)) := upd_same
          have nlF := f6.new hnl
          show tSeq _ _ _ _ (upd H6 nl (.lst (xs.take c)))
          generalize upd H6 nl (.lst (xs.take c)) = H7 at k37 f7 hnl7 ⊢
          have st7 := st3.kb k37 f7
          have tn7 : TDs H7 (((th one).take c).map noteD) (xs.take c) := take_td c (tl.mono (st3.fd.tk k37))
          have lnx : (xs.take c).length = ((th one).take c).length := by rw [List.length_take, List.length_take, lx]
          obtain ⟨l7, xs7, hl7, t7, l7F, ev7⟩ := ev_there (σ := [some (.ref F), some (.ref O), some (.ref Ta), some (.ref B), some (.int fresh), some (.str one), some (.str other), none, some (.ref nl), none]) (ta := tVar 2) (tb := tVar 5) st7 hone (ev_var rfl) (ev_var rfl)
          refine r_seq (ev7 H7 (Ex.refl _) _ fun H8 e8 => ?_)
          refine ev_len2 (K := K) (ev_var rfl) (e8 _ _ hnl7) H8 (Ex.refl _) _ fun H9 e9 => ?_
          refine ⟨_, rfl, l7, xs7, rfl, SqL.of (e9 _ _ (e8 _ _ hl7)), fun dl hdl => ?_⟩
          rw [cut_from, lnx]
          have e79 := (e8.trans e9).trans (Ex.new (o := .lst (xs7.drop ((th one).take c).length)) hdl)
          have st9 := st7.ex e79
          obtain ⟨H10, dput, k10, tk10, keep10, st10⟩ := st9.putT hone (l := dl) (ns := (th one).drop ((th one).take c).length) (xs := xs7.drop ((th one).take c).length) upd_same ((st7.ex (e8.trans e9)).fresh hdl) (drop_td _ (t7.mono (Tk.ex e79)))
          refine ⟨_, rfl, _, rfl, Ta, H10, rfl, dput, ?_⟩
          dsimp only
          have nlT : nl ≠ Ta := by
            obtain ⟨kvs, hT, _⟩ := st7.th
            exact ne_of hnl7 hT (by intro z; cases z)
          have hnl10 := keep10 nl _ nlT (e79 _ _ hnl7)
          have k010 : Kb3 F Ta B H H10 := ((Kb3.of (k02.trans (Kb.ex e3))).trans (Kb3.of (k37.trans (Kb.ex e79)))).trans k10
          have tk010 : Tk H H10 := (st.fd.tk ((k02.trans (Kb.ex e3)).trans (k37.trans (Kb.ex e79)))).trans tk10
          have tn10 := (tn7.mono (Tk.ex e79)).mono tk10
          refine ⟨_, rfl, F, S, 3, n + 3, rfl, st10.fd, by omega, by decide, by decide, fun H11 r11 k11 f11 r110 r113 => ⟨rfl, _, rfl, ?_⟩⟩
          have st11 := st10.kb k11 f11
          have hnl11 := k11 _ _ nlF hnl10
          have tn11 := tn10.mono (st10.fd.tk k11)
          have k011 := k010.trans (Kb3.of k11)
          have tk011 := tk010.trans (st10.fd.tk k11)
          dsimp only
          by_cases hr11 : r11 = 0
          · rw [if_pos (by rw [hr11]; exact decide_eq_true rfl)]
            refine r_seq (ev_op (ev_bagged st11 hother (ev_var rfl) (ev_var rfl)) (ev_len2 (K := K) (ev_var rfl) hnl11) rv_I0 H11 (Ex.refl _) _ fun H12 e12 => ?_)
            obtain ⟨H13, dput13, k13, tk13, st13⟩ := (st11.ex e12).putB hother (bg other + ((xs.take c).length : Int))
            refine ⟨_, rfl, _, rfl, B, H13, rfl, dput13, ?_⟩
            dsimp only
            have nlB : nl ≠ B := by
              obtain ⟨kvs, hT, _⟩ := st7.bg
              exact ne_of hnl7 hT (by intro z; cases z)
            have hnl13 : H13 nl = some (.lst (xs.take c)) := by
              rcases dput13 with ⟨kvs, k, a1, a2, a3, rfl⟩ | ⟨kvs, k, b, a1, a2, _⟩
              · rw [upd_ne nlB]
                exact e12 _ _ hnl11
              · cases a2
            rw [lnx] at st13
            refine s_retU (eu_tup (ea_cons ev_c (ea_cons (ev_var rfl) (ea_cons (ev_var rfl) (ea_cons (ev_len2 (K := K) (ev_var rfl) hnl13) ea_nil)))) (by show 4 ≤ 100000; decide)) fun t H14 _ e14 ht => ?_
            rw [lnx] at ht
            exact q H14 _ (.bag one other ((th one).take c).length) _ _ (((k011.trans (Kb3.of (Kb.ex e12))).trans k13).trans (Kb3.of (Kb.ex e14))) (((tk011.trans (Tk.ex e12)).trans tk13).trans (Tk.ex e14)) ((st13.ex e14).more (by omega))
              (TD.tup ht (TDs.cons (d := .str "bag") rfl (TDs.cons (d := .str one) rfl (TDs.cons (d := .str other) rfl (TDs.one (d := .int _) rfl))))) ⟨_, wm, .inr (.inr (.inl ⟨c, ne, rfl, rfl, rfl⟩))⟩
          · rw [if_neg (fun z => hr11 (by have := of_decide_eq_true z; injection this))]
            refine ⟨_, _, nl, _, (th one).take c, _, rfl, k011, tk011, st11.more (by omega), hnl11, nlF, tn11, by rw [List.length_take]; omega, List.Nodup.sublist (List.take_sublist _ _) (thl one).2, by rw [updF_ne _ _ wneq.symm]; exact (thl other).1, fun rs h1 h2 => ⟨_, wm, .inr (.inr (.inr ⟨c, rs, ne, rfl, h1, h2, ?_, rfl⟩))⟩⟩
            dsimp only
            rw [updF_ne _ _ wneq.symm]
      · rintro σ' H5 ⟨s7, s9, nl, nxs, nts, th1, rfl, k05, tk05, st5, hnl, nlF, tn, ln, ndn, lt1, went⟩
        obtain ⟨lo, xso, hlo, tlo, loF, evo⟩ := ev_there (σ := [some (.ref F), some (.ref O), some (.ref Ta), some (.ref B), some (.int fresh), some (.str one), some (.str other), s7, some (.ref nl), s9]) (ta := tVar 2) (tb := tVar 6) st5 hother (ev_var rfl) (ev_var rfl)
        have lxo : xso.length = (th1 other).length := by rw [tlo.length, List.length_map]
        have lnx : nxs.length = nts.length := by rw [tn.length, List.length_map]
        refine r_seq (evo H5 (Ex.refl _) _ fun H6 e6 => ⟨_, rfl, lo, nl, xso, nxs, rfl, rfl, e6 _ _ hlo, e6 _ _ hnl, sz_of (by omega), fun cl hcl => ?_⟩)
        have e57 := e6.trans (Ex.new (o := .lst (xso ++ nxs)) hcl)
        have st7 := st5.ex e57
        obtain ⟨H8, dput, k8, tk8, keep8, st8⟩ := st7.putT hother (l := cl) (ns := th1 other ++ nts) (xs := xso ++ nxs) upd_same ((st5.ex e6).fresh hcl) (by
          rw [List.map_append]
          exact (tlo.mono (Tk.ex e57)).append (tn.mono (Tk.ex e57)))
        refine ⟨_, rfl, _, rfl, Ta, H8, rfl, dput, ?_⟩
        have nlT : nl ≠ Ta := by
          obtain ⟨kvs, hT, _⟩ := st5.th
          exact ne_of hnl hT (by intro z; cases z)
        dsimp only
        refine r_ret ⟨_, rfl, _, rfl, r_call ⟨_, rfl, nl, nxs, nts, rfl, SqL.of (keep8 _ _ nlT (e57 _ _ hnl)), (tn.mono (Tk.ex e57)).mono tk8, ln, ndn, fun H9 rt rs rys e9 hrt trs lrs mrs => ?_⟩⟩
        refine ⟨by show 4 ≤ sizeLine; decide, fun t ht => ?_⟩
        have e10 := e9.trans (Ex.new (o := .tup [.str "move", .str one, .str other, .ref rt]) ht)
        exact q _ _ (.move one other rs) _ _ (((k05.trans (Kb3.of (Kb.ex e57))).trans k8).trans (Kb3.of (Kb.ex e10))) (((tk05.trans (Tk.ex e57)).trans tk8).trans (Tk.ex e10)) ((st8.ex e10).more (by omega))
          (TD.tup upd_same (TDs.cons (d := .str "move") rfl (TDs.cons (d := .str one) rfl (TDs.cons (d := .str other) rfl (TDs.one (d := .tuple (rs.map runD)) (TD.tup (Ex.new ht _ _ hrt) (trs.mono (tk_new ht)))))))) (went rs lrs mrs)
end
end Pn
set_option maxHeartbeats 4000000
/-! the history's invariant -/
namespace Pn
open PySem L2 Evl
theorem split_take {α : Type} : ∀ (l : List α) (c : Nat), l.take c ++ l.drop (l.take c).length = l
  | [], c => by simp
  | x :: l, 0 => by simp
  | x :: l, c + 1 => by
    show x :: (l.take c ++ l.drop (l.take c).length) = x :: l
    rw [split_take l c]
structure Inv24 (k : Nat) (th : Str → List Note) (bg : Str → Int) (b : List Page) : Prop where
  nd : ∀ p, ((th p).map (·.2)).Nodup
  dj : ∀ p q, p ≠ q → ∀ x ∈ th p, ∀ y ∈ th q, x.2 ≠ y.2
  rng : ∀ p, ∀ x ∈ th p, 0 ≤ x.2 ∧ x.2 < 7 * (k : Int) ∧ x.2 % 7 < 5
  sum : ∀ p : Str, p ≠ "none" → ((th p).length : Int) + bg p = sumB p b
theorem Inv24.len {k : Nat} {th : Str → List Note} {bg : Str → Int} {b : List Page} (h : Inv24 k th bg b) (p : Str) : (th p).length ≤ 5 * k := by
  have n1 : ((th p).map fun x => 5 * (x.2 / 7) + x.2 % 7).Nodup := by
    have h1 := List.pairwise_map.mp (h.nd p)
    refine List.pairwise_map.mpr (List.Pairwise.imp_of_mem (fun {a c} ha hc hne e => hne ?_) h1)
    have r1 := h.rng p a ha
    have r2 := h.rng p c hc
    omega
  have n2 := nd_len (m := (List.range (5 * k)).map fun j : Nat => (j : Int)) n1 fun x hx => by
    obtain ⟨y, hy, rfl⟩ := List.mem_map.mp hx
    have r := h.rng p y hy
    refine List.mem_map.mpr ⟨(5 * (y.2 / 7) + y.2 % 7).toNat, List.mem_range.mpr (by omega), by omega⟩
  rw [List.length_map, List.length_map, List.length_range] at n2
  exact n2
theorem brings_count (c : Str) (n : Int) (p : Str) : bringsM (.count c n) p = 0 := rfl
theorem Inv24.new (bg : Str → Int) (hb : ∀ p, bg p = 0) : Inv24 0 (fun _ => []) bg [] :=
  ⟨fun _ => List.nodup_nil, fun _ _ _ x hx => (by cases hx), fun _ x hx => (by cases hx), fun p _ => (by rw [hb p]; rfl)⟩
theorem nodup_split {α : Type} {a b : List α} (h : (a ++ b).Nodup) : a.Nodup ∧ b.Nodup ∧ ∀ x ∈ a, ∀ y ∈ b, x ≠ y := List.nodup_append.mp h
theorem inv_step {k : Nat} {th th' : Str → List Note} {bg bg' : Str → Int} {b : List Page} {ways : List Way} {d : Deed} (h : Inv24 k th bg b) (hk : k ≤ 23) (wo : WaysOk ways) (w : Went ways th bg (7 * (k : Int)) d th' bg') (nm : Nm) :
    Inv24 (k + 1) th' bg' (b ++ [(nm, d)]) ∧ d.ok ∧ (0 ≤ d.size ∧ d.size ≤ 200) ∧ ∀ p c, d = .count p c → c = sumB p b := by
  obtain ⟨⟨one, other⟩, hr, w⟩ := w
  obtain ⟨wne, won⟩ := wo.2.2 _ hr
  dsimp only at wne won w
  have up : ∀ {v : Int}, v < 7 * (k : Int) → v < 7 * ((k + 1 : Nat) : Int) := fun {v} h => by omega
  have l1 := h.len one
  rcases w with ⟨rfl, rfl, rfl⟩ | ⟨s, c, rs, rfl, hc, rfl, lr, mr, rfl, rfl⟩ | ⟨c, ne, rfl, rfl, rfl⟩ | ⟨c, rs, ne, rfl, lr, mr, rfl, rfl⟩
  · refine ⟨⟨h.nd, h.dj, fun p x hx => ?_, fun p hp => ?_⟩, trivial, ⟨Int.le_refl _, by show (0 : Int) ≤ 200; decide⟩, fun p c e => ?_⟩
    · obtain ⟨a, b, c⟩ := h.rng p x hx
      exact ⟨a, up b, c⟩
    · rw [sumB_snoc, brings_count, Int.add_zero]
      exact h.sum p hp
    · injection e with e1 e2
      rw [← e2, ← e1]
      exact h.sum other won
  · have nw : ∀ x ∈ ((List.range c).map fun j : Nat => ((s, 7 * (k : Int) + (j : Int)) : Note)), ∃ j : Nat, j < c ∧ x = (s, 7 * (k : Int) + (j : Int)) := fun x hx => by
      obtain ⟨j, hj, e⟩ := List.mem_map.mp hx
      exact ⟨j, List.mem_range.mp hj, e.symm⟩
    refine ⟨⟨fun p => ?_, fun p q npq x hx y hy => ?_, fun p x hx => ?_, fun p hp => ?_⟩, lr, ?_, fun p c e => nomatch e⟩
    · unfold updF
      split
      · rw [List.map_append]
        refine List.nodup_append.mpr ⟨h.nd other, ?_, fun a ha e he => ?_⟩
        · rw [List.map_map]
          refine List.pairwise_map.mpr (List.Pairwise.imp (fun {a b} hab e => hab ?_) List.nodup_range)
          have e' : 7 * (k : Int) + (a : Int) = 7 * (k : Int) + (b : Int) := e
          omega
        · obtain ⟨x, hx, rfl⟩ := List.mem_map.mp ha
          obtain ⟨y, hy, rfl⟩ := List.mem_map.mp he
          obtain ⟨j, hj, rfl⟩ := nw y hy
          have := (h.rng other x hx).2.1
          show x.2 ≠ 7 * (k : Int) + (j : Int)
          omega
      · exact h.nd p
    · unfold updF at hx hy
      have old : ∀ {p' q'}, p' ≠ q' → ∀ {x y : Note}, x ∈ th p' → y ∈ th q' → x.2 ≠ y.2 := fun {p' q'} n {x y} a b => h.dj p' q' n x a y b
      have sep : ∀ {p'} {x y : Note}, x ∈ th p' → y ∈ ((List.range c).map fun j : Nat => ((s, 7 * (k : Int) + (j : Int)) : Note)) → x.2 ≠ y.2 := fun {p' x y} a b => by
        obtain ⟨j, hj, rfl⟩ := nw y b
        have := (h.rng p' x a).2.1
        show x.2 ≠ 7 * (k : Int) + (j : Int)
        omega
      by_cases e1 : p = other
      · rw [if_pos e1] at hx
        rw [if_neg (fun z => npq (e1.trans z.symm))] at hy
        rcases List.mem_append.mp hx with hx | hx
        · exact old (fun z => npq (e1.trans z)) hx hy
        · exact (sep hy hx).symm
      · rw [if_neg e1] at hx
        by_cases e2 : q = other
        · rw [if_pos e2] at hy
          rcases List.mem_append.mp hy with hy | hy
          · exact old (fun z => npq (z.trans e2.symm)) hx hy
          · exact sep hx hy
        · rw [if_neg e2] at hy
          exact old npq hx hy
    · unfold updF at hx
      have old : ∀ {p'} {x : Note}, x ∈ th p' → 0 ≤ x.2 ∧ x.2 < 7 * ((k + 1 : Nat) : Int) ∧ x.2 % 7 < 5 := fun {p' x} hx => by
        obtain ⟨a, b, c⟩ := h.rng p' x hx
        exact ⟨a, up b, c⟩
      split at hx
      · rcases List.mem_append.mp hx with hx | hx
        · exact old hx
        · obtain ⟨j, hj, rfl⟩ := nw x hx
          show 0 ≤ 7 * (k : Int) + (j : Int) ∧ 7 * (k : Int) + (j : Int) < 7 * ((k + 1 : Nat) : Int) ∧ (7 * (k : Int) + (j : Int)) % 7 < 5
          omega
      · exact old hx
    · rw [sumB_snoc, ← h.sum p hp]
      by_cases e1 : p = other
      · subst e1
        rw [updF_same, List.length_append, List.length_map, List.length_range]
        have eb : bringsM (.move "none" p rs) p = manyR rs := by
          unfold bringsM
          rw [if_pos (by show (decide (p = "none") || decide (p = p)) = true; simp), if_pos (by rfl)]
          rfl
        rw [eb, mr]
        omega
      · rw [updF_ne _ _ e1]
        have eb : bringsM (.move "none" other rs) p = 0 := if_neg (by show ¬ (decide (p = "none") || decide (p = other)) = true; simp [hp, e1])
        rw [eb, Int.add_zero]
    · show 0 ≤ manyR rs ∧ manyR rs ≤ 200
      omega
  · have sp := split_take (th one) c
    have lt : ((th one).take c).length ≤ (th one).length := by rw [List.length_take]; omega
    generalize (th one).take c = a1 at sp lt
    generalize (th one).drop a1.length = a2 at sp
    have ndA := h.nd one
    rw [← sp, List.map_append] at ndA
    obtain ⟨_, nd2, _⟩ := nodup_split ndA
    have mem2 : ∀ x ∈ a2, x ∈ th one := fun x hx => by rw [← sp]; exact List.mem_append.mpr (.inr hx)
    have hll : ((th one).length : Int) = (a1.length : Int) + (a2.length : Int) := by rw [← sp, List.length_append]; omega
    refine ⟨⟨fun p => ?_, fun p q npq x hx y hy => ?_, fun p x hx => ?_, fun p hp => ?_⟩, trivial, ?_, fun p c e => nomatch e⟩
    · unfold updF
      split
      · exact nd2
      · exact h.nd p
    · have up1 : ∀ {p'} {x : Note}, x ∈ updF th one a2 p' → x ∈ th p' := fun {p' x} hx => by
        unfold updF at hx
        split at hx
        · rename_i e
          rw [e]
          exact mem2 x hx
        · exact hx
      exact h.dj p q npq x (up1 hx) y (up1 hy)
    · have up1 : x ∈ th p := by
        unfold updF at hx
        split at hx
        · rename_i e
          rw [e]
          exact mem2 x hx
        · exact hx
      obtain ⟨a, b, c⟩ := h.rng p x up1
      exact ⟨a, up b, c⟩
    · rw [sumB_snoc, ← h.sum p hp]
      by_cases e1 : p = one
      · subst e1
        rw [updF_same, updF_ne _ _ wne]
        have eb : bringsM (.bag p other a1.length) p = 0 - (a1.length : Int) := by
          unfold bringsM
          rw [if_pos (by show (decide (p = p) || decide (p = other)) = true; simp), if_neg (fun z => wne z.symm)]
          rfl
        rw [eb]
        omega
      · rw [updF_ne _ _ e1]
        by_cases e2 : p = other
        · subst e2
          rw [updF_same]
          have eb : bringsM (.bag one p a1.length) p = (a1.length : Int) := by
            unfold bringsM
            rw [if_pos (by show (decide (p = one) || decide (p = p)) = true; simp), if_pos (by rfl)]
            rfl
          rw [eb]
          omega
        · rw [updF_ne _ _ e2]
          have eb : bringsM (.bag one other a1.length) p = 0 := if_neg (by show ¬ (decide (p = one) || decide (p = other)) = true; simp [e1, e2])
          rw [eb, Int.add_zero]
    · show 0 ≤ (a1.length : Int) ∧ (a1.length : Int) ≤ 200
      omega
  · have sp := split_take (th one) c
    have lt : ((th one).take c).length ≤ (th one).length := by rw [List.length_take]; omega
    generalize (th one).take c = a1 at sp lt mr
    generalize (th one).drop a1.length = a2 at sp
    have ndA := h.nd one
    rw [← sp, List.map_append] at ndA
    obtain ⟨nd1, nd2, nd12⟩ := nodup_split ndA
    have mem1 : ∀ x ∈ a1, x ∈ th one := fun x hx => by rw [← sp]; exact List.mem_append.mpr (.inl hx)
    have mem2 : ∀ x ∈ a2, x ∈ th one := fun x hx => by rw [← sp]; exact List.mem_append.mpr (.inr hx)
    have hll : ((th one).length : Int) = (a1.length : Int) + (a2.length : Int) := by rw [← sp, List.length_append]; omega
    -- where a note of the new state came from
    have from_ : ∀ {p'} {x : Note}, x ∈ updF (updF th one a2) other (th other ++ a1) p' → (p' = other ∧ x ∈ a1) ∨ (p' = one ∧ x ∈ a2) ∨ (p' ≠ one ∧ x ∈ th p') := fun {p' x} hx => by
      by_cases e1 : p' = other
      · rw [e1, updF_same] at hx
        rcases List.mem_append.mp hx with hx | hx
        · exact .inr (.inr ⟨fun z => wne (z.symm.trans e1), e1 ▸ hx⟩)
        · exact .inl ⟨e1, hx⟩
      · rw [updF_ne _ _ e1] at hx
        by_cases e2 : p' = one
        · rw [e2, updF_same] at hx
          exact .inr (.inl ⟨e2, hx⟩)
        · rw [updF_ne _ _ e2] at hx
          exact .inr (.inr ⟨e2, hx⟩)
    have d12 : ∀ x ∈ a1, ∀ y ∈ a2, x.2 ≠ y.2 := fun x hx y hy => nd12 _ (List.mem_map.mpr ⟨x, hx, rfl⟩) _ (List.mem_map.mpr ⟨y, hy, rfl⟩)
    refine ⟨⟨fun p => ?_, fun p q npq x hx y hy => ?_, fun p x hx => ?_, fun p hp => ?_⟩, lr, ?_, fun p c e => nomatch e⟩
    · by_cases e1 : p = other
      · rw [e1, updF_same, List.map_append]
        refine List.nodup_append.mpr ⟨h.nd other, nd1, fun u hu v hv => ?_⟩
        obtain ⟨x, hx, rfl⟩ := List.mem_map.mp hu
        obtain ⟨y, hy, rfl⟩ := List.mem_map.mp hv
        exact h.dj other one wne.symm x hx y (mem1 y hy)
      · rw [updF_ne _ _ e1]
        by_cases e2 : p = one
        · rw [e2, updF_same]
          exact nd2
        · rw [updF_ne _ _ e2]
          exact h.nd p
    · rcases from_ hx with ⟨e1, hx⟩ | ⟨e1, hx⟩ | ⟨e1, hx⟩ <;> rcases from_ hy with ⟨e2, hy⟩ | ⟨e2, hy⟩ | ⟨e2, hy⟩
      · exact absurd (e1.trans e2.symm) npq
      · exact d12 x hx y hy
      · exact h.dj one q e2.symm x (mem1 x hx) y hy
      · exact (d12 y hy x hx).symm
      · exact absurd (e1.trans e2.symm) npq
      · exact h.dj one q e2.symm x (mem2 x hx) y hy
      · exact h.dj p one e1 x hx y (mem1 y hy)
      · exact h.dj p one e1 x hx y (mem2 y hy)
      · exact h.dj p q npq x hx y hy
    · have old : ∃ p', x ∈ th p' := by
        rcases from_ hx with ⟨_, hx⟩ | ⟨_, hx⟩ | ⟨_, hx⟩
        · exact ⟨_, mem1 x hx⟩
        · exact ⟨_, mem2 x hx⟩
        · exact ⟨_, hx⟩
      obtain ⟨p', hx'⟩ := old
      obtain ⟨a, b, c⟩ := h.rng p' x hx'
      exact ⟨a, up b, c⟩
    · rw [sumB_snoc, ← h.sum p hp]
      by_cases e1 : p = other
      · subst e1
        rw [updF_same, List.length_append]
        have eb : bringsM (.move one p rs) p = manyR rs := by
          unfold bringsM
          rw [if_pos (by show (decide (p = one) || decide (p = p)) = true; simp), if_pos (by rfl)]
          rfl
        rw [eb, mr]
        omega
      · rw [updF_ne _ _ e1]
        by_cases e2 : p = one
        · subst e2
          rw [updF_same]
          have eb : bringsM (.move p other rs) p = 0 - manyR rs := by
            unfold bringsM
            rw [if_pos (by show (decide (p = p) || decide (p = other)) = true; simp), if_neg (fun z => e1 z.symm)]
            rfl
          rw [eb, mr]
          omega
        · rw [updF_ne _ _ e2]
          have eb : bringsM (.move one other rs) p = 0 := if_neg (by show ¬ (decide (p = one) || decide (p = other)) = true; simp [e1, e2])
          rw [eb, Int.add_zero]
    · show 0 ≤ manyR rs ∧ manyR rs ≤ 200
      omega
end Pn
set_option maxHeartbeats 4000000
/-! the order of names; _law_history -/
namespace Pn
open PySem L2 Evl
theorem toks_nm (n : Nm) : PySem.W.keyToks (nmD n) = [.inl 1, .inl n.1, .inl 1, .inl n.2.1, .inl 1, .inr n.2.2.cps.toList, .inl 0] := rfl
theorem toks_inj {n m : Nm} (h : PySem.W.keyToks (nmD n) = PySem.W.keyToks (nmD m)) : n = m := by
  rw [toks_nm, toks_nm] at h
  obtain ⟨a, b, c⟩ := n
  obtain ⟨a', b', c'⟩ := m
  injection h with _ h
  injection h with h1 h
  injection h with _ h
  injection h with h2 h
  injection h with _ h
  injection h with h3 h
  injection h1 with h1
  injection h2 with h2
  injection h3 with h3
  dsimp only at h1 h2 h3
  rw [h1, h2, PySem.W.str_of_cps h3]
abbrev nmOrd : PyProof.Rows.KeyOrd := PyProof.Rows.listOrd PyProof.Rows.itemOrd
theorem ltN_irrefl (n : Nm) : ltN n n = false := nmOrd.irrefl (PySem.W.keyToks (nmD n))
theorem ltN_trans {a b c : Nm} (h1 : ltN a b = true) (h2 : ltN b c = true) : ltN a c = true := nmOrd.trans (PySem.W.keyToks (nmD a)) (PySem.W.keyToks (nmD b)) (PySem.W.keyToks (nmD c)) h1 h2
theorem ltN_of {a b : Nm} (h : ltN b a = false) (ne : a ≠ b) : ltN a b = true := by
  cases e : ltN a b with
  | true => rfl
  | false => exact absurd (toks_inj (nmOrd.total (PySem.W.keyToks (nmD a)) (PySem.W.keyToks (nmD b)) e h)) ne
theorem ltN_asymm {a b : Nm} (h : ltN a b = true) : ltN b a = false := by
  cases e : ltN b a with
  | false => rfl
  | true =>
    have := ltN_trans h e
    rw [ltN_irrefl] at this
    cases this
theorem ltN_ne {a b : Nm} (h : ltN a b = true) : a ≠ b := fun e => by
  rw [e, ltN_irrefl] at h
  cases h
theorem side_nm (bs : List Nm) : SortSide nmD bs where
  al := fun d hd d' hd' => by
    obtain ⟨b, _, rfl⟩ := List.mem_map.mp hd
    obtain ⟨b', _, rfl⟩ := List.mem_map.mp hd'
    rfl
  so := .inl fun d hd => by
    obtain ⟨b, _, rfl⟩ := List.mem_map.mp hd
    exact ⟨_, _, rfl⟩
  dp := fun b _ => depth_nm b
theorem sorted_nm {bs bs' : List Nm} (h : Sorted1 nmD nmK bs bs') : bs'.Pairwise (fun a b => ltN a b = true) := by
  obtain ⟨_, _, h3, h4⟩ := h
  have h5 := List.pairwise_map.mp h3
  exact (h5.and h4).imp fun {a b} ⟨n, l⟩ => ltN_of l fun e => n (by rw [e])
/-- what is known of a book the law makes -/
structure Good (b : List Page) : Prop where
  len : b.length ≤ 24
  srt : (b.map (·.1)).Pairwise (fun n m => ltN n m = true)
  nm : ∀ g ∈ b, NmIn g.1
  ok : ∀ g ∈ b, g.2.ok
  siz : ∀ g ∈ b, 0 ≤ g.2.size ∧ g.2.size ≤ 200
  cnt : ∀ (i : Nat) nm p c, b[i]? = some (nm, .count p c) → c = sumB p (b.take i)
/-! ### dict(pairs) whose keys may come twice -/
theorem merge_get (Pr : V → Prop) : ∀ (more kvs : List (Key × V)), (∀ kv ∈ more, Pr kv.2) → (∀ k v, valV kvs k = some v → Pr v) → ∀ k, (k ∈ more.map (·.1) ∨ ∃ v, valV kvs k = some v) → ∃ v, valV (mergeK kvs more) k = some v ∧ Pr v
  | [], kvs, _, h2, k, h => by
    rcases h with h | ⟨v, h⟩
    · cases h
    · exact ⟨v, h, h2 k v h⟩
  | kv :: more, kvs, h1, h2, k, h => by
    refine merge_get Pr more (putK kvs kv.1 kv.2) (fun x hx => h1 x (List.mem_cons_of_mem _ hx)) (fun j v hj => ?_) k ?_
    · rw [valV_put] at hj
      split at hj
      · rw [← Option.some.inj hj]
        exact h1 kv List.mem_cons_self
      · exact h2 j v hj
    · by_cases e : k = kv.1
      · exact .inr ⟨kv.2, by rw [valV_put, if_pos e]⟩
      · rcases h with h | ⟨v, h⟩
        · rcases List.mem_cons.mp h with h | h
          · exact absurd h e
          · exact .inl h
        · exact .inr ⟨v, by rw [valV_put, if_neg e]; exact h⟩
theorem Pairs.mono {H H' : Hp} {ps : List Addr} {kvs : List (Key × V)} (k : Tk H H') (h : Paired (fun p (kv : Key × V) => H p = some (.tup [kV kv.1, kv.2])) ps kvs) : Paired (fun p (kv : Key × V) => H' p = some (.tup [kV kv.1, kv.2])) ps kvs := by
  induction h with
  | nil => exact .nil
  | cons h _ ih => exact .cons (k _ _ h) ih
theorem Pairs.sq {K : PySem.W.Frag} {H : Hp} {ps : List Addr} {kvs : List (Key × V)} (h : Paired (fun p (kv : Key × V) => H p = some (.tup [kV kv.1, kv.2])) ps kvs) : Paired (fun p (kv : Key × V) => SqT K H p [kV kv.1, kv.2]) ps kvs := by
  induction h with
  | nil => exact .nil
  | cons h _ ih => exact .cons (SqT.of h) ih
theorem r_sortG {K : PySem.W.Frag} {β : Type} {enc : β → PyData} {kk : β → List Key} {te : TE} {σ : L2.St} {H : Hp} {Q : VK} (h : te σ H fun x H1 => tSortG K enc kk (tC x) σ H1 Q) : tSortG K enc kk te σ H Q := h
section
variable {P : Program} {w : World} {K : PySem.W.Frag} {mg : Str → Option Value} {base : Heap}
def spHist : Sp := fun vs H Q _ => ∃ (F S O : Addr) (n : Nat) (most : Nat) (ws : List Note) (ways : List Way), vs = [.ref F, .ref O, .int (most : Int)] ∧ FD H F S n ∧ n ≤ 20000 ∧ most ≤ 24 ∧
  OffOk H O ws ways ∧ ws ≠ [] ∧ ws.length ≤ 100 ∧ WaysOk ways ∧
  ∀ (H' : Hp) (t : Addr) (xs : List V) (b : List Page), Kb F H H' → FD H' F S (n + 500) → PlT H' t xs → TDs H' (b.map pageD) xs → Good b → Q (.ref t) H'
theorem ok_hist {f : Addr} {fd : FuncData} (F : Fun K "_law_history" "_law_history" dHist f fd) (T : Tx mg) (GN : Dfn P w K mg base 2 "_law_name" ["_law_feed_here"] spNm)
    (GW : Dfn P w K mg base 2 "_law_went" ["_law_feed_here", "_law_office_here", "_law_there", "_law_bagged", "_law_fresh"] spWent) :
    FnOk P w K mg base CX0 3 f fd ["_law_feed_here", "_law_office_here", "_law_most"] spHist := by
  refine F.ok cHist (fun vs H Q E h => ?_) (fun cdv A outer s H vs Q E hr h => ?_)
  · obtain ⟨_, _, _, _, _, _, _, rfl, _⟩ := h
    rfl
  · obtain ⟨F, S, O, n, most, ws, ways, rfl, fd0, nb, most24, off, wne, wlen, wok, q⟩ := h
    refine ⟨_, pss_cons (ps_set (i := 3) cHist.nd rfl (Or.inl rfl) (pe_sortG (enc := nmD) (kk := nmK) rfl hr.units (by rfl) T.sorted (by rfl) T.set
        (pe_lc (own := [("_law_k", 9)]) (g := gName 9) (tt := tYes) rfl cHist.nd (pi_range1 rfl T.range (pa_cons (pv 2) pa_nil)) (blkOk_by (N := ["_law_feed_here", "_law_office_here", "_law_most", "_law_names", "_law_places", "_law_there", "_law_bagged", "_law_found", "_law_name_here", "_law_k", "_law_road", "_law_place"]) (sc := defScope dHist) (by decide +kernel))
          (fun _ _ _ _ _ => pg_name (i := 9) cHist.nd rfl (Or.inl rfl)) (fun _ _ _ _ _ => pts_nil) (fun _ _ _ _ _ => pe_call GN.ok hr rfl GN.at_ GN.kp GN.bd .nil pass0 (pa_cons (pv 0) pa_nil)))))
      (pss_cons (ps_set (i := 4) cHist.nd rfl (Or.inl rfl) (pe_op op_cat
        (pe_lc (own := [("_law_road", 10)]) (g := gName 10) (tt := tYes) rfl cHist.nd (pi_tup (pe_ix ix_tup (pv 1) pe_int (fun _ _ => rfl))) (blkOk_by (N := ["_law_feed_here", "_law_office_here", "_law_most", "_law_names", "_law_places", "_law_there", "_law_bagged", "_law_found", "_law_name_here", "_law_k", "_law_road", "_law_place"]) (sc := defScope dHist) (by decide +kernel))
          (fun _ _ _ _ _ => pg_name (i := 10) cHist.nd rfl (Or.inl rfl)) (fun _ _ _ _ _ => pts_nil) (fun _ _ _ _ _ => pe_ix (ixc K rfl) (pv 10) pe_int (fun _ _ => rfl)))
        (pe_lc (own := [("_law_road", 10)]) (g := gName 10) (tt := tYes) rfl cHist.nd (pi_tup (pe_ix ix_tup (pv 1) pe_int (fun _ _ => rfl))) (blkOk_by (N := ["_law_feed_here", "_law_office_here", "_law_most", "_law_names", "_law_places", "_law_there", "_law_bagged", "_law_found", "_law_name_here", "_law_k", "_law_road", "_law_place"]) (sc := defScope dHist) (by decide +kernel))
          (fun _ _ _ _ _ => pg_name (i := 10) cHist.nd rfl (Or.inl rfl)) (fun _ _ _ _ _ => pts_nil) (fun _ _ _ _ _ => pe_ix (ixc K rfl) (pv 10) pe_int (fun _ _ => rfl)))))
      (pss_cons (ps_set (i := 5) cHist.nd rfl (Or.inl rfl) (pe_callTy (call_dictP rfl) (by rfl) T.dict (by decide +kernel) (pa_cons
        (pe_lc (own := [("_law_place", 11)]) (g := gName 11) (tt := tYes) rfl cHist.nd (pi_list (pv 4)) (blkOk_by (N := ["_law_feed_here", "_law_office_here", "_law_most", "_law_names", "_law_places", "_law_there", "_law_bagged", "_law_found", "_law_name_here", "_law_k", "_law_road", "_law_place"]) (sc := defScope dHist) (by decide +kernel))
          (fun _ _ _ _ _ => pg_name (i := 11) cHist.nd rfl (Or.inl rfl)) (fun _ _ _ _ _ => pts_nil) (fun _ _ _ _ _ => pe_tup (pa_cons (pv 11) (pa_cons (pe_lst pa_nil) pa_nil)))) pa_nil)))
      (pss_cons (ps_set (i := 6) cHist.nd rfl (Or.inl rfl) (pe_callTy (call_dictP rfl) (by rfl) T.dict (by decide +kernel) (pa_cons
        (pe_lc (own := [("_law_place", 11)]) (g := gName 11) (tt := tYes) rfl cHist.nd (pi_list (pv 4)) (blkOk_by (N := ["_law_feed_here", "_law_office_here", "_law_most", "_law_names", "_law_places", "_law_there", "_law_bagged", "_law_found", "_law_name_here", "_law_k", "_law_road", "_law_place"]) (sc := defScope dHist) (by decide +kernel))
          (fun _ _ _ _ _ => pg_name (i := 11) cHist.nd rfl (Or.inl rfl)) (fun _ _ _ _ _ => pts_nil) (fun _ _ _ _ _ => pe_tup (pa_cons (pv 11) (pa_cons pe_int pa_nil)))) pa_nil)))
      (pss_cons (ps_set (i := 7) cHist.nd rfl (Or.inl rfl) (pe_lst pa_nil))
      (pss_cons (ps_for PassesOwn.never rfl (pi_list (pv 3)) (pg_name (i := 8) cHist.nd rfl (Or.inl rfl))
        (pss_one (ps_expr (pe_bm PySem.F.plainAttrs_list PySem.F.slot_list_append PySem.F.type_list_append mt_append (pv 7) (pa_cons (pe_tup (pa_cons (pv 8) (pa_cons
          (pe_call GW.ok hr rfl GW.at_ GW.kp GW.bd .nil pass0 (pa_cons (pv 0) (pa_cons (pv 1) (pa_cons (pv 5) (pa_cons (pv 6) (pa_cons (pe_op op_mul pe_int (pe_callB call_len_seq (by rfl) T.len PySem.boot_len (pa_cons (pv 7) pa_nil))) pa_nil)))))) pa_nil))) pa_nil)))))
      (pss_one (ps_ret (pe_callTy cr_tupF (by rfl) T.tuple (by decide +kernel) (pa_cons (pv 7) pa_nil))))))))), ?_⟩
    obtain ⟨wt, yt, wxs, yxs, hO, hwt, tws, hyt, tyx⟩ := id off
    have lyx : yxs.length = ways.length := by rw [tyx.length, List.length_map]
    have lw100 := wok.2.1
    -- names
    refine r_seq (r_set (r_sortG (r_lcR ⟨_, rfl, lkR (F := F) (S := S) (n0 := n) (n := most) 5 (fun i acc H' => ∃ ns : List Nm, TDs H' (ns.map nmD) acc ∧ ns.length = i ∧ ∀ m ∈ ns, NmIn m) (fun _ _ _ _ k ⟨ns, h1, h2⟩ => ⟨ns, h1.mono k, h2⟩) fd0 (by omega) ⟨[], TDs.nil, rfl, fun m hm => (by cases hm)⟩ (fun i H1 hi k1 f1 => ?_) fun p H2 acc hp k2 f2 h2 la hR => ?_⟩)))
    · refine ⟨_, fun N k => k, rfl, fun Q1 Q0 q1 q0 => r_yes (r_call ⟨_, rfl, F, S, n + 5 * i, rfl, f1, by omega, fun H3 v nm k3 f3 tv nin => ?_⟩)⟩
      refine q1 _ _ k3 (f3.more (by omega)) fun acc ⟨ns, t1, t2, t3⟩ => ⟨ns ++ [nm], ?_, by rw [List.length_append, t2]; rfl, fun m hm => ?_⟩
      · rw [List.map_append]
        exact (t1.mono (f1.tk k3)).append (TDs.one tv)
      · rcases List.mem_append.mp hm with h | h
        · exact t3 m h
        · rw [List.mem_singleton.mp h]
          exact nin
    obtain ⟨ns, tns, lns, nin⟩ := hR
    refine ⟨p, acc, ns, rfl, SqL.of h2, tns, by omega, side_nm ns, fun _ _ => rfl, fun nl ys bs hnl tys so => ?_⟩
    have srt := sorted_nm so
    have lbs : bs.length ≤ 24 := by
      have := nd_len (nodup_of_map' so.2.2.1) fun x hx => so.1 x hx
      omega
    have nmin : ∀ m ∈ bs, NmIn m := fun m hm => nin m (so.1 m hm)
    dsimp only
    have k3 : Kb F H (upd H2 nl (.lst ys)) := k2.trans (Kb.ex (Ex.new hnl))
    have f3 : FD (upd H2 nl (.lst ys)) F S (n + 120) := (f2.ex (Ex.new hnl)).more (by omega)
    have hnl3 : (upd H2 nl (.lst ys)) nl = some (.lst ys) := upd_same
    have tys3 : TDs (upd H2 nl (.lst ys)) (bs.map nmD) ys := tys.mono (tk_new hnl)
    have nlF := f2.new hnl
    show tSeq _ _ _ _ (upd H2 nl (.lst ys))
    generalize upd H2 nl (.lst ys) = H3 at k3 f3 hnl3 tys3 ⊢
    have lys : ys.length = bs.length := by rw [tys3.length, List.length_map]
    have tk3 := fd0.tk k3
    -- places
    refine r_seq (r_set (r_op (r_lcT (ev_ix (ev_var rfl) (SqT.of (tk3 _ _ hO)) rfl H3 (Ex.refl _) _ fun H4 e4 => ?_))))
    refine lcT (xs := yxs) (fun i acc _ => acc = ((ways.take i).map fun r => V.str r.1)) (fun _ _ _ _ _ h => h) (by omega) ?_ (fun _ _ => rfl) (fun i x H5 hi e5 => ?_) fun p1 H5 acc1 hp1 e5 h5 _ hR1 => ?_
    · exact SrcT.ev ev_c (SqT.of (e4 _ _ (tk3 _ _ hyt)))
    · obtain ⟨r, a, hr', rfl, ha⟩ := way_item (tyx.mono tk3) hi
      refine ⟨_, fun N k => k, rfl, Turn.yes fun H6 e6 Q k => ?_⟩
      refine ev_ix (ev_var rfl) (SqT.of (e5 _ _ (e4 _ _ ha))) rfl H6 e6 _ fun H7 e7 => k _ _ e7 fun acc ha => ?_
      show acc ++ [_] = _
      rw [show acc = _ from ha, List.take_add_one, hr', List.map_append]
      rfl
    rw [lyx, List.take_length] at hR1
    subst hR1
    have e35 := e4.trans e5
    refine r_lcT (ev_ix (ev_var rfl) (SqT.of (e35 _ _ (tk3 _ _ hO))) rfl H5 (Ex.refl _) _ fun H6 e6 => ?_)
    refine lcT (xs := yxs) (fun i acc _ => acc = ((ways.take i).map fun r => V.str r.2)) (fun _ _ _ _ _ h => h) (by omega) ?_ (fun _ _ => rfl) (fun i x H7 hi e7 => ?_) fun p2 H7 acc2 hp2 e7 h7 _ hR2 => ?_
    · exact SrcT.ev ev_c (SqT.of (e6 _ _ (e35 _ _ (tk3 _ _ hyt))))
    · obtain ⟨r, a, hr', rfl, ha⟩ := way_item (tyx.mono tk3) hi
      refine ⟨_, fun N k => k, rfl, Turn.yes fun H8 e8 Q k => ?_⟩
      refine ev_ix (ev_var rfl) (SqT.of (e7 _ _ (e6 _ _ (e35 _ _ ha)))) rfl H8 e8 _ fun H9 e9 => k _ _ e9 fun acc ha => ?_
      show acc ++ [_] = _
      rw [show acc = _ from ha, List.take_add_one, hr', List.map_append]
      rfl
    rw [lyx, List.take_length] at hR2
    subst hR2
    refine ⟨p1, p2, _, _, rfl, rfl, e7 _ _ (e6 _ _ h5), h7, sz_of (by rw [List.length_map, List.length_map]; omega), fun pp hpp => ?_⟩
    dsimp only
    obtain ⟨pls, epls⟩ : ∃ pls : List Str, pls = ways.map (·.1) ++ ways.map (·.2) := ⟨_, rfl⟩
    have win : ∀ r ∈ ways, r.1 ∈ pls ∧ r.2 ∈ pls := fun r hr' => by
      rw [epls]
      exact ⟨List.mem_append.mpr (.inl (List.mem_map.mpr ⟨r, hr', rfl⟩)), List.mem_append.mpr (.inr (List.mem_map.mpr ⟨r, hr', rfl⟩))⟩
    have elist : (ways.map fun r => V.str r.1) ++ (ways.map fun r => V.str r.2) = pls.map V.str := by
      rw [epls, List.map_append, List.map_map, List.map_map]
      rfl
    have lpls : pls.length ≤ 200 := by rw [epls, List.length_append, List.length_map, List.length_map]; omega
    rw [elist]
    have e38 := (e35.trans (e6.trans e7)).trans (Ex.new (o := .lst (pls.map V.str)) hpp)
    have f8 : FD (upd H7 pp (.lst (pls.map V.str))) F S (n + 120) := f3.ex e38
    have hpp8 : (upd H7 pp (.lst (pls.map V.str))) pp = some (.lst (pls.map V.str)) := upd_same
    show tSeq _ _ _ _ (upd H7 pp (.lst (pls.map V.str)))
    generalize upd H7 pp (.lst (pls.map V.str)) = H8 at e38 f8 hpp8 ⊢
    -- there
    refine r_seq (r_set (r_cb (r_cons ⟨_, rfl, pp, rfl, ⟨_, SqL.of hpp8⟩, fun Dl hD => ?_⟩)))
    have nDF := f8.new hD
    refine lc_list (xs := pls.map V.str) (fun i H' => Ex H8 H' ∧ ∃ (ps : List Addr) (kvs : List (Key × V)), H' Dl = some (.lst (ps.map V.ref)) ∧ ps.length = i ∧ kvs.map (·.1) = (pls.take i).map (fun z => (Sum.inr z : Key)) ∧ Paired (fun p (kv : Key × V) => H' p = some (.tup [kV kv.1, kv.2])) ps kvs ∧
      ∀ kv ∈ kvs, ∃ l, kv.2 = V.ref l ∧ H' l = some (.lst []) ∧ l ≠ Dl ∧ l ≠ F) ⟨Ex.new hD, [], [], upd_same, rfl, rfl, .nil, fun kv h => (by cases h)⟩ (fun i H' _ p => SqL.of (p.1 _ _ hpp8)) (fun i x H' hi hW => ?_) fun H9 hW => ?_
    · obtain ⟨e, ps, kvs, hDl, lps, ek, prs, vls⟩ := hW
      rw [List.getElem?_map] at hi
      cases hz : pls[i]? with
      | none => rw [hz] at hi; cases hi
      | some z =>
        rw [hz] at hi
        have ex : V.str z = x := Option.some.inj hi
        subst ex
        have li : i < 200 := by
          have := (List.getElem?_eq_some_iff.mp hz).1
          omega
        refine ⟨rfl, r_yes (Q0 := fun H3 => _) ⟨_, rfl, Nat.zero_le _, fun l hl => ⟨by show 2 ≤ sizeLine; decide, fun tp htp => ?_⟩⟩⟩
        have el := Ex.new (o := .lst []) hl
        have et := Ex.new (o := .tup [.str z, .ref l]) htp
        have hDl2 := et _ _ (el _ _ hDl)
        have nlD : l ≠ Dl := (ne_of_none hDl hl).symm
        refine ⟨_, hDl2, sz_lt (by rw [List.length_map]; omega), Ex.mut ((e.trans el).trans et) hD, ps ++ [tp], kvs ++ [(Sum.inr z, .ref l)], ?_, by rw [List.length_append, lps]; rfl, ?_, Paired.snoc ?_ ?_, fun kv hkv => ?_⟩
        · rw [List.map_append]
          exact upd_same
        · rw [List.map_append, ek, List.take_add_one, hz, List.map_append]
          rfl
        · exact Pairs.mono ((Tk.ex (el.trans et)).trans (tk_lst hDl2)) prs
        · rw [upd_ne (ne_of_none (el _ _ hDl) htp).symm]
          exact upd_same
        · rcases List.mem_append.mp hkv with h | h
          · obtain ⟨l', e1, e2, e3, e4⟩ := vls kv h
            exact ⟨l', e1, by rw [upd_ne e3]; exact et _ _ (el _ _ e2), e3, e4⟩
          · rw [List.mem_singleton.mp h]
            refine ⟨l, rfl, ?_, nlD, (f8.ex e).new hl⟩
            rw [upd_ne nlD]
            exact et _ _ upd_same
    obtain ⟨e89, ps, kvs, hDl, lps, ek, prs, vls⟩ := hW
    rw [List.length_map, List.take_length] at ek
    refine ⟨Dl, ps, kvs, rfl, SqL.of hDl, Pairs.sq prs, fun Ta hTa => ?_⟩
    dsimp only
    have lkv : kvs.length ≤ 200 := by
      have := congrArg List.length ek
      rw [List.length_map, List.length_map] at this
      omega
    have e9 := e89.trans (Ex.new (o := .dK (mergeK [] kvs)) hTa)
    have hT : (upd H9 Ta (.dK (mergeK [] kvs))) Ta = some (.dK (mergeK [] kvs)) := upd_same
    have lT : (mergeK [] kvs).length ≤ 1000 := by
      have := length_mergeK kvs []
      rw [List.length_nil] at this
      omega
    have thT : ∀ p ∈ pls, ∃ l, valV (mergeK [] kvs) (Sum.inr p) = some (.ref l) ∧ (upd H9 Ta (.dK (mergeK [] kvs))) l = some (.lst []) ∧ l ≠ F := fun p hp => by
      obtain ⟨v, h1, l, h2, h3, _, h5⟩ := merge_get (fun v => ∃ l, v = V.ref l ∧ H9 l = some (.lst []) ∧ l ≠ Dl ∧ l ≠ F) kvs [] vls (fun k v h => (by cases h)) (Sum.inr p) (.inl (by rw [ek]; exact List.mem_map.mpr ⟨p, hp, rfl⟩))
      exact ⟨l, by rw [h1, h2], Ex.new hTa _ _ h3, h5⟩
    have hTa8 : H8 Ta = none := fresh_back e89 hTa
    have nTF := f8.new hTa8
    have fA := f8.ex e9
    show tSeq _ _ _ _ (upd H9 Ta (.dK (mergeK [] kvs)))
    generalize upd H9 Ta (.dK (mergeK [] kvs)) = HA at e9 hT thT fA ⊢
    -- bagged
    refine r_seq (r_set (r_cb (r_cons (lcL (xs := pls.map V.str) (fun i acc H' => ∃ (ps : List Addr) (kvs : List (Key × V)), acc = ps.map V.ref ∧ kvs.map (·.1) = (pls.take i).map (fun z => (Sum.inr z : Key)) ∧ Paired (fun p (kv : Key × V) => H' p = some (.tup [kV kv.1, kv.2])) ps kvs ∧ ∀ kv ∈ kvs, kv.2 = V.int 0)
      (fun _ _ _ _ k ⟨ps, kvs, h1, h2, h3, h4⟩ => ⟨ps, kvs, h1, h2, Pairs.mono k h3, h4⟩) (by rw [List.length_map]; omega) ?_ (fun _ _ => ⟨[], [], rfl, rfl, .nil, fun kv h => (by cases h)⟩) (fun i x HB hi eB => ?_) fun pb HB accb hpb eB hb _ hRb => ?_))))
    · exact SrcL.ev (ev_var rfl) (SqL.of (e9 _ _ hpp8))
    · rw [List.getElem?_map] at hi
      cases hz : pls[i]? with
      | none => rw [hz] at hi; cases hi
      | some z =>
        rw [hz] at hi
        have ex : V.str z = x := Option.some.inj hi
        subst ex
        refine ⟨_, fun N k => k, rfl, Turn.yes fun HC eC Q k => ?_⟩
        refine eu_tup (ea_cons (ev_var rfl) (ea_cons ev_c ea_nil)) (by show 2 ≤ 100000; decide) HC (Ex.refl _) _ fun t HD _ eD ht => k _ _ eD fun acc ⟨ps, kvs, h1, h2, h3, h4⟩ => ⟨ps ++ [t], kvs ++ [(Sum.inr z, .int 0)], by rw [h1, List.map_append]; rfl, ?_, Paired.snoc (b := ((Sum.inr z : Key), V.int 0)) h3 ht, fun kv hkv => ?_⟩
        · rw [List.map_append, h2, List.take_add_one, hz, List.map_append]
          rfl
        · rcases List.mem_append.mp hkv with h | h
          · exact h4 kv h
          · rw [List.mem_singleton.mp h]
    obtain ⟨ps2, kvs2, rfl, ek2, prs2, vls2⟩ := hRb
    rw [List.length_map, List.take_length] at ek2
    refine ⟨pb, ps2, kvs2, rfl, SqL.of hb, Pairs.sq prs2, fun B hB => ?_⟩
    dsimp only
    have lkv2 : kvs2.length ≤ 200 := by
      have := congrArg List.length ek2
      rw [List.length_map, List.length_map] at this
      omega
    have eAC := eB.trans (Ex.new (o := .dK (mergeK [] kvs2)) hB)
    have hBB : (upd HB B (.dK (mergeK [] kvs2))) B = some (.dK (mergeK [] kvs2)) := upd_same
    have lB : (mergeK [] kvs2).length ≤ 1000 := by
      have := length_mergeK kvs2 []
      rw [List.length_nil] at this
      omega
    have bgB : ∀ p ∈ pls, valV (mergeK [] kvs2) (Sum.inr p) = some (.int 0) := fun p hp => by
      obtain ⟨v, h1, h2⟩ := merge_get (fun v => v = V.int 0) kvs2 [] vls2 (fun k v h => (by cases h)) (Sum.inr p) (.inl (by rw [ek2]; exact List.mem_map.mpr ⟨p, hp, rfl⟩))
      rw [h1, h2]
    have hBA : HA B = none := fresh_back eB hB
    have nTB : Ta ≠ B := fun z => by
      rw [← z, hT] at hBA
      cases hBA
    have hB8 : H8 B = none := fresh_back e9 hBA
    have fC := fA.ex eAC
    have hTC := eAC _ _ hT
    show tSeq _ _ _ _ (upd HB B (.dK (mergeK [] kvs2)))
    generalize upd HB B (.dK (mergeK [] kvs2)) = HC at eAC hBB fC hTC ⊢
    -- found
    refine q_asgL (el_lst ea_nil (by decide)) fun fl HD hflC eCD hfl => ?_
    have flF := fC.new hflC
    have flS := fC.newS hflC
    have fD := fC.ex eCD
    have e3D := (e38.trans (e9.trans eAC)).trans eCD
    have e8D := (e9.trans eAC).trans eCD
    have back : ∀ {a : Addr}, H8 a = none → a ≠ F → H a = none := fun {a} h nF => by
      cases e : H a with
      | none => rfl
      | some o =>
        have := e38 _ _ (k3 a o nF e)
        rw [h] at this
        cases this
    have hT0 := back hTa8 nTF
    have hB0 := back hB8 (f8.new hB8)
    have hfl8 : H8 fl = none := fresh_back (e9.trans eAC) hflC
    have hfl0 := back hfl8 flF
    have hnlD := e3D _ _ hnl3
    have st0 : WSt HD F S fl Ta B (n + 120) pls (fun _ => []) (fun _ => 0) := by
      refine ⟨fD, nTB, ⟨_, eCD _ _ hTC, lT, fun p hp => ?_⟩, ⟨_, eCD _ _ hBB, lB, bgB⟩, ⟨_, hfl⟩, flF⟩
      obtain ⟨l, h1, h2, h3⟩ := thT p hp
      refine ⟨l, [], h1, eCD _ _ (eAC _ _ h2), TDs.nil, h3, fun z => ?_⟩
      rw [z] at h2
      rw [eAC _ _ h2] at hflC
      cases hflC
    have k0D : Kb F H HD := k3.trans (Kb.ex e3D)
    have nlT : nl ≠ Ta := ne_of_none (e38 _ _ hnl3) hTa8
    have nlB : nl ≠ B := ne_of_none (e38 _ _ hnl3) hB8
    have nlfl : nl ≠ fl := ne_of_none (e38 _ _ hnl3) hfl8
    have flT : fl ≠ Ta := ne_of hfl (eCD _ _ hTC) (by intro z; cases z)
    have flB : fl ≠ B := ne_of hfl (eCD _ _ hBB) (by intro z; cases z)
    have tk0D := fd0.tk k0D
    refine q_forL (xs := ys) (ev_var rfl) (SqL.of hnlD) (fun i σ' H' => ∃ (y8 : Option V) (acc : List V) (b : List Page) (th : Str → List Note) (bg : Str → Int), σ' = [some (.ref F), some (.ref O), some (.int (most : Int)), some (.ref nl), some (.ref pp), some (.ref Ta), some (.ref B), some (.ref fl), y8, none, none, none] ∧ Kb F H H' ∧ Tk HD H' ∧ H' nl = some (.lst ys) ∧
        WSt H' F S fl Ta B (n + 120 + 10 * i) pls th bg ∧ H' fl = some (.lst acc) ∧ TDs H' (b.map pageD) acc ∧ b.map (·.1) = bs.take i ∧ b.length = i ∧ Inv24 i th bg b ∧ (∀ g ∈ b, g.2.ok) ∧ (∀ g ∈ b, 0 ≤ g.2.size ∧ g.2.size ≤ 200) ∧ ∀ (j : Nat) nm p c, b[j]? = some (nm, .count p c) → c = sumB p (b.take j))
      (fun H4 e4 => ⟨none, [], [], _, _, rfl, k0D.trans (Kb.ex e4), Tk.ex e4, e4 _ _ hnlD, st0.ex e4, e4 _ _ hfl, TDs.nil, rfl, rfl, Inv24.new _ fun _ => rfl, fun g h => (by cases h), fun g h => (by cases h), fun j nm p c h => (by simp at h)⟩) (fun i σ' H' _ ⟨_, _, _, _, _, _, _, _, h, _⟩ => SqL.of h) ?_ ?_
    · rintro i x σ' H' hi ⟨y8, acc, b, th, bg, rfl, k, tk, hnl', st, hfl', tb, eb, lb, inv, okb, szb, cnb⟩
      obtain ⟨d, hd, tx⟩ := TDs.getx (tys3.mono (Tk.ex e3D)) hi
      rw [List.getElem?_map] at hd
      cases hm : bs[i]? with
      | none => rw [hm] at hd; cases hd
      | some nm =>
        rw [hm] at hd
        have ed : nmD nm = d := Option.some.inj hd
        rw [← ed] at tx
        have li : i < bs.length := (List.getElem?_eq_some_iff.mp hm).1
        have la : acc.length = i := by rw [tb.length, List.length_map, lb]
        show tDrop _ _ _ _
        refine r_drop ⟨_, rfl, Or.inl ⟨rfl, acc, sq_of hfl'⟩, _, rfl, _, rfl, _, rfl, _, rfl, _, rfl, _, rfl, fl, acc, rfl, .inl (SqL.of hfl'), 7, _, rfl, rfl, .inl ⟨by decide, by decide⟩, F, S, fl, Ta, B, O, n + 120 + 10 * i, _, pls, th, bg, ws, ways, rfl, st, by omega,
          off.tk (tk0D.trans tk), wne, wlen, wok, win, fun p => ⟨by have := inv.len p; omega, nodup_of_map' (inv.nd p)⟩, fun H5 v dd th' bg' k5 tk5 st5 tv went => ⟨by show 2 ≤ sizeLine; decide, fun pt hpt => ?_⟩⟩
        have ept := Ex.new (o := .tup [x, v]) hpt
        have hfl5 := ept _ _ (k5 fl _ flF flT flB hfl')
        rw [la] at went
        obtain ⟨inv', okd, szd, cnd⟩ := inv_step inv (by omega) wok went nm
        refine ⟨fl, acc, .ref pt, rfl, rfl, hfl5, sz_lt (by omega), some x, acc ++ [.ref pt], b ++ [(nm, dd)], th', bg', rfl, ?_, ((tk.trans tk5).trans (Tk.ex ept)).trans (tk_lst hfl5), ?_, ?_, upd_same, ?_, ?_, by rw [List.length_append, lb]; rfl, inv', fun g hg => ?_, fun g hg => ?_, fun j nm' p c hj => ?_⟩
        · intro a o nF e
          have nT : a ≠ Ta := ne_of_none e hT0
          have nB : a ≠ B := ne_of_none e hB0
          have nfl : a ≠ fl := ne_of_none e hfl0
          rw [upd_ne nfl]
          exact ept _ _ (k5 a o nF nT nB (k a o nF e))
        · rw [upd_ne nlfl]
          exact ept _ _ (k5 nl _ nlF nlT nlB hnl')
        · exact ((st5.ex ept).updG flS _).more (by omega)
        · rw [List.map_append]
          have tp : TDs (upd H5 pt (.tup [x, v])) [pageD (nm, dd)] [.ref pt] := TDs.one (TD.tup upd_same (TDs.cons (tx.mono ((tk.trans tk5).trans (Tk.ex ept))) (TDs.one (tv.mono (Tk.ex ept)))))
          exact ((tb.mono (tk5.trans (Tk.ex ept))).append tp).mono (tk_lst hfl5)
        · rw [List.map_append, eb, List.take_add_one, hm]
          rfl
        · rcases List.mem_append.mp hg with h | h
          · exact okb g h
          · rw [List.mem_singleton.mp h]
            exact okd
        · rcases List.mem_append.mp hg with h | h
          · exact szb g h
          · rw [List.mem_singleton.mp h]
            exact szd
        · by_cases lj : j < b.length
          · rw [List.getElem?_append_left lj] at hj
            rw [List.take_append_of_le_length (by omega)]
            exact cnb j nm' p c hj
          · have ej : j = b.length := by
              have := (List.getElem?_eq_some_iff.mp hj).1
              rw [List.length_append, List.length_singleton] at this
              omega
            subst ej
            rw [List.getElem?_append_right (Nat.le_refl _), Nat.sub_self] at hj
            have := Option.some.inj hj
            have e2 : dd = .count p c := (Prod.mk.inj this).2
            rw [List.take_left]
            exact cnd p c e2
    · rintro σ' H' ⟨y8, acc, b, th, bg, rfl, k, tk, hnl', st, hfl', tb, eb, lb, inv, okb, szb, cnb⟩
      rw [lys, List.take_length] at eb
      refine r_ret (r_cb (r_cons ?_))
      refine ⟨_, rfl, fl, acc, rfl, SqL.of hfl', fun t o ht o1 o2 => q _ t acc b (k.trans (Kb.ex (Ex.new ht))) ((st.fd.ex (Ex.new ht)).more (by omega)) ⟨o, upd_same, o1, o2⟩ (tb.mono (tk_new ht)) ⟨by omega, by rw [eb]; exact srt, fun g hg => nmin g.1 (by rw [← eb]; exact List.mem_map.mpr ⟨g, hg, rfl⟩), okb, szb, cnb⟩⟩
end
end Pn
set_option maxHeartbeats 4000000
/-! _law_same -/
namespace Pn
open PySem L2 Evl
theorem day_short : ∀ i ∈ dayL, (PyData.int i).leavesShort 13 = true ∧ (PyData.int i).showable = true := by decide +kernel
theorem num_short : ∀ i ∈ numL, (PyData.int i).leavesShort 13 = true ∧ (PyData.int i).showable = true := by decide +kernel
theorem hand_short : ∀ z ∈ handL, (PyData.str z).leavesShort 13 = true ∧ (PyData.str z).bulk ≤ 100 := by decide +kernel
theorem nm_short {n : Nm} (h : NmIn n) : (nmD n).leavesShort 13 = true ∧ (nmD n).showable = true ∧ (nmD n).bulk ≤ 200 := by
  obtain ⟨h1, h2, h3⟩ := h
  obtain ⟨a1, a2⟩ := day_short _ h1
  obtain ⟨b1, b2⟩ := num_short _ h2
  obtain ⟨c1, c2⟩ := hand_short _ h3
  refine ⟨?_, ?_, ?_⟩
  · show ((PyData.int n.1).leavesShort 13 && ((PyData.int n.2.1).leavesShort 13 && ((PyData.str n.2.2).leavesShort 13 && true))) = true
    rw [a1, b1, c1]
    rfl
  · show ((PyData.int n.1).showable && ((PyData.int n.2.1).showable && (true && true))) = true
    rw [a2, b2]
    rfl
  · show 0 + 1 + (0 + 1 + ((PyData.str n.2.2).bulk + 1 + 0)) ≤ 200
    omega
theorem ah_short {o : Option Nm} (h : ∀ n, o = some n → NmIn n) : (ahD o).leavesShort 13 = true ∧ (ahD o).showable = true ∧ (ahD o).bulk ≤ 200 := by
  cases o with
  | none => exact ⟨rfl, rfl, by decide⟩
  | some n => exact nm_short (h n rfl)
theorem pair_short {o : Option Nm} {m : Nm} (h : ∀ n, o = some n → NmIn n) (hm : NmIn m) : (PyData.tuple [ahD o, nmD m]).showable = true ∧ (PyData.tuple [ahD o, nmD m]).shown.length ≤ sizeLine := by
  obtain ⟨a1, a2, a3⟩ := ah_short h
  obtain ⟨b1, b2, b3⟩ := nm_short hm
  refine ⟨?_, PyData.shown_fits_bulk (B := 13) (by decide) (by decide) ?_ ?_⟩
  · show ((ahD o).showable && ((nmD m).showable && true)) = true
    rw [a2, b2]
    rfl
  · show ((ahD o).leavesShort 13 && ((nmD m).leavesShort 13 && true)) = true
    rw [a1, b1]
    rfl
  · show (ahD o).bulk + 1 + ((nmD m).bulk + 1 + 0) ≤ 2 ^ 20
    omega
theorem pair_flat (o : Option Nm) (m : Nm) : (PyData.tuple [ahD o, nmD m]).hasDict = false ∧ (PyData.tuple [ahD o, nmD m]).depth ≤ 8 := by
  cases o with
  | none => exact ⟨rfl, by show (2 : Nat) ≤ 8; decide⟩
  | some n => exact ⟨rfl, by show (2 : Nat) ≤ 8; decide⟩
section
variable {X : Cx}
def rRepr3 : List V → Hp → VK → Prop := fun vs H Q => rReprI vs H Q ∨ rReprN vs H Q ∨ rReprD vs H Q
theorem cr_repr3 (hu : X.A.units + 64 < cLine) (hg : X.A.guards = some []) : CallR X (.builtin "repr") rRepr3 := by
  intro pins s σ H vs us Q I r h
  rcases h with h | h | h
  · exact cr_reprI pins s σ H vs us Q I r h
  · exact cr_reprN pins s σ H vs us Q I r h
  · exact cr_reprD hu hg pins s σ H vs us Q I r h
end
/-- the three kinds that are compared -/
def SameV (H : Hp) (x y : V) : Prop := (∃ i : Int, x = .int i ∧ y = .int i ∧ i.natAbs.log2 < 1920) ∨ (x = .non ∧ y = .non) ∨ ∃ (o : Option Nm) (m : Nm), TD H (.tuple [ahD o, nmD m]) x ∧ TD H (.tuple [ahD o, nmD m]) y ∧ (∀ n, o = some n → NmIn n) ∧ NmIn m
theorem SameV.ex {H H' : Hp} {x y : V} (e : Ex H H') (h : SameV H x y) : SameV H' x y := by
  rcases h with h | h | ⟨o, m, h1, h2, h3⟩
  · exact .inl h
  · exact .inr (.inl h)
  · exact .inr (.inr ⟨o, m, h1.mono (Tk.ex e), h2.mono (Tk.ex e), h3⟩)
section
variable {P : Program} {w : World} {K : PySem.W.Frag} {mg : Str → Option Value} {base : Heap}
def spSame : Sp := fun vs H Q _ => ∃ x y : V, vs = [x, y] ∧ SameV H x y ∧ ∀ H', Ex H H' → Q (.bl true) H'
theorem ok_same {f : Addr} {fd : FuncData} (F : Fun K "_law_same" "_law_same" dSame f fd) (T : Tx mg) : FnG P w K mg base 1 f fd ["_law_found", "_law_due"] spSame := by
  refine fun_okG F cSame (fun vs H Q E h => ?_) (fun cdv A outer s H vs Q E hgu hr h => ?_)
  · obtain ⟨_, _, rfl, _⟩ := h
    rfl
  · obtain ⟨x, y, rfl, sv, q⟩ := h
    refine ⟨_, pss_one (ps_ret (pe_cmpR op_eq (pe_callB (cr_repr3 hr.units hgu) (by rfl) T.repr (by decide +kernel) (pa_cons (pv 0) pa_nil)) (pe_callB (cr_repr3 hr.units hgu) (by rfl) T.repr (by decide +kernel) (pa_cons (pv 1) pa_nil)) (nomark _))), ?_⟩
    have fin : ∀ (z : Str) H1, Ex H H1 → Q (.bl (decide (V.str z = V.str z))) H1 := fun z H1 e => by
      rw [decide_eq_true rfl]
      exact q H1 e
    rcases sv with ⟨i, rfl, rfl, hi⟩ | ⟨rfl, rfl⟩ | ⟨o, m, t1, t2, h1, h2⟩
    · exact r_ret (r_op ⟨_, rfl, .inl ⟨i, rfl, hi, _, rfl, .inl ⟨i, rfl, hi, rfl, fin _ _ (Ex.refl _)⟩⟩⟩)
    · exact r_ret (r_op ⟨_, rfl, .inr (.inl ⟨rfl, _, rfl, .inr (.inl ⟨rfl, rfl, fin _ _ (Ex.refl _)⟩)⟩)⟩)
    · obtain ⟨s1, s2⟩ := pair_short h1 h2
      obtain ⟨p1, p2⟩ := pair_flat o m
      exact r_ret (r_op ⟨_, rfl, .inr (.inr ⟨x, _, rfl, t1, ⟨_, rfl⟩, s1, p1, p2, s2, _, rfl, .inr (.inr ⟨y, _, rfl, t2, ⟨_, rfl⟩, s1, p1, p2, s2, rfl, fin _ _ (Ex.refl _)⟩)⟩)⟩)
end
end Pn
set_option maxHeartbeats 4000000
/-! the plain law of offs -/
namespace Pn
open PySem L2 Evl
def sumL (f : Page → Int) (l : List Page) : Int := (l.map f).sum
theorem sumL_nil (f : Page → Int) : sumL f [] = 0 := rfl
theorem sumL_cons (f : Page → Int) (g : Page) (l : List Page) : sumL f (g :: l) = f g + sumL f l := by simp [sumL]
theorem sumL_sub {f h k : Page → Int} : ∀ {l : List Page}, (∀ g ∈ l, f g = h g - k g) → sumL f l = sumL h l - sumL k l
  | [], _ => rfl
  | g :: l, e => by
    rw [sumL_cons, sumL_cons, sumL_cons, e g List.mem_cons_self, sumL_sub (l := l) fun x hx => e x (List.mem_cons_of_mem _ hx)]
    omega
theorem sumL_eq {f h : Page → Int} : ∀ {l : List Page}, (∀ g ∈ l, f g = h g) → sumL f l = sumL h l
  | [], _ => rfl
  | g :: l, e => by
    rw [sumL_cons, sumL_cons, e g List.mem_cons_self, sumL_eq (l := l) fun x hx => e x (List.mem_cons_of_mem _ hx)]
theorem sumL_part (f : Page → Int) (keep : Page → Bool) : ∀ l : List Page, sumL f l = sumL f (l.filter keep) + sumL f (l.filter fun g => !keep g)
  | [] => rfl
  | g :: l => by
    have ih := sumL_part f keep l
    rw [sumL_cons, List.filter_cons, List.filter_cons]
    cases keep g with
    | true =>
      rw [if_pos rfl, if_neg (by decide), sumL_cons, ih]
      omega
    | false =>
      rw [if_neg (by decide), if_pos (by rfl), sumL_cons, ih]
      omega
theorem sumL_filter (f : Page → Int) (c : Page → Bool) : ∀ l : List Page, ((l.filter c).map f).sum = sumL (fun g => if c g = true then f g else 0) l
  | [] => rfl
  | g :: l => by
    have ih := sumL_filter f c l
    rw [sumL_cons, List.filter_cons]
    split
    · rw [List.map_cons, List.sum_cons, ih]
    · rw [ih]
      omega
/-- what was brought below a name -/
def below (p : Str) (l : List Page) (x : Nm) : Int := sumL (fun g => if ltN g.1 x = true then bringsM g.2 p else 0) l
def btw (p : Str) (one : Option Nm) (other : Nm) (l : List Page) : Int := sumL (fun g => if (oneLt one g.1 && ltN g.1 other) = true then bringsM g.2 p else 0) l
def belowO (p : Str) (l : List Page) : Option Nm → Int
  | none => 0
  | some x => below p l x
theorem btw_is {p : Str} {one : Option Nm} {other : Nm} {l : List Page} (lt : ∀ a, one = some a → ltN a other = true) (z : ∀ a, one = some a → ∀ g ∈ l, g.1 = a → bringsM g.2 p = 0) : btw p one other l = below p l other - belowO p l one := by
  cases one with
  | none =>
    show btw p none other l = below p l other - 0
    rw [Int.sub_zero]
    exact sumL_eq fun g _ => by rw [show oneLt none g.1 = true from rfl, Bool.true_and]
  | some a =>
    have la := lt a rfl
    refine sumL_sub fun g hg => ?_
    show (if (ltN a g.1 && ltN g.1 other) = true then bringsM g.2 p else 0) = (if ltN g.1 other = true then bringsM g.2 p else 0) - (if ltN g.1 a = true then bringsM g.2 p else 0)
    cases e1 : ltN a g.1 with
    | true =>
      rw [ltN_asymm e1, Bool.true_and, if_neg (show ¬ false = true by decide), Int.sub_zero]
    | false =>
      rw [Bool.false_and, if_neg (show ¬ false = true by decide)]
      cases e2 : ltN g.1 a with
      | true =>
        rw [ltN_trans e2 la]
        omega
      | false =>
        have eg : g.1 = a := by
          by_cases e : g.1 = a
          · exact e
          · have := ltN_of e1 e
            rw [e2] at this
            cases this
        rw [z a rfl g hg eg]
        split <;> rfl
theorem net_btw (p : Str) (one : Option Nm) (other : Nm) (l : List Page) : netM p one other l = btw p one other l := by
  unfold netM
  rw [sumL_filter]
  refine sumL_eq fun g _ => ?_
  unfold netOk
  cases e : g.2.at_ p with
  | true => rw [Bool.and_true]
  | false =>
    have z : bringsM g.2 p = 0 := if_neg (by rw [e]; decide)
    rw [z]
    split <;> split <;> rfl
theorem pap_btw (p : Str) (one : Option Nm) (other : Nm) (l : List Page) : ((papM p one other l).map (·.2)).sum = btw p one other l := by
  unfold papM
  rw [List.map_map]
  show ((l.filter _).map fun g => bringsM g.2 p).sum = _
  rw [sumL_filter]
  refine sumL_eq fun g _ => ?_
  have e0 : papOk p one other g = (!decide (bringsM g.2 p = 0) && (ltN g.1 other && oneLt one g.1)) := rfl
  rw [e0]
  by_cases z : bringsM g.2 p = 0
  · rw [z]
    split <;> split <;> rfl
  · rw [decide_eq_false z]
    cases ltN g.1 other <;> cases oneLt one g.1 <;> rfl
theorem absI_le {a b : Int} (h1 : a ≤ b) (h2 : -b ≤ a) : absI a ≤ b := by
  unfold absI
  split <;> omega
theorem net_siz (p : Str) (one : Option Nm) (other : Nm) : ∀ (l : List Page), (∀ g ∈ l, 0 ≤ g.2.size ∧ g.2.size ≤ 200) → netM p one other l ≤ sizM p one other l ∧ -(sizM p one other l) ≤ netM p one other l ∧ sizM p one other l ≤ 200 * (l.length : Int)
  | [], _ => ⟨Int.le_refl _, Int.le_refl _, Int.le_refl _⟩
  | g :: l, h => by
    have ih := net_siz p one other l fun x hx => h x (List.mem_cons_of_mem _ hx)
    have hg := h g List.mem_cons_self
    have eN : netM p one other (g :: l) = (if netOk p one other g = true then bringsM g.2 p else 0) + netM p one other l := by
      unfold netM
      rw [sumL_filter, sumL_filter, sumL_cons]
    have eS : sizM p one other (g :: l) = (if netOk p one other g = true then g.2.size else 0) + sizM p one other l := by
      unfold sizM
      rw [sumL_filter, sumL_filter, sumL_cons]
    rw [eN, eS, List.length_cons]
    have bb : bringsM g.2 p ≤ g.2.size ∧ -g.2.size ≤ bringsM g.2 p := by
      unfold bringsM
      split
      · split <;> omega
      · omega
    split <;> omega
/-! ### sorted books -/
abbrev Srt (b : List Page) : Prop := (b.map (·.1)).Pairwise fun n m => ltN n m = true
theorem Srt.cons {g : Page} {b : List Page} (h : Srt (g :: b)) : (∀ x ∈ b, ltN g.1 x.1 = true) ∧ Srt b := by
  obtain ⟨h1, h2⟩ := List.pairwise_cons.mp h
  exact ⟨fun x hx => h1 _ (List.mem_map.mpr ⟨x, hx, rfl⟩), h2⟩
theorem Srt.nd {b : List Page} (h : Srt b) : (b.map (·.1)).Nodup := List.Pairwise.imp (fun {x y} h => ltN_ne h) h
theorem Srt.filter {b : List Page} (h : Srt b) (c : Page → Bool) : Srt (b.filter c) := List.Pairwise.sublist ((List.filter_sublist).map _) h
theorem below_zero' {p : Str} {x : Nm} : ∀ {b : List Page}, (∀ g ∈ b, ltN x g.1 = true) → below p b x = 0
  | [], _ => rfl
  | g :: b, h => by
    unfold below
    rw [sumL_cons]
    show (if ltN g.1 x = true then _ else _) + below p b x = 0
    rw [ltN_asymm (h g List.mem_cons_self), below_zero' (b := b) fun y hy => h y (List.mem_cons_of_mem _ hy)]
    rfl
theorem below_cons (p : Str) (g : Page) (b : List Page) (x : Nm) : below p (g :: b) x = (if ltN g.1 x = true then bringsM g.2 p else 0) + below p b x := sumL_cons _ _ _
/-- an entry of the offs: a count, less what stands below -/
theorem offs_mem {p : Str} : ∀ {b : List Page} {t : Int}, Srt b → ∀ e ∈ offsM p b t, ∃ c, (e.1, Deed.count p c) ∈ b ∧ e.2 = c - (t + below p b e.1)
  | [], _, _, e, h => by cases h
  | g :: b, t, s, e, h => by
    obtain ⟨s1, s2⟩ := Srt.cons s
    rcases List.mem_append.mp (show e ∈ offE p t g ++ offsM p b (t + bringsM g.2 p) from h) with h | h
    · obtain ⟨n, d⟩ := g
      cases d with
      | count q k =>
        have h' : e ∈ (if q = p then [(n, k - t)] else []) := h
        split at h'
        · rename_i eq
          have ee := List.mem_singleton.mp h'
          subst eq
          refine ⟨k, by rw [ee]; exact List.mem_cons_self, ?_⟩
          rw [ee, below_cons]
          dsimp only
          rw [ltN_irrefl, below_zero' s1]
          simp
        · cases h'
      | bag _ _ _ => cases h
      | move _ _ _ => cases h
    · obtain ⟨c, hc, hv⟩ := offs_mem s2 e h
      refine ⟨c, List.mem_cons_of_mem _ hc, ?_⟩
      rw [hv, below_cons, if_pos (s1 _ hc)]
      omega
theorem offs_srt {p : Str} : ∀ {b : List Page} {t : Int}, Srt b → ((offsM p b t).map (·.1)).Pairwise fun n m => ltN n m = true
  | [], _, _ => List.Pairwise.nil
  | g :: b, t, s => by
    obtain ⟨s1, s2⟩ := Srt.cons s
    have ih := offs_srt (p := p) (t := t + bringsM g.2 p) s2
    show ((offE p t g ++ offsM p b (t + bringsM g.2 p)).map (·.1)).Pairwise _
    have hE : offE p t g = [] ∨ ∃ v, offE p t g = [(g.1, v)] := by
      unfold offE
      split
      · split
        · exact .inr ⟨_, rfl⟩
        · exact .inl rfl
      · exact .inl rfl
    rcases hE with e | ⟨v, e⟩
    · rw [e]
      exact ih
    · rw [e]
      refine List.pairwise_cons.mpr ⟨fun x hx => ?_, ih⟩
      obtain ⟨y, hy, rfl⟩ := List.mem_map.mp hx
      obtain ⟨c, hc, _⟩ := offs_mem s2 y hy
      exact s1 _ hc
/-- a whole book's prefix sums are what stands below -/
theorem sum_below {p : Str} : ∀ {b : List Page}, Srt b → ∀ (i : Nat) (g : Page), b[i]? = some g → sumB p (b.take i) = below p b g.1
  | [], _, i, g, h => by simp at h
  | x :: b, s, 0, g, h => by
    have e : x = g := Option.some.inj h
    subst e
    obtain ⟨s1, s2⟩ := Srt.cons s
    rw [below_cons, ltN_irrefl, below_zero' s1]
    rfl
  | x :: b, s, i + 1, g, h => by
    obtain ⟨s1, s2⟩ := Srt.cons s
    have h' : b[i]? = some g := h
    have ih := sum_below (p := p) s2 i g h'
    rw [below_cons, if_pos (s1 g (List.mem_of_getElem? h')), ← ih]
    show sumB p (x :: b.take i) = _
    simp [sumB]
/-- what the earlier name is told -/
def Told (p : Str) (b : List Page) (x : Nm) : Option Nm → Int → Prop
  | none, v => v = 0
  | some a, v => (a, v) ∈ offsM p b 0 ∧ ltN a x = true
/-- what is_so is asked of: the book b, without the pages o -/
structure Part (b o : List Page) : Prop where
  ex : ∃ (w : List Page) (keep : Page → Bool), Good w ∧ b = w.filter keep ∧ o = w.filter (fun g => !keep g) ∧ ∀ g ∈ w, (∃ p c, g.2 = .count p c) → keep g = true
section
variable {b o : List Page}
theorem Part.srt (h : Part b o) : Srt b := by
  obtain ⟨w, keep, gw, rfl, rfl, _⟩ := h.ex
  exact Srt.filter gw.srt keep
theorem Part.lenB (h : Part b o) : b.length ≤ 24 := by
  obtain ⟨w, keep, gw, rfl, rfl, _⟩ := h.ex
  exact Nat.le_trans (List.length_filter_le _ _) gw.len
theorem Part.lenO (h : Part b o) : o.length ≤ 24 := by
  obtain ⟨w, keep, gw, rfl, rfl, _⟩ := h.ex
  exact Nat.le_trans (List.length_filter_le _ _) gw.len
theorem Part.okB (h : Part b o) : ∀ g ∈ b, g.2.ok := by
  obtain ⟨w, keep, gw, rfl, rfl, _⟩ := h.ex
  exact fun g hg => gw.ok g (List.mem_filter.mp hg).1
theorem Part.okO (h : Part b o) : ∀ g ∈ o, g.2.ok := by
  obtain ⟨w, keep, gw, rfl, rfl, _⟩ := h.ex
  exact fun g hg => gw.ok g (List.mem_filter.mp hg).1
theorem Part.sizO (h : Part b o) : ∀ g ∈ o, 0 ≤ g.2.size ∧ g.2.size ≤ 200 := by
  obtain ⟨w, keep, gw, rfl, rfl, _⟩ := h.ex
  exact fun g hg => gw.siz g (List.mem_filter.mp hg).1
theorem Part.nmB (h : Part b o) : ∀ g ∈ b, NmIn g.1 := by
  obtain ⟨w, keep, gw, rfl, rfl, _⟩ := h.ex
  exact fun g hg => gw.nm g (List.mem_filter.mp hg).1
/-- a count's number is what the whole brought below it -/
theorem Part.count (h : Part b o) {p : Str} {x : Nm} {c : Int} (hx : (x, Deed.count p c) ∈ b) : c - below p b x = below p o x := by
  obtain ⟨w, keep, gw, rfl, rfl, _⟩ := h.ex
  obtain ⟨i, hi⟩ := List.mem_iff_getElem?.mp (List.mem_filter.mp hx).1
  rw [gw.cnt i x p c hi, sum_below gw.srt i _ hi]
  have := sumL_part (fun g => if ltN g.1 x = true then bringsM g.2 p else 0) keep w
  unfold below
  dsimp only
  omega
theorem Part.notO (h : Part b o) {p : Str} {x : Nm} {c : Int} (hx : (x, Deed.count p c) ∈ b) : ∀ g ∈ o, g.1 ≠ x := by
  obtain ⟨w, keep, gw, rfl, rfl, hk⟩ := h.ex
  intro g hg e
  obtain ⟨g1, g2⟩ := List.mem_filter.mp hg
  have x1 := (List.mem_filter.mp hx).1
  have nd := Srt.nd gw.srt
  obtain ⟨i, hi⟩ := List.mem_iff_getElem?.mp g1
  obtain ⟨j, hj⟩ := List.mem_iff_getElem?.mp x1
  have ei : (w.map (·.1))[i]? = some x := by rw [List.getElem?_map, hi, ← e]; rfl
  have ej : (w.map (·.1))[j]? = some x := by rw [List.getElem?_map, hj]; rfl
  obtain ⟨li, qi⟩ := List.getElem?_eq_some_iff.mp ei
  obtain ⟨lj, qj⟩ := List.getElem?_eq_some_iff.mp ej
  have eij : i = j := by
    rcases Nat.lt_trichotomy i j with c | c | c
    · exact absurd (qi.trans qj.symm) (List.pairwise_iff_getElem.mp nd i j li lj c)
    · exact c
    · exact absurd (qj.trans qi.symm) (List.pairwise_iff_getElem.mp nd j i lj li c)
  subst eij
  rw [hi] at hj
  have eg : g = (x, Deed.count p c) := Option.some.inj hj
  have := hk g g1 ⟨p, c, by rw [eg]⟩
  rw [this] at g2
  cases g2
/-- a name's page in the book, when it is a count -/
theorem Part.onlyB (h : Part b o) {p : Str} {x : Nm} {c : Int} (hx : (x, Deed.count p c) ∈ b) : ∀ g ∈ b, g.1 = x → bringsM g.2 p = 0 := by
  intro g hg e
  have nd := Srt.nd h.srt
  obtain ⟨i, hi⟩ := List.mem_iff_getElem?.mp hg
  obtain ⟨j, hj⟩ := List.mem_iff_getElem?.mp hx
  have ei : (b.map (·.1))[i]? = some x := by rw [List.getElem?_map, hi, ← e]; rfl
  have ej : (b.map (·.1))[j]? = some x := by rw [List.getElem?_map, hj]; rfl
  obtain ⟨li, qi⟩ := List.getElem?_eq_some_iff.mp ei
  obtain ⟨lj, qj⟩ := List.getElem?_eq_some_iff.mp ej
  have eij : i = j := by
    rcases Nat.lt_trichotomy i j with c | c | c
    · exact absurd (qi.trans qj.symm) (List.pairwise_iff_getElem.mp nd i j li lj c)
    · exact c
    · exact absurd (qj.trans qi.symm) (List.pairwise_iff_getElem.mp nd j i lj li c)
  subst eij
  rw [hi] at hj
  have eg : g = (x, Deed.count p c) := Option.some.inj hj
  rw [eg]
  rfl
/-- the offs are what the left-out pages brought -/
theorem Part.off (h : Part b o) {p : Str} {e : Nm × Int} (he : e ∈ offsM p b 0) : (∃ c, (e.1, Deed.count p c) ∈ b ∧ c = e.2 + below p b e.1) ∧ e.2 = below p o e.1 := by
  obtain ⟨c, hc, hv⟩ := offs_mem h.srt e he
  refine ⟨⟨c, hc, by omega⟩, ?_⟩
  rw [hv, ← h.count hc]
  omega
/-- THE LAW, between two counts -/
theorem Part.law (h : Part b o) {p : Str} {one : Option Nm} {v1 : Int} {e : Nm × Int} (he : e ∈ offsM p b 0) (h1 : Told p b e.1 one v1) :
    netM p one e.1 o = e.2 - v1 ∧ ∃ n1 n2, Said b one n1 ∧ Said b (some e.1) n2 ∧ n2 - n1 - ((papM p one e.1 b).map (·.2)).sum = e.2 - v1 := by
  obtain ⟨⟨c, hc, ec⟩, ev⟩ := h.off he
  cases one with
  | none =>
    have h1 : v1 = 0 := h1
    refine ⟨?_, 0, c, rfl, ⟨p, hc⟩, ?_⟩
    · rw [net_btw, btw_is (fun a e => by cases e) (fun a e => by cases e), h1]
      show below p o e.1 - 0 = _
      rw [ev]
    · rw [pap_btw, btw_is (fun a e => by cases e) (fun a e => by cases e), h1, ec]
      show _ - 0 - (below p b e.1 - 0) = _
      omega
  | some a =>
    obtain ⟨ha, lt⟩ := h1
    obtain ⟨⟨c1, hc1, ec1⟩, ev1⟩ := h.off ha
    dsimp only at hc1 ec1 ev1
    refine ⟨?_, c1, c, ⟨p, hc1⟩, ⟨p, hc⟩, ?_⟩
    · rw [net_btw, btw_is (fun a' e' => by cases e'; exact lt) (fun a' e' g hg eg => absurd (eg.trans (Option.some.inj e').symm) (h.notO hc1 g hg)), ev, ev1]
      rfl
    · rw [pap_btw, btw_is (fun a' e' => by cases e'; exact lt) (fun a' e' g hg eg => h.onlyB hc1 g hg (eg.trans (Option.some.inj e').symm)), ec, ec1]
      show _ - _ - (below p b e.1 - below p b a) = _
      omega
end
/-! ### the first that is off -/
def lastN : Option Nm → List (Nm × Int) → Option Nm
  | ah, [] => ah
  | _, e :: r => lastN (some e.1) r
theorem fo_snoc (e : Nm × Int) : ∀ (l : List (Nm × Int)) (ah : Option Nm), foM ah (l ++ [e]) = match foM ah l with | some q => some q | none => if e.2 = 0 then none else some (lastN ah l, e.1)
  | [], ah => rfl
  | x :: l, ah => by
    show (if x.2 = 0 then foM (some x.1) (l ++ [e]) else some (ah, x.1)) = match (if x.2 = 0 then foM (some x.1) l else some (ah, x.1)) with | some q => some q | none => if e.2 = 0 then none else some (lastN (some x.1) l, e.1)
    split
    · exact fo_snoc e l (some x.1)
    · rfl
theorem fo_none : ∀ {l : List (Nm × Int)} {ah : Option Nm}, foM ah l = none → ∀ e ∈ l, e.2 = 0
  | [], _, _, e, h => by cases h
  | x :: l, ah, hn, e, h => by
    have hn' : (if x.2 = 0 then foM (some x.1) l else some (ah, x.1)) = none := hn
    split at hn'
    · rename_i z
      rcases List.mem_cons.mp h with h | h
      · rw [h]
        exact z
      · exact fo_none hn' e h
    · cases hn'
theorem lastN_take : ∀ (l : List (Nm × Int)) (ah : Option Nm) (m : Nat), m ≤ l.length → (ah :: l.map fun e => some e.1)[m]? = some (lastN ah (l.take m))
  | _, _, 0, _ => by
    rw [List.take_zero]
    rfl
  | [], _, m + 1, h => by simp at h
  | x :: l, ah, m + 1, h => by
    rw [List.length_cons] at h
    exact lastN_take l (some x.1) m (by omega)
end Pn
set_option maxHeartbeats 4000000
/-! _law_is_so -/
namespace Pn
open PySem L2 Evl
structure DfnG (P : Program) (w : World) (K : PySem.W.Frag) (mg : Str → Option Value) (base : Heap) (k : Nat) (x : Str) (ps : List Str) (sp : Sp) where
  f : Addr
  fd : FuncData
  ok : FnG P w K mg base k f fd ps sp
  at_ : mg x = some (.ref f)
  kp : PySem.W.keepIn K (.ref f) = true
  bd : Binds K fd ps []
def tCallG (sp : Sp) (t : TA) : TE := fun σ H Q => t σ H fun vs H1 => sp vs H1 Q E0
theorem ev_callG {σ : L2.St} {H : Hp} {sp : Sp} {ta : TA} {vs : List V} {z : V} (h : EvA ta σ H vs) (hs : SpV sp vs H z) : Ev (tCallG sp ta) σ H z := fun H1 e Q q =>
  h H1 e _ fun H2 e2 => hs H2 (e.trans e2) Q (fun H3 e3 => q H3 (e2.trans e3)) E0
theorem lt_of_ah {H : Hp} : ∀ {ns : List (Option Nm)} {xs : List V} {i : Nat} {x : V}, TDs H (ns.map ahD) xs → xs[i]? = some x → ∃ n, ns[i]? = some n ∧ OneV H n x := fun {ns xs i x} t h => by
  obtain ⟨d, hd, tx⟩ := TDs.getx t h
  rw [List.getElem?_map] at hd
  cases hn : ns[i]? with
  | none => rw [hn] at hd; cases hd
  | some n =>
    rw [hn] at hd
    have e : ahD n = d := Option.some.inj hd
    rw [← e] at tx
    refine ⟨n, rfl, ?_⟩
    cases n <;> exact tx
def koN : Option Nm → KO
  | none => none
  | some n => some (nmK n)
theorem OneV.key {H : Hp} {o : Option Nm} {x : V} (h : OneV H o x) : KeyV H (koN o) x := by
  cases o with
  | none => exact h
  | some n => exact TD.key h
theorem log_small {i : Int} (h : absI i ≤ 4800) : (absI i).natAbs.log2 < 1920 := by
  have h0 : 0 ≤ absI i := by
    unfold absI
    split <;> omega
  by_cases z : (absI i).natAbs = 0
  · rw [z]
    decide
  · refine (Nat.log2_lt z).mpr (Nat.lt_of_lt_of_le (show (absI i).natAbs < 2 ^ 13 by omega) (Nat.pow_le_pow_right (by decide) (by decide)))
theorem fo_mem : ∀ {l : List (Nm × Int)} {ah : Option Nm} {q : Option Nm × Nm}, foM ah l = some q → (∃ e ∈ l, q.2 = e.1) ∧ ∀ n, q.1 = some n → ah = some n ∨ ∃ e ∈ l, n = e.1
  | [], _, _, h => by cases h
  | x :: l, ah, q, h => by
    have h' : (if x.2 = 0 then foM (some x.1) l else some (ah, x.1)) = some q := h
    split at h'
    · obtain ⟨⟨e, he, e1⟩, h2⟩ := fo_mem h'
      refine ⟨⟨e, List.mem_cons_of_mem _ he, e1⟩, fun n hn => ?_⟩
      rcases h2 n hn with h3 | ⟨e', h3, h4⟩
      · exact .inr ⟨x, List.mem_cons_self, (Option.some.inj h3).symm⟩
      · exact .inr ⟨e', List.mem_cons_of_mem _ h3, h4⟩
    · have := Option.some.inj h'
      subst this
      exact ⟨⟨x, List.mem_cons_self, rfl⟩, fun n hn => .inl hn⟩
theorem FoV.ex {H H' : Hp} {o : Option (Option Nm × Nm)} {v : V} (e : Ex H H') (h : FoV H o v) : FoV H' o v := by
  cases o with
  | none => exact h
  | some q => exact TD.mono (Tk.ex e) h
theorem hand_word : ∀ z ∈ handL, 1 ≤ z.length ∧ z.length ≤ 8 ∧ ∀ c ∈ z.cps.toList, c ∈ small.cps.toList := by decide +kernel
theorem day_ok : ∀ i ∈ dayL, 0 ≤ i ∧ i ≤ 99999 := by decide
theorem num_ok : ∀ i ∈ numL, 0 ≤ i ∧ i ≤ 999 := by decide
theorem nmOk_of {n : Nm} (h : NmIn n) : NmOk n := ⟨day_ok _ h.1, num_ok _ h.2.1, hand_word _ h.2.2⟩
section
variable {P : Program} {w : World} {K : PySem.W.Frag} {mg : Str → Option Value} {base : Heap}
def spIsSo (K : PySem.W.Frag) : Sp := fun vs H Q _ => ∃ (a l : Addr) (p : Str) (b o : List Page) (xs oxs : List V), vs = [.ref a, .ref l, .str p] ∧ PlT H a xs ∧ TDs H (b.map pageD) xs ∧ SqL K H l oxs ∧ TDs H (o.map pageD) oxs ∧ Part b o ∧ ∀ H', Ex H H' → Q (.bl true) H'
theorem ok_isso {f : Addr} {fd : FuncData} (F : Fun K "_law_is_so" "_law_is_so" dIsSo f fd) (T : Tx mg) (GO : Dfn P w K mg base 5 "offs" ["book", "place"] spOffs) (GP : Dfn P w K mg base 5 "off_paper" ["book", "place", "one", "other"] spOffp)
    (GL : Dfn P w K mg base 6 "lets_offs" ["book", "place", "one", "other", "thing"] spLets) (GF : Dfn P w K mg base 6 "first_off" ["book", "place"] spFirst) (GN : Dfn P w K mg base 1 "_law_net" ["_law_pages", "_law_place", "_law_one", "_law_other"] (spNet K))
    (GS : DfnG P w K mg base 1 "_law_same" ["_law_found", "_law_due"] spSame) : FnG P w K mg base 7 f fd ["_law_book", "_law_out", "_law_place"] (spIsSo K) := by
  refine fun_okG F cIsSo (fun vs H Q E h => ?_) (fun cdv A outer s H vs Q E hgu hr h => ?_)
  · obtain ⟨_, _, _, _, _, _, _, rfl, _⟩ := h
    rfl
  · obtain ⟨a, l, p, b, o, xs, oxs, rfl, pl, td, hl, to, part, q⟩ := h
    have hr1 := hr.mono (show 1 ≤ 6 by decide)
    have hr5 := hr.mono (show 5 ≤ 6 by decide)
    refine ⟨_, pss_cons (ps_set (i := 3) cIsSo.nd rfl (Or.inl rfl) (pe_op op_cat (pe_lst (pa_cons pe_non pa_nil))
        (pe_lc (own := [("_law_name_here", 11), ("_law_deed", 12)]) rfl cIsSo.nd (pi_tup (pv 0)) (blkOk_by (N := ["_law_book", "_law_out", "_law_place", "_law_names", "_law_told", "_law_due", "_law_j", "_law_i", "_law_net_here", "_law_many", "_law_shown", "_law_name_here", "_law_deed"]) (sc := defScope dIsSo) (by decide +kernel))
          (fun _ _ _ _ _ => pgc2 K (i := 11) (j := 12) rfl cIsSo.nd rfl rfl rfl (.inl rfl) (.inl rfl) rfl rfl)
          (fun _ _ _ _ _ => pts_one (PW.pt (pw_and (pt_cmpR op_eq (pe_ix (ixc K rfl) (pv 12) pe_int (fun _ _ => rfl)) pe_str (nomark _)) (pw_and1 (pt_cmpR op_eq (pe_ix (ixc K rfl) (pv 12) pe_int (fun _ _ => rfl)) (pv 2) (nomark _)))))) (fun _ _ _ _ _ => pv 11))))
      (pss_cons (ps_set (i := 4) cIsSo.nd rfl (Or.inl rfl) (pe_callTy (cr_dictO rfl hr.units) (by rfl) T.dict (by decide +kernel) (pa_cons (pe_op op_cat (pe_lst (pa_cons (pe_tup (pa_cons pe_non (pa_cons pe_int pa_nil))) pa_nil)) (pe_call GO.ok hr5 rfl GO.at_ GO.kp GO.bd .nil pass0 (pa_cons (pv 0) (pa_cons (pv 2) pa_nil)))) pa_nil)))
      (pss_cons (ps_set (i := 5) cIsSo.nd rfl (Or.inl rfl) pe_non)
      (pss_cons (ps_for PassesOwn.never rfl (pi_range2 rfl T.range (pa_cons pe_int (pa_cons (pe_callB call_len_seq (by rfl) T.len PySem.boot_len (pa_cons (pv 3) pa_nil)) pa_nil))) (pg_name (i := 6) cIsSo.nd rfl (Or.inl rfl))
        (pss_one (ps_for PassesOwn.never rfl (pi_range1 rfl T.range (pa_cons (pv 6) pa_nil)) (pg_name (i := 7) cIsSo.nd rfl (Or.inl rfl))
          (pss_cons (ps_asg (pe_call GN.ok hr1 rfl GN.at_ GN.kp GN.bd .nil pass0 (pa_cons (pv 1) (pa_cons (pv 2) (pa_cons (pe_ix ix_list (pv 3) (pv 7) (fun _ _ => rfl)) (pa_cons (pe_ix ix_list (pv 3) (pv 6) (fun _ _ => rfl)) pa_nil))))) (pg_tup rfl (pgs_cons (pg_name (i := 8) cIsSo.nd rfl (.inl rfl)) (pgs_cons (pg_name (i := 9) cIsSo.nd rfl (.inl rfl)) pgs_nil))))
          (pss_cons (ps_set (i := 10) cIsSo.nd rfl (Or.inl rfl) (pe_call GL.ok hr rfl GL.at_ GL.kp GL.bd .nil pass0 (pa_cons (pv 0) (pa_cons (pv 2) (pa_cons (pe_ix ix_list (pv 3) (pv 7) (fun _ _ => rfl)) (pa_cons (pe_ix ix_list (pv 3) (pv 6) (fun _ _ => rfl)) (pa_cons
            (pe_call GP.ok hr5 rfl GP.at_ GP.kp GP.bd .nil pass0 (pa_cons (pv 0) (pa_cons (pv 2) (pa_cons (pe_ix ix_list (pv 3) (pv 7) (fun _ _ => rfl)) (pa_cons (pe_ix ix_list (pv 3) (pv 6) (fun _ _ => rfl)) pa_nil))))) pa_nil)))))))
          (pss_cons (ps_if (PW.pt (pw_or (pt_not (pt_val (pe_callG GS.ok hgu hr1 rfl GS.at_ GS.kp GS.bd (pa_cons (pv 10) (pa_cons (pe_callB call_abs (by rfl) T.abs (by decide +kernel) (pa_cons (pv 8) pa_nil)) pa_nil))))) (pw_or (pt_cmpR op_gt (pv 10) (pv 9) (nomark _))
              (pw_or1 (pt_cmpR op_ne (pv 10) (pe_callB call_abs (by rfl) T.abs (by decide +kernel) (pa_cons (pe_op op_sub (pe_ix (ix_o hr.units) (pv 4) (pe_ix ix_list (pv 3) (pv 6) (fun _ _ => rfl)) (fun _ _ => rfl)) (pe_ix (ix_o hr.units) (pv 4) (pe_ix ix_list (pv 3) (pv 7) (fun _ _ => rfl)) (fun _ _ => rfl))) pa_nil)) (nomark _)))))) (pss_one (ps_ret pe_bl)) pss_nil)
          (pss_one (ps_if (PW.pt (pw_and (pt_cmpR op_isN (pv 5) pe_non (nomark _)) (pw_and (pt_cmpR op_eq (pv 7) (pe_op op_sub (pv 6) pe_int) (nomark _)) (pw_and1 (pt_cmpR op_ne (pv 8) pe_int (nomark _))))))
            (pss_one (ps_set (i := 5) cIsSo.nd rfl (Or.inl rfl) (pe_tup (pa_cons (pe_ix ix_list (pv 3) (pv 7) (fun _ _ => rfl)) (pa_cons (pe_ix ix_list (pv 3) (pv 6) (fun _ _ => rfl)) pa_nil))))) pss_nil))))))))
      (pss_one (ps_ret (pe_and (pe_cmpR op_eq (pe_callB cr_lenO (by rfl) T.len PySem.boot_len (pa_cons (pv 4) pa_nil)) (pe_callB call_len_seq (by rfl) T.len PySem.boot_len (pa_cons (pv 3) pa_nil)) (nomark _))
        (pe_one (pe_callG GS.ok hgu hr1 rfl GS.at_ GS.kp GS.bd (pa_cons (pe_call GF.ok hr rfl GF.at_ GF.kp GF.bd .nil pass0 (pa_cons (pv 0) (pa_cons (pv 2) pa_nil))) (pa_cons (pv 5) pa_nil)))))))))), ?_⟩
    have lx := Bk.len td
    have lb := part.lenB
    have lo := part.lenO
    have okB := part.okB
    have nmB := part.nmB
    have ndB := Srt.nd part.srt
    obtain ⟨os, eos⟩ : ∃ os, os = offsM p b 0 := ⟨_, rfl⟩
    have los : os.length ≤ 24 := by
      have := offs_len p b 0
      rw [eos]
      omega
    have osrt : (os.map (·.1)).Pairwise fun n m => ltN n m = true := by rw [eos]; exact offs_srt part.srt
    have osnd : (os.map (·.1)).Nodup := List.Pairwise.imp (fun {x y} h => ltN_ne h) osrt
    have osnm : ∀ e ∈ os, NmIn e.1 := fun e he => by
      rw [eos] at he
      obtain ⟨c, hc, _⟩ := offs_mem part.srt e he
      exact nmB _ hc
    obtain ⟨NL, eNL⟩ : ∃ NL : List (Option Nm), NL = none :: os.map fun e => some e.1 := ⟨_, rfl⟩
    have lNL : NL.length = os.length + 1 := by rw [eNL, List.length_cons, List.length_map]
    -- names
    refine r_seq (r_set (r_op ⟨by show 1 ≤ sizeLine; decide, fun n0 hn0 => ?_⟩))
    have e1 := Ex.new (o := .lst [.non]) hn0
    have hn1 : (upd H n0 (.lst [.non])) n0 = some (.lst [.non]) := upd_same
    generalize upd H n0 (.lst [.non]) = H1 at e1 hn1 ⊢
    refine lcT (xs := xs) (fun i acc H' => TDs H' ((offsM p (b.take i) 0).map fun e : Nm × Int => nmD e.1) acc) (fun _ _ _ _ k h => h.mono k) (by omega) ?_ (fun _ _ => TDs.nil) (fun i x H2 hi e2 => ?_) fun nv H2 acc hnv e2 hnv2 lacc hR => ?_
    · exact SrcT.ev (ev_var rfl) (pl.ex e1).sq
    · obtain ⟨g, c, y, z, d, zs, hg, rfl, hc, hy, hz, rfl, hd, h0⟩ := Bk.page td hi
      have e02 := e1.trans e2
      have same : offE p (0 + sumB p (b.take i)) g = [] → ∀ acc H3, Ex H2 H3 → TDs H2 ((offsM p (b.take i) 0).map fun e : Nm × Int => nmD e.1) acc → TDs H3 ((offsM p (b.take (i + 1)) 0).map fun e : Nm × Int => nmD e.1) acc := fun he acc H3 e3 t => by
        rw [List.take_add_one, hg]
        show TDs H3 ((offsM p (b.take i ++ [g]) 0).map fun e : Nm × Int => nmD e.1) acc
        rw [offs_snoc, he, List.append_nil]
        exact t.mono (Tk.ex e3)
      obtain ⟨n, dd⟩ := g
      cases dd with
      | count q' k =>
        obtain ⟨d', ed, hd2⟩ := hz.count
        injection ed with ed
        subst ed
        refine ⟨_, fun N k => g2 (SqT.of (e02 _ _ hc)) N k, rfl, true && decide (V.str q' = V.str p), ?_, fun hb H3 e3 Q k' => ?_, fun hb acc H3 e3 t => same ?_ acc H3 e3 t⟩
        · exact et_and (et_is (et_eq (ev_ix (ev_var rfl) (st_of (e02 _ _ hd2)) rfl) ev_c rfl) (by decide +kernel)) fun _ => et_eq (ev_ix (ev_var rfl) (st_of (e02 _ _ hd2)) rfl) (ev_var rfl) rfl
        · have hq : q' = p := by simpa using hb
          refine ⟨_, rfl, k' _ _ (Ex.refl _) fun acc t => ?_⟩
          show TDs H3 ((offsM p (b.take (i + 1)) 0).map fun e : Nm × Int => nmD e.1) (acc ++ [y])
          rw [List.take_add_one, hg]
          show TDs H3 ((offsM p (b.take i ++ [(n, Deed.count q' k)]) 0).map fun e : Nm × Int => nmD e.1) (acc ++ [y])
          have ee : offE p (0 + sumB p (b.take i)) (n, .count q' k) = [(n, k - (0 + sumB p (b.take i)))] := if_pos hq
          rw [offs_snoc, ee, List.map_append]
          exact TDs.append t (TDs.one (hy.mono (Tk.ex (e02.trans e3))))
        · exact if_neg (by simpa using hb)
      | bag q1 q2 k =>
        refine ⟨_, fun N k => g2 (SqT.of (e02 _ _ hc)) N k, rfl, false, ?_, fun z => (nomatch z), fun hb acc H3 e3 t => same rfl acc H3 e3 t⟩
        exact et_and (a := false) (b := false) (et_is (et_eq (ev_ix (ev_var rfl) (st_of (e02 _ _ hd)) h0) ev_c rfl) (show decide (V.str "bag" = V.str "count") = false by decide +kernel)) fun z => nomatch z
      | move q1 q2 k =>
        refine ⟨_, fun N k => g2 (SqT.of (e02 _ _ hc)) N k, rfl, false, ?_, fun z => (nomatch z), fun hb acc H3 e3 t => same rfl acc H3 e3 t⟩
        exact et_and (a := false) (b := false) (et_is (et_eq (ev_ix (ev_var rfl) (st_of (e02 _ _ hd)) h0) ev_c rfl) (show decide (V.str "move" = V.str "count") = false by decide +kernel)) fun z => nomatch z
    rw [lx, List.take_length, ← eos] at hR
    refine ⟨n0, nv, [.non], acc, rfl, rfl, e2 _ _ hn1, hnv2, sz_of (by show 1 + acc.length ≤ 100000; omega), fun nl hnl => ?_⟩
    dsimp only
    have e03 := (e1.trans e2).trans (Ex.new (o := .lst ([.non] ++ acc)) hnl)
    have hN : (upd H2 nl (.lst ([.non] ++ acc))) nl = some (.lst ([.non] ++ acc)) := upd_same
    have tN : TDs (upd H2 nl (.lst ([.non] ++ acc))) (NL.map ahD) ([.non] ++ acc) := by
      rw [eNL]
      refine TDs.cons (d := .none) rfl ?_
      rw [List.map_map]
      exact hR.mono (tk_new hnl)
    show tSeq _ _ _ _ (upd H2 nl (.lst ([.non] ++ acc)))
    generalize upd H2 nl (.lst ([.non] ++ acc)) = H3 at e03 hN tN ⊢
    obtain ⟨nx, enx⟩ : ∃ nx, nx = [V.non] ++ acc := ⟨_, rfl⟩
    rw [← enx] at hN tN
    have lnx : nx.length = NL.length := by rw [tN.length, List.length_map]
    -- told
    refine r_seq (r_set (r_cb (r_cons (r_op ⟨by show 2 ≤ sizeLine; decide, fun t0 ht0 => ⟨by show 1 ≤ sizeLine; decide, fun c0 hc0 => ?_⟩⟩))))
    have e4 := (Ex.new (o := .tup [.non, .int 0]) ht0).trans (Ex.new (o := .lst [.ref t0]) hc0)
    have hc4 : (upd (upd H3 t0 (.tup [.non, .int 0])) c0 (.lst [.ref t0])) c0 = some (.lst [.ref t0]) := upd_same
    have ht4 : (upd (upd H3 t0 (.tup [.non, .int 0])) c0 (.lst [.ref t0])) t0 = some (.tup [.non, .int 0]) := Ex.new hc0 _ _ upd_same
    generalize upd (upd H3 t0 (.tup [.non, .int 0])) c0 (.lst [.ref t0]) = H4 at e4 hc4 ht4 ⊢
    have e04 := e03.trans e4
    refine r_call ⟨_, rfl, _, rfl, a, p, b, xs, rfl, pl.ex e04, td.mono (Tk.ex e04), by omega, ndB, okB, fun H5 ol ys e5 hol0 hol tys => ?_⟩
    rw [← eos] at tys
    refine ⟨c0, ol, [.ref t0], ys, rfl, rfl, e5 _ _ hc4, hol, sz_of (by have := tys.length; rw [List.length_map] at this; show 1 + ys.length ≤ 100000; omega), fun cl hcl => ?_⟩
    obtain ⟨R1, r1, r2, r3⟩ := rows_off (tys.mono (tk_new (o := .lst ([.ref t0] ++ ys)) hcl))
    have ht5 := Ex.new (o := .lst ([.ref t0] ++ ys)) hcl _ _ (e5 _ _ ht4)
    obtain ⟨R, eR⟩ : ∃ R : List RowV, R = (none, .non, .int 0) :: R1 := ⟨_, rfl⟩
    have pR : Paired (PairV (upd H5 cl (.lst ([.ref t0] ++ ys)))) R ([.ref t0] ++ ys) := by
      rw [eR]
      exact .cons ⟨t0, rfl, ht5, rfl⟩ r1
    have kR : R.map (·.1) = NL.map koN := by
      rw [eR, eNL, List.map_cons, List.map_cons, r2, List.map_map]
      rfl
    have ndR : (R.map (·.1)).Nodup := by
      rw [eR, List.map_cons, r2]
      refine List.nodup_cons.mpr ⟨fun h => ?_, keys_nd osnd⟩
      obtain ⟨x, _, e⟩ := List.mem_map.mp h
      cases e
    have lR : R.length = NL.length := by
      have := congrArg List.length kR
      rw [List.length_map, List.length_map] at this
      exact this
    refine ⟨cl, _, R, rfl, .inl upd_same, pR, ndR, fun dt hdt hst => ?_⟩
    dsimp only
    generalize hH6 : upd (upd H5 cl (.lst ([.ref t0] ++ ys))) dt (DicO _ _ dt R) = H6
    have e36 : Ex H3 H6 := by rw [← hH6]; exact ((e4.trans e5).trans (Ex.new hcl)).trans (Ex.new hdt)
    have e06 := e03.trans e36
    have hdt6 : H6 dt = some (DicO P w dt R) := by rw [← hH6]; exact upd_same
    have ksR : KsV H6 R := by rw [← hH6]; exact (ksv_of pR).mono (tk_new hdt)
    have hN6 := e36 _ _ hN
    have tN6 := tN.mono (Tk.ex e36)
    -- what was told at the i-th name
    have atN : atV R none = some (.int 0) := by
      have := atV_get ndR (r := (none, .non, .int 0)) (by rw [eR]; exact List.mem_cons_self)
      exact this
    have atS : ∀ e ∈ os, atV R (some (nmK e.1)) = some (.int e.2) := fun e he => by
      obtain ⟨r, q1, q2, q3⟩ := r3 e he
      rw [← q2, ← q3]
      exact atV_get ndR (by rw [eR]; exact List.mem_cons_of_mem _ q1)
    refine q_asg ev_c fun H7 e7 => ?_
    have e07 := e06.trans e7
    have e67 := e7
    have lenE : ∀ {σ5 : L2.St} {H5 : Hp}, Ex H6 H5 → σ5[3]? = some (some (V.ref nl)) → Ev (tCB (rLen2 K) (tCons (tVar 3) tNil)) σ5 H5 (.int ((nx.length : Nat) : Int)) := fun {σ5 H5} e h3 => ev_len2 (K := K) (ev_var h3) (e _ _ hN6)
    refine q_forR2 (lo := 1) (n := (nx.length : Int)) (ea_cons ev_c (ea_cons (lenE e7 rfl) ea_nil)) ⟨by decide, by decide, by omega, by omega⟩
      (fun i σ' H' => ∃ (due : V) (y6 y7 y8 y9 y10 y11 y12 : Option V), σ' = [some (.ref a), some (.ref l), some (.str p), some (.ref nl), some (.ref dt), some due, y6, y7, y8, y9, y10, y11, y12] ∧ Ex H6 H' ∧ FoV H' (foM none (os.take i)) due)
      (fun H8 e8 => ⟨.non, _, _, _, _, _, _, _, rfl, e7.trans e8, rfl⟩) ?_ ?_
    · rintro i σ' H' hi ⟨due, y6, y7, y8, y9, y10, y11, y12, rfl, e, hdue⟩
      have li : i < os.length := by omega
      have hoi := List.getElem?_eq_getElem li
      obtain ⟨ei, eei⟩ : ∃ ei, ei = os[i] := ⟨_, rfl⟩
      rw [← eei] at hoi
      have mei : ei ∈ os := List.mem_of_getElem? hoi
      have hNi : NL[i + 1]? = some (some ei.1) := by
        rw [eNL]
        show (os.map fun e => some e.1)[i]? = _
        rw [List.getElem?_map, hoi]
        rfl
      have lxi : i + 1 < nx.length := by omega
      have gxi := List.getElem?_eq_getElem lxi
      obtain ⟨xo, exo⟩ : ∃ xo, xo = nx[i + 1] := ⟨_, rfl⟩
      rw [← exo] at gxi
      have txo : TD H6 (nmD ei.1) xo := by
        obtain ⟨n, hn, o1⟩ := lt_of_ah tN6 gxi
        rw [hNi] at hn
        cases hn
        exact o1
      have ej : (1 : Int) + (i : Int) = ((i + 1 : Nat) : Int) := by omega
      refine s_forR1 (n := 1 + (i : Int)) (ea_cons (ev_var rfl) ea_nil) ⟨by omega, by omega⟩
        (fun i2 σ2 H2 => ∃ (due : V) (y7 y8 y9 y10 y11 y12 : Option V), σ2 = [some (.ref a), some (.ref l), some (.str p), some (.ref nl), some (.ref dt), some due, some (.int (1 + (i : Int))), y7, y8, y9, y10, y11, y12] ∧ Ex H6 H2 ∧ FoV H2 (foM none (os.take (if i2 = i + 1 then i + 1 else i))) due)
        (fun H8 e8 => ⟨due, _, _, _, _, _, _, rfl, e.trans e8, by rw [if_neg (by omega)]; exact hdue.ex e8⟩) ?_ ?_
      · rintro i2 σ2 H8 hi2 ⟨due, y7, y8, y9, y10, y11, y12, rfl, e8, hdue⟩
        have li2 : i2 < i + 1 := by omega
        rw [if_neg (by omega)] at hdue
        have lx2 : i2 < nx.length := by omega
        have gx2 := List.getElem?_eq_getElem lx2
        obtain ⟨x1, ex1⟩ : ∃ x1, x1 = nx[i2] := ⟨_, rfl⟩
        rw [← ex1] at gx2
        obtain ⟨one, hone, ov⟩ := lt_of_ah tN6 gx2
        -- what the name at i2 is told
        obtain ⟨v1, hv1, hat1, hz1⟩ : ∃ v1 : Int, Told p b ei.1 one v1 ∧ atV R (koN one) = some (.int v1) ∧ ((∀ e ∈ os.take i, e.2 = 0) → v1 = 0) := by
          cases i2 with
          | zero =>
            rw [eNL] at hone
            cases hone
            exact ⟨0, rfl, atN, fun _ => rfl⟩
          | succ k =>
            have lk : k < os.length := by omega
            have hk := List.getElem?_eq_getElem lk
            obtain ⟨ek, eek⟩ : ∃ ek, ek = os[k] := ⟨_, rfl⟩
            rw [← eek] at hk
            have hN2 : NL[k + 1]? = some (some ek.1) := by
              rw [eNL]
              show (os.map fun e => some e.1)[k]? = _
              rw [List.getElem?_map, hk]
              rfl
            rw [hN2] at hone
            cases hone
            refine ⟨ek.2, ⟨?_, ?_⟩, atS ek (List.mem_of_getElem? hk), fun h => h ek ?_⟩
            · rw [← eos]
              exact List.mem_of_getElem? hk
            · have q1 : (os.map (·.1))[k]? = some ek.1 := by rw [List.getElem?_map, hk]; rfl
              have q2 : (os.map (·.1))[i]? = some ei.1 := by rw [List.getElem?_map, hoi]; rfl
              obtain ⟨l1, g1⟩ := List.getElem?_eq_some_iff.mp q1
              obtain ⟨l2, g2⟩ := List.getElem?_eq_some_iff.mp q2
              have := List.pairwise_iff_getElem.mp osrt k i l1 l2 (by omega)
              rw [g1, g2] at this
              exact this
            · exact List.mem_of_getElem? (i := k) (by rw [List.getElem?_take, if_pos (by omega)]; exact hk)
        have mei' : ei ∈ offsM p b 0 := by rw [← eos]; exact mei
        obtain ⟨net, n1, n2, sd1, sd2, pap⟩ := part.law mei' hv1
        obtain ⟨b1, b2, b3⟩ := net_siz p one ei.1 o part.sizO
        have Tk8 := Tk.ex e8
        have ov8 := ov.mono Tk8
        have tx8 := txo.mono Tk8
        have ixI : ∀ {σ5 : L2.St} {H5 : Hp}, Ex H8 H5 → σ5[3]? = some (some (V.ref nl)) → σ5[7]? = some (some (V.int (i2 : Int))) → Ev (tOp (rIxL K) (tVar 3) (tVar 7)) σ5 H5 x1 := fun {σ5 H5} e5 h3 h7 => ev_op (ev_var h3) (ev_var h7) (rv_ixL (sq_of (e5 _ _ (e8 _ _ hN6))) (atI_nat gx2))
        have ixJ : ∀ {σ5 : L2.St} {H5 : Hp}, Ex H8 H5 → σ5[3]? = some (some (V.ref nl)) → σ5[6]? = some (some (V.int (1 + (i : Int)))) → Ev (tOp (rIxL K) (tVar 3) (tVar 6)) σ5 H5 xo := fun {σ5 H5} e5 h3 h6 => ev_op (ev_var h3) (ev_var h6) (rv_ixL (sq_of (e5 _ _ (e8 _ _ hN6))) (by rw [ej]; exact atI_nat gxi))
        -- the net
        refine r_seq (r_asg ?_)
        refine (ea_cons (ev_var rfl) (ea_cons (ev_var rfl) (ea_cons (ixI (Ex.refl _) rfl rfl) (ea_cons (ixJ (Ex.refl _) rfl rfl) ea_nil)))) H8 (Ex.refl _) _ fun H9 e9 => ?_
        have e69 := e8.trans e9
        have e09 := e06.trans e69
        refine ⟨l, p, x1, xo, o, oxs, one, ei.1, rfl, ex_l e09 hl, to.mono (Tk.ex e09), by omega, part.okO, ov8.mono (Tk.ex e9), tx8.mono (Tk.ex e9), fun H10 tt e10 htt => g2 (SqT.of htt) _ ?_⟩
        dsimp only
        have e810 := e9.trans e10
        have e610 := e8.trans e810
        have e010 := e06.trans e610
        -- shown
        refine q_asg (v := .int (absI (ei.2 - v1))) ?_ fun H11 e11 => ?_
        · intro H12 e12 Q k
          have e812 := e810.trans e12
          have e012 := e010.trans e12
          refine r_call ⟨_, rfl, _, rfl, ixI e812 rfl rfl H12 (Ex.refl _) _ fun H15 e15 => ixJ (e812.trans e15) rfl rfl H15 (Ex.refl _) _ fun H16 e16 => ?_⟩
          have e1216 := e15.trans e16
          refine r_cons (r_call ⟨_, rfl, _, rfl, ixI (e812.trans e1216) rfl rfl H16 (Ex.refl _) _ fun H17a e17a => ixJ (e812.trans (e1216.trans e17a)) rfl rfl H17a (Ex.refl _) _ fun H17 e17b => ?_⟩)
          have e17 := e17a.trans e17b
          have e1217 := e1216.trans e17
          have e017 := e012.trans e1217
          have t817 := Tk.ex (e812.trans e1217)
          refine ⟨a, p, x1, xo, b, xs, one, ei.1, rfl, pl.ex e017, td.mono (Tk.ex e017), by omega, ndB, okB, ov8.mono t817, tx8.mono t817, fun H18 pt pys e18 plt tpt => ?_⟩
          have e018 := e017.trans e18
          have t818 := t817.trans (Tk.ex e18)
          refine ⟨a, pt, p, x1, xo, b, xs, pys, one, ei.1, n1, n2, rfl, pl.ex e018, td.mono (Tk.ex e018), by omega, ndB, okB, ov8.mono t818, tx8.mono t818, plt, tpt, fun g hg => nmOk_of (nmB g hg), part.srt, sd1, sd2, fun H19 e19 => ?_⟩
          rw [pap]
          exact k H19 ((e1217.trans e18).trans e19)
        · have e811 := e810.trans e11
          have e611 := e8.trans e811
          have hb := absI_le b1 b2
          rw [net] at hb
          have hsm : absI (ei.2 - v1) ≤ 4800 := by
            have : (o.length : Int) ≤ 24 := by omega
            omega
          have absE : ∀ {σ5 : L2.St} {H5 : Hp} {te : TE} {z : Int}, Ev te σ5 H5 (.int z) → Ev (tCB (fun xs H Q => ∃ i, xs = [V.int i] ∧ Q (V.int (if i < 0 then -i else i)) H) (tCons te tNil)) σ5 H5 (.int (absI z)) := fun h => ev_cb (ea_cons h ea_nil) fun H5 e5 Q k => ⟨_, rfl, k _ (Ex.refl _)⟩
          refine q_when (b := false) ?_ (fun z => nomatch z) (fun _ H12 e12 => ?_)
          · refine et_or (a := false) (b := false) (et_not (a := true) (et_B ?_)) fun _ => et_or (a := false) (b := false) ?_ fun _ => ?_
            · refine ev_callG (ea_cons (ev_var rfl) (ea_cons (absE (ev_var rfl)) ea_nil)) fun H12 e12 Q k E => ⟨_, _, rfl, .inl ⟨_, rfl, ?_, log_small hsm⟩, k⟩
              rw [net]
            · refine et_is (et_test (ev_op (ev_var rfl) (ev_var rfl) rv_I0)) ?_
              exact decide_eq_false (by omega)
            · refine et_is (et_ne (ev_var rfl) (absE (z := ei.2 - v1) (ev_op (ev_op (ev_var rfl) (ixJ e811 rfl rfl) fun H12 e12 Q k => ⟨dt, R, some (nmK ei.1), .int ei.2, rfl, e12 _ _ (e611 _ _ hdt6), ksR.mono (Tk.ex (e611.trans e12)), (tx8.mono (Tk.ex (e811.trans e12))).key, atS ei mei, k _ (Ex.refl _)⟩)
                (ev_op (ev_var rfl) (ixI e811 rfl rfl) fun H12 e12 Q k => ⟨dt, R, koN one, .int v1, rfl, e12 _ _ (e611 _ _ hdt6), ksR.mono (Tk.ex (e611.trans e12)), (ov8.mono (Tk.ex (e811.trans e12))).key, hat1, k _ (Ex.refl _)⟩) rv_I0)) rfl) (by simp)
          · have e612 := e611.trans e12
            have hdue12 : FoV H12 (foM none (os.take i)) due := ((hdue.ex e810).ex e11).ex e12
            have isn : decide (due = V.non) = (foM none (os.take i)).isNone := by
              cases hf : foM none (os.take i) with
              | none =>
                rw [hf] at hdue12
                have : due = .non := hdue12
                rw [this]
                rfl
              | some q' =>
                rw [hf] at hdue12
                obtain ⟨aa, _, ed, _⟩ := (show TD H12 (.tuple [ahD q'.1, nmD q'.2]) due from hdue12)
                rw [ed]
                rfl
            have tk1 : os.take (i + 1) = os.take i ++ [ei] := by
              rw [List.take_add_one, hoi]
              rfl
            refine s_when (b := (foM none (os.take i)).isNone && (decide (V.int (i2 : Int) = V.int (1 + (i : Int) - 1)) && !decide (V.int (netM p one ei.1 o) = V.int 0))) ?_ (fun hb H13 e13 => ?_) (fun hb H13 e13 => ?_)
            · refine et_and (et_is (et_test (ev_op (ev_var rfl) ev_c (rv_val fun H1 _ Q q => ⟨rfl, q⟩))) isn) fun _ => et_and (et_eq (ev_var rfl) (ev_op (ev_var rfl) ev_c rv_I0) rfl) fun _ => et_ne (ev_var rfl) ev_c rfl
            · rw [Bool.and_eq_true, Bool.and_eq_true] at hb
              obtain ⟨hb1, hb2, hb3⟩ := hb
              have en : foM none (os.take i) = none := by simpa using hb1
              have ei2 : i2 = i := by
                have := of_decide_eq_true hb2
                injection this with this
                omega
              have nz : ¬ netM p one ei.1 o = 0 := by simpa using hb3
              have v0 := hz1 (fo_none en)
              refine s_asgU (xs := [x1, xo]) (eu_tup (ea_cons (ixI ((e811.trans e12).trans e13) rfl rfl) (ea_cons (ixJ ((e811.trans e12).trans e13) rfl rfl) ea_nil)) (by show 2 ≤ 100000; decide)) fun nt H14 hnt e14 hnt2 => ⟨.ref nt, _, _, _, _, _, _, rfl, (e612.trans e13).trans e14, ?_⟩
              rw [if_pos (by omega), tk1, fo_snoc, en]
              have ez : ¬ ei.2 = 0 := by
                intro z
                apply nz
                rw [net, z, v0]
                rfl
              dsimp only
              rw [if_neg ez]
              have hla : some one = some (lastN none (os.take i)) := by
                rw [← lastN_take os none i (by omega), ← hone, ei2, eNL]
              have hla2 := Option.some.inj hla
              rw [← hla2]
              have t814 := Tk.ex (((e811.trans e12).trans e13).trans e14)
              exact TD.tup hnt2 (TDs.cons (ov8.mono t814).td (TDs.one (tx8.mono t814)))
            · refine ⟨due, _, _, _, _, _, _, rfl, e612.trans e13, ?_⟩
              by_cases e2 : i2 = i
              · rw [if_pos (by omega), tk1, fo_snoc]
                cases hf : foM none (os.take i) with
                | some q' =>
                  rw [hf] at hdue12
                  exact hdue12.ex e13
                | none =>
                  rw [hf] at hb
                  have v0 := hz1 (fo_none hf)
                  have ez : ei.2 = 0 := by
                    have h1 : decide (V.int (i2 : Int) = V.int (1 + (i : Int) - 1)) = true := decide_eq_true (by rw [e2]; congr 1; omega)
                    rw [h1] at hb
                    have : netM p one ei.1 o = 0 := by simpa using hb
                    rw [net, v0] at this
                    omega
                  dsimp only
                  rw [if_pos ez]
                  rw [hf] at hdue12
                  exact hdue12.ex e13
              · rw [if_neg (by omega)]
                exact hdue12.ex e13
      · rintro σ2 H8 ⟨due, y7, y8, y9, y10, y11, y12, rfl, e8, hdue⟩
        rw [if_pos (by omega)] at hdue
        exact ⟨due, _, _, _, _, _, _, _, rfl, e8, hdue⟩
    · rintro σ' H' ⟨due, y6, y7, y8, y9, y10, y11, y12, rfl, e, hdue⟩
      rw [show ((nx.length : Int) - 1).toNat = os.length by omega, List.take_length] at hdue
      refine s_ret (v := .bl (true && true)) ?_ fun H8 e8 => q _ ((e06.trans e).trans e8)
      refine ev_andV (ev_is (v := .bl (decide (V.int ((R.length : Nat) : Int) = V.int ((nx.length : Nat) : Int)))) (ev_op (ev_cb (ea_cons (ev_var rfl) ea_nil) fun H8 e8 Q k => ⟨dt, R, rfl, hst, e8 _ _ (e _ _ hdt6), sz_of (by omega), k _ (Ex.refl _)⟩) (lenE e rfl) (rv_eq rfl)) (by rw [lR, lnx, decide_eq_true rfl])) fun _ => ?_
      intro H8 e8 Q k
      have e08 := (e06.trans e).trans e8
      refine ⟨_, rfl, _, rfl, a, p, b, xs, rfl, pl.ex e08, td.mono (Tk.ex e08), by omega, ndB, okB, fun H9 v e9 hv => ⟨_, rfl, v, due, rfl, ?_, fun H10 e10 => k _ (e9.trans e10)⟩⟩
      have hd9 := (hdue.ex e8).ex e9
      rw [← eos] at hv
      cases hf : foM none os with
      | none =>
        rw [hf] at hv hd9
        exact .inr (.inl ⟨hv, hd9⟩)
      | some q' =>
        rw [hf] at hv hd9
        obtain ⟨⟨e2, he2, eq2⟩, h3⟩ := fo_mem hf
        refine .inr (.inr ⟨q'.1, q'.2, hv, hd9, fun n hn => ?_, by rw [eq2]; exact osnm e2 he2⟩)
        rcases h3 n hn with h4 | ⟨e', he', h5⟩
        · cases h4
        · rw [h5]
          exact osnm e' he'
end
end Pn
set_option maxHeartbeats 4000000
/-! law -/
namespace Pn
open PySem L2 Evl
mutual
theorem TD.plain {H : Hp} : ∀ {d : PyData} {v : V}, TD H d v → d.plain = true
  | .none, _, _ => rfl
  | .bool _, _, _ => rfl
  | .int _, _, _ => rfl
  | .str _, _, _ => rfl
  | .tuple _, _, h => by
    obtain ⟨a, xs, e, ha, hs⟩ := h
    exact TDs.plain hs
  | .list _, _, h => h.elim
  | .dict _, _, h => h.elim
theorem TDs.plain {H : Hp} : ∀ {ds : List PyData} {xs : List V}, TDs H ds xs → PyData.plainAll ds = true
  | [], _, _ => rfl
  | d :: ds, _, h => by
    obtain ⟨x, r, e, h1, h2⟩ := h
    show (d.plain && PyData.plainAll ds) = true
    rw [TD.plain h1, TDs.plain h2]
    rfl
end
section
variable {X : Cx}
/-- x not in a list of data -/
def rNinD (K : PySem.W.Frag) : R2 := fun x y H Q => ∃ (l : Addr) (xs : List V) (ds : List PyData) (d : PyData), y = .ref l ∧ SqL K H l xs ∧ TDs H ds xs ∧ TD H d x ∧ d.depth ≤ 8 ∧ Q (.bl (!ds.any fun e => PyData.eqv e d)) H
theorem op_ninD (K : PySem.W.Frag) (eK : X.K = K) (hu : X.A.units + 64 < cLine) : OpR X (compareOp .NotIn) (rNinD K) := by
  subst eK
  intro pins s σ H x y v u Q I rx ry h
  obtain ⟨l, xs, ds, d, rfl, hl, td, tx, dp, q⟩ := h
  obtain ⟨its, rv, pl, hz⟩ := I.list hl
  have eu : u = Value.ref l := ry
  subst eu
  obtain ⟨as, ra⟩ := TDs.reads I td rv
  obtain ⟨bs, rb⟩ := TD.reads I tx rx
  obtain ⟨o, ho, hc, n, hd⟩ := pl.isList
  exact PySem.SeqAt.notIn_list_data (Reads.list ho hc hd (by simpa using ra)) rb (TDs.plain td) (TD.plain tx) (by omega) ⟨.bl _, H, I, rfl, q⟩
end
/-! ### == of pages -/
theorem eqv_runs : ∀ rs : List Run, PyData.eqvAll (rs.map runD) (rs.map runD) = true
  | [] => rfl
  | r :: rs => by
    show (((r.1 == r.1) && ((r.2.1 == r.2.1) && ((r.2.2 == r.2.2) && true))) && PyData.eqvAll (rs.map runD) (rs.map runD)) = true
    rw [eqv_runs rs]
    simp
theorem eqv_deed (d : Deed) : PyData.eqv (deedD d) (deedD d) = true := by
  cases d with
  | count p n =>
    show ((("count" : Str) == "count") && ((p == p) && ((n == n) && true))) = true
    simp
  | bag a b n =>
    show ((("bag" : Str) == "bag") && ((a == a) && ((b == b) && ((n == n) && true)))) = true
    simp
  | move a b rs =>
    show ((("move" : Str) == "move") && ((a == a) && ((b == b) && (PyData.eqvAll (rs.map runD) (rs.map runD) && true)))) = true
    rw [eqv_runs rs]
    simp
theorem eqv_nm {n m : Nm} : PyData.eqv (nmD n) (nmD m) = true ↔ n = m := by
  have e : PyData.eqv (nmD n) (nmD m) = ((n.1 == m.1) && ((n.2.1 == m.2.1) && ((n.2.2 == m.2.2) && true))) := rfl
  rw [e]
  obtain ⟨a, b, c⟩ := n
  obtain ⟨a', b', c'⟩ := m
  simp
theorem eqv_page (g : Page) : PyData.eqv (pageD g) (pageD g) = true := by
  show (PyData.eqv (nmD g.1) (nmD g.1) && (PyData.eqv (deedD g.2) (deedD g.2) && true)) = true
  rw [eqv_nm.mpr rfl, eqv_deed]
  rfl
theorem eqv_page_nm {g h : Page} (e : PyData.eqv (pageD g) (pageD h) = true) : g.1 = h.1 := by
  have e' : (PyData.eqv (nmD g.1) (nmD h.1) && (PyData.eqv (deedD g.2) (deedD h.2) && true)) = true := e
  rw [Bool.and_eq_true] at e'
  exact eqv_nm.mp e'.1
/-- is the page among these -/
def amg (o : List Page) (g : Page) : Bool := (o.map pageD).any fun y => PyData.eqv y (pageD g)
theorem amg_name {o : List Page} {g : Page} (h : amg o g = true) : g.1 ∈ o.map (·.1) := by
  unfold amg at h
  rw [List.any_map, List.any_eq_true] at h
  obtain ⟨x, hx, e⟩ := h
  exact List.mem_map.mpr ⟨x, hx, eqv_page_nm e⟩
theorem amg_self {o : List Page} {g : Page} (h : g ∈ o) : amg o g = true := by
  unfold amg
  rw [List.any_map, List.any_eq_true]
  exact ⟨g, h, eqv_page g⟩
theorem filter_amg {o w : List Page} (s : o.Sublist w) (nd : (w.map (·.1)).Nodup) : w.filter (amg o) = o := by
  induction s with
  | slnil => rfl
  | @cons o w a s ih =>
    rw [List.map_cons, List.nodup_cons] at nd
    have e : amg o a = false := by
      cases h : amg o a with
      | false => rfl
      | true => exact absurd ((s.map (·.1)).subset (amg_name h)) nd.1
    rw [List.filter_cons, e, if_neg (by decide)]
    exact ih nd.2
  | @cons_cons o w a s ih =>
    rw [List.map_cons, List.nodup_cons] at nd
    rw [List.filter_cons, amg_self List.mem_cons_self, if_pos rfl]
    congr 1
    refine Eq.trans ?_ (ih nd.2)
    refine List.filter_congr fun x hx => ?_
    show ((a :: o).map pageD).any (fun y => PyData.eqv y (pageD x)) = amg o x
    rw [List.map_cons, List.any_cons]
    have e : PyData.eqv (pageD a) (pageD x) = false := by
      cases h : PyData.eqv (pageD a) (pageD x) with
      | false => rfl
      | true => exact absurd (List.mem_map.mpr ⟨x, hx, (eqv_page_nm h).symm⟩) nd.1
    rw [e, Bool.false_or]
    rfl
theorem part_whole {w : List Page} (g : Good w) : Part w [] := ⟨w, fun _ => true, g, (List.filter_eq_self.mpr fun _ _ => rfl).symm, (List.filter_eq_nil_iff.mpr fun _ _ h => by cases h).symm, fun _ _ _ => rfl⟩
theorem part_out {w o : List Page} (g : Good w) (s : o.Sublist w) (nc : ∀ x ∈ o, ¬ ∃ p c, x.2 = .count p c) : Part (w.filter fun x => !amg o x) o := by
  have nd := Srt.nd g.srt
  refine ⟨w, fun x => !amg o x, g, rfl, ?_, fun x hx hc => ?_⟩
  · refine Eq.trans (filter_amg s nd).symm ?_
    refine List.filter_congr fun x _ => ?_
    rw [Bool.not_not]
  · have e : amg o x = false := by
      cases h : amg o x with
      | false => rfl
      | true =>
        rw [← filter_amg s nd] at nc
        exact absurd hc (nc x (List.mem_filter.mpr ⟨hx, h⟩))
    show (!amg o x) = true
    rw [e]
    rfl
theorem depth_runs : ∀ rs : List Run, PyData.depthAll (rs.map runD) ≤ 1
  | [] => by show (0 : Nat) ≤ 1; decide
  | r :: rs => by
    have ih := depth_runs rs
    show max (PyData.depth (runD r)) (PyData.depthAll (rs.map runD)) ≤ 1
    have e : PyData.depth (runD r) = 1 := rfl
    omega
section
variable {K : PySem.W.Frag} {σ : L2.St} {H : Hp} {te : TE} {g : L2.TG} {D : Ends} {tu : TS}
theorem r_sortW {Q : VK} (h : te σ H fun x H1 => tSortW K (tC x) σ H1 Q) : tSortW K te σ H Q := h
end
theorem PlT.kb {F : Addr} {H H' : Hp} {t : Addr} {xs : List V} (h : PlT H t xs) (n : t ≠ F) (k : Kb F H H') : PlT H' t xs := by
  obtain ⟨o, h1, h2⟩ := h
  exact ⟨o, k t _ n h1, h2⟩
theorem FD.neP {H : Hp} {F S t : Addr} {n : Nat} {xs : List V} (f : FD H F S n) (h : PlT H t xs) : t ≠ F := fun z => by
  obtain ⟨ys, hy⟩ := f.at
  obtain ⟨o, h1, _⟩ := h
  rw [z, hy] at h1
  cases h1
section
variable {P : Program} {w : World} {K : PySem.W.Frag} {mg : Str → Option Value} {base : Heap}
def spLaw (K : PySem.W.Frag) : Sp := fun vs H Q _ => ∃ (a : Addr) (ns : List Int), vs = [.ref a] ∧ SqL K H a (ns.map V.int) ∧ ∀ H', Q (.bl true) H'
theorem ok_law {f : Addr} {fd : FuncData} (F : Fun K "law" "law" dLaw f fd) (T : Tx mg) (GE : Dfn P w K mg base 1 "_law_feed" ["_law_script"] (spFeed K)) (GD : Dfn P w K mg base 1 "_law_draw" ["_law_feed_here", "_law_many"] spDraw)
    (GO : Dfn P w K mg base 3 "_law_office" ["_law_feed_here"] spOffice) (GH : Dfn P w K mg base 3 "_law_history" ["_law_feed_here", "_law_office_here", "_law_most"] spHist)
    (GI : DfnG P w K mg base 7 "_law_is_so" ["_law_book", "_law_out", "_law_place"] (spIsSo K)) : FnG P w K mg base 8 f fd ["_law_script"] (spLaw K) := by
  refine fun_okG F cLaw (fun vs H Q E h => ?_) (fun cdv A outer s H vs Q E hgu hr h => ?_)
  · obtain ⟨_, _, rfl, _⟩ := h
    rfl
  · obtain ⟨a, ns, rfl, ha, q⟩ := h
    have hr1 := hr.mono (show 1 ≤ 7 by decide)
    have hr3 := hr.mono (show 3 ≤ 7 by decide)
    refine ⟨_, pss_cons (ps_set (i := 1) cLaw.nd rfl (Or.inr rfl) (pe_call GE.ok hr1 rfl GE.at_ GE.kp GE.bd .nil pass0 (pa_cons (pv 0) pa_nil)))
      (pss_cons (ps_set (i := 2) cLaw.nd rfl (Or.inl rfl) (pe_call GO.ok hr3 rfl GO.at_ GO.kp GO.bd .nil pass0 (pa_cons (pv 1) pa_nil)))
      (pss_cons (ps_set (i := 3) cLaw.nd rfl (Or.inl rfl) (pe_call GH.ok hr3 rfl GH.at_ GH.kp GH.bd .nil pass0 (pa_cons (pv 1) (pa_cons (pv 2) (pa_cons
        (pe_ix ix_list (pe_lst (pa_cons pe_int (pa_cons pe_int pa_nil))) (pe_callTy call_int1 (by rfl) T.int (by decide +kernel) (pa_cons (pe_cmpR op_eq (pe_call GD.ok hr1 rfl GD.at_ GD.kp GD.bd .nil pass0 (pa_cons (pv 1) (pa_cons pe_int pa_nil))) pe_int (nomark _)) pa_nil)) (fun _ _ => rfl)) pa_nil)))))
      (pss_cons (ps_set (i := 4) cLaw.nd rfl (Or.inr rfl)
        (pe_lc (own := [("_law_page", 7)]) (g := gName 7) rfl cLaw.nd (pi_tup (pv 3)) (blkOk_by (N := ["_law_script", "_law_feed_here", "_law_office_here", "_law_whole", "_law_out", "_law_book", "_law_place", "_law_page", "_law_road"]) (sc := defScope dLaw) (by decide +kernel))
          (fun _ _ _ _ _ => pg_name (i := 7) cLaw.nd rfl (Or.inl rfl))
          (fun _ _ _ _ _ => pts_one (PW.pt (pw_and (pt_cmpR op_ne (pe_ix (ixc K rfl) (pe_ix (ixc K rfl) (pv 7) pe_int (fun _ _ => rfl)) pe_int (fun _ _ => rfl)) pe_str (nomark _))
            (pw_and1 (pt_cmpR op_eq (pe_call GD.ok hr1 rfl GD.at_ GD.kp GD.bd .nil pass0 (pa_cons (pv 1) (pa_cons pe_int pa_nil))) pe_int (nomark _)))))) (fun _ _ _ _ _ => pv 7)))
      (pss_cons (ps_set (i := 5) cLaw.nd rfl (Or.inl rfl) (pe_callTy cr_tupF (by rfl) T.tuple (by decide +kernel) (pa_cons
        (pe_lc (own := [("_law_page", 7)]) (g := gName 7) rfl cLaw.nd (pi_tup (pv 3)) (blkOk_by (N := ["_law_script", "_law_feed_here", "_law_office_here", "_law_whole", "_law_out", "_law_book", "_law_place", "_law_page", "_law_road"]) (sc := defScope dLaw) (by decide +kernel))
          (fun _ _ _ _ _ => pg_name (i := 7) cLaw.nd rfl (Or.inl rfl)) (fun _ _ _ _ _ => pts_one (pt_cmpR (op_ninD K rfl hr.units) (pv 7) (pv 4) (by rfl))) (fun _ _ _ _ _ => pv 7)) pa_nil)))
      (pss_cons (ps_for PassesOwn.never rfl (pi_list (pe_sortW rfl hr.units (by rfl) T.sorted (by rfl) T.set
          (pe_lc (own := [("_law_road", 8)]) (g := gName 8) (tt := tYes) rfl cLaw.nd (pi_tup (pe_ix ix_tup (pv 2) pe_int (fun _ _ => rfl))) (blkOk_by (N := ["_law_script", "_law_feed_here", "_law_office_here", "_law_whole", "_law_out", "_law_book", "_law_place", "_law_page", "_law_road"]) (sc := defScope dLaw) (by decide +kernel))
            (fun _ _ _ _ _ => pg_name (i := 8) cLaw.nd rfl (Or.inl rfl)) (fun _ _ _ _ _ => pts_nil) (fun _ _ _ _ _ => pe_ix (ixc K rfl) (pv 8) pe_int (fun _ _ => rfl))))) (pg_name (i := 6) cLaw.nd rfl (Or.inl rfl))
        (pss_one (ps_if (PW.pt (pw_or (pt_not (pt_val (pe_callG GI.ok hgu hr rfl GI.at_ GI.kp GI.bd (pa_cons (pv 3) (pa_cons (pe_lst pa_nil) (pa_cons (pv 6) pa_nil))))))
          (pw_or (pt_not (pt_val (pe_callG GI.ok hgu hr rfl GI.at_ GI.kp GI.bd (pa_cons (pv 5) (pa_cons (pv 4) (pa_cons (pv 6) pa_nil))))))
          (pw_or1 (pt_not (pt_val (pe_callG GI.ok hgu hr rfl GI.at_ GI.kp GI.bd (pa_cons (pv 3) (pa_cons (pe_lst pa_nil) (pa_cons (pv 6) pa_nil)))))))))) (pss_one (ps_ret pe_bl)) pss_nil)))
      (pss_one (ps_ret pe_bl))))))), ?_⟩
    -- the feed, the office
    refine r_seq (r_set ⟨_, rfl, a, ns, rfl, ha, fun H1 F S e1 f1 => ?_⟩)
    dsimp only
    refine r_seq (r_set ⟨_, rfl, F, S, 0, rfl, f1, by omega, fun H2 O wt yt wxs yxs ws ways k2 f2 hO hwt tws wne wlen hyt tyx wok => ?_⟩)
    dsimp only
    have off2 : OffOk H2 O ws ways := ⟨wt, yt, wxs, yxs, hO, hwt, tws, hyt, tyx⟩
    -- the whole
    refine r_seq (r_set ⟨_, rfl, _, rfl, by show 2 ≤ sizeLine; decide, fun il hil => ⟨_, rfl, F, S, 8, 100, rfl, f2.ex (Ex.new hil), by omega, by decide, by decide, fun H3 r k3 f3 r0 r8 => ⟨rfl, .inr ⟨_, rfl, ?_⟩⟩⟩⟩)
    have nilF := f2.new hil
    have hil3 := k3 il _ nilF (show _ = some (.lst [.int 16, .int 24]) from upd_same)
    obtain ⟨most, lm, hat⟩ : ∃ most : Nat, most ≤ 24 ∧ atI [V.int 16, V.int 24] (if decide (V.int r = V.int 0) = true then 1 else 0) = some (.int (most : Int)) := by
      split
      · exact ⟨24, by decide, rfl⟩
      · exact ⟨16, by decide, rfl⟩
    have off3 := (off2.tk (Tk.ex (Ex.new (o := .lst [.int 16, .int 24]) hil))).tk ((f2.ex (Ex.new hil)).tk k3)
    refine ⟨il, _, _, _, rfl, rfl, SqL.of hil3, hat, F, S, O, 101, most, ws, ways, rfl, f3, by omega, lm, off3, wne, wlen, wok, fun H4 t xs b k4 f4 pl td good => ?_⟩
    have off4 := off3.tk (f3.tk k4)
    dsimp only
    have lx := Bk.len td
    have lb := good.len
    have tF := f4.neP pl
    -- what is left out
    refine r_seq (r_set (r_lcT ⟨_, rfl, lkT (F := F) (S := S) (n0 := 601) (xs := xs) 1 (fun i acc H' => ∃ o : List Page, TDs H' (o.map pageD) acc ∧ o.Sublist (b.take i) ∧ ∀ x ∈ o, ¬ ∃ p c, x.2 = .count p c)
      (fun _ _ _ _ k ⟨o, h1, h2⟩ => ⟨o, h1.mono k, h2⟩) f4 (by omega) (fun H' k => (pl.kb tF k).sq) ⟨[], TDs.nil, List.nil_sublist _, fun x hx => (by cases hx)⟩ (fun i x H5 hi k5 f5 => ?_) fun ol H5 acc hol k5 f5 hol5 lacc hR => ?_⟩))
    · obtain ⟨g, c, y, z, d, zs, hg, rfl, hc, hy, hz, rfl, hd, h0⟩ := Bk.page (td.mono (f4.tk k5)) hi
      have tg : TD H5 (pageD g) (.ref c) := TD.tup hc (TDs.cons hy (TDs.one hz))
      refine ⟨_, fun N k => k, rfl, fun Q1 Q0 q1 q0 => ?_⟩
      refine et_ne (ev_ix (ev_ix (ev_var rfl) (SqT.of hc) rfl) (SqT.of hd) h0) ev_c rfl H5 (Ex.refl _) _ fun H6 e6 => ?_
      have skip : ∀ H7, Kb F H5 H7 → FD H7 F S (601 + 1 * (i + 1)) → Q0 H7 := fun H7 k7 f7 => q0 H7 k7 f7 fun acc ⟨o, h1, h2, h3⟩ => ⟨o, h1.mono (f5.tk k7), h2.trans (List.take_sublist_take_left (Nat.le_succ i)), h3⟩
      cases hb : !decide (V.str g.2.kind = V.str "count") with
      | false => exact skip H6 (Kb.ex e6) ((f5.ex e6).more (by omega))
      | true =>
        have li : i < 24 := by
          have := (List.getElem?_eq_some_iff.mp hi).1
          omega
        refine ⟨_, rfl, F, S, 3, 601 + 1 * i, rfl, f5.ex e6, by omega, by decide, by decide, fun H7 r' k7 f7 r0' r3' => ⟨rfl, _, rfl, ?_⟩⟩
        have k57 : Kb F H5 H7 := (Kb.ex e6).trans k7
        by_cases hz0 : V.int r' = V.int 0
        · rw [decide_eq_true hz0]
          refine (if_pos rfl : (if true = true then _ else _) = _).mpr ?_
          refine ⟨_, rfl, q1 _ _ k57 f7 fun acc ⟨o, h1, h2, h3⟩ => ⟨o ++ [g], ?_, ?_, fun x hx => ?_⟩⟩
          · rw [List.map_append]
            exact (h1.mono (f5.tk k57)).append (TDs.one (tg.mono (f5.tk k57)))
          · rw [List.take_add_one, hg]
            exact h2.append (List.Sublist.refl _)
          · rcases List.mem_append.mp hx with h | h
            · exact h3 x h
            · rw [List.mem_singleton.mp h]
              rintro ⟨p, c, e⟩
              rw [e] at hb
              have : (!decide (V.str "count" = V.str "count")) = true := hb
              rw [decide_eq_true rfl] at this
              cases this
        · rw [decide_eq_false hz0]
          exact (if_neg Bool.false_ne_true : (if false = true then _ else _) = _).mpr (skip H7 k57 f7)
    dsimp only
    obtain ⟨o, to, sub, nc⟩ := hR
    rw [lx, List.take_length] at sub
    have pl5 := pl.kb tF k5
    have td5 := td.mono (f4.tk k5)
    have off5 := off4.tk (f4.tk k5)
    -- the book
    refine r_seq (r_set (r_cb (r_cons (lcT (xs := xs) (fun i acc H' => TDs H' (((b.take i).filter fun g => !amg o g).map pageD) acc) (fun _ _ _ _ k h => h.mono k) (by omega) ?_ (fun _ _ => TDs.nil) (fun i x H6 hi e6 => ?_) fun bl H6 bcc hbl e6 hbl6 lbcc hB => ?_))))
    · exact SrcT.ev (ev_var rfl) pl5.sq
    · obtain ⟨g, c, y, z, d, zs, hg, rfl, hc, hy, hz, rfl, hd, h0⟩ := Bk.page (td5.mono (Tk.ex e6)) hi
      have tg : TD H6 (pageD g) (.ref c) := TD.tup hc (TDs.cons hy (TDs.one hz))
      have dg : (pageD g).depth ≤ 8 := by
        obtain ⟨n, dd⟩ := g
        cases dd with
        | count p k => show (2 : Nat) ≤ 8; decide
        | bag p1 p2 k => show (2 : Nat) ≤ 8; decide
        | move p1 p2 rs =>
          have := depth_runs rs
          show max 1 (max (max 0 (max 0 (max 0 (max (PyData.depthAll (rs.map runD) + 1) 0))) + 1) 0) + 1 ≤ 8
          omega
      refine ⟨_, fun N k => k, rfl, !amg o g, ?_, fun hb H7 e7 Q k => ⟨_, rfl, k _ _ (Ex.refl _) fun acc' t => ?_⟩, fun hb acc' H7 e7 t => ?_⟩
      · exact et_test (ev_op (ev_var rfl) (ev_var rfl) fun H7 e7 Q k => ⟨ol, acc, o.map pageD, pageD g, rfl, SqL.of (e7 _ _ (e6 _ _ hol5)), to.mono (Tk.ex (e6.trans e7)), tg.mono (Tk.ex e7), dg, k _ (Ex.refl _)⟩)
      · show TDs H7 (((b.take (i + 1)).filter fun g => !amg o g).map pageD) _
        rw [List.take_add_one, hg]
        show TDs H7 (((b.take i ++ [g]).filter fun g => !amg o g).map pageD) _
        rw [List.filter_append, List.filter_cons, if_pos hb, List.filter_nil, List.map_append]
        exact TDs.append t (TDs.one (tg.mono (Tk.ex e7)))
      · show TDs H7 (((b.take (i + 1)).filter fun g => !amg o g).map pageD) _
        rw [List.take_add_one, hg]
        show TDs H7 (((b.take i ++ [g]).filter fun g => !amg o g).map pageD) _
        rw [List.filter_append, List.filter_cons, if_neg (by rw [hb]; decide), List.filter_nil, List.append_nil]
        exact t.mono (Tk.ex e7)
    rw [lx, List.take_length] at hB
    refine ⟨bl, bcc, rfl, SqL.of hbl6, fun bt bo hbt bo1 bo2 => ?_⟩
    dsimp only
    have e57 := e6.trans (Ex.new (o := .frz bo (.tup bcc)) hbt)
    have plB : PlT (upd H6 bt (.frz bo (.tup bcc))) bt bcc := ⟨bo, upd_same, bo1, bo2⟩
    have tdB := hB.mono (tk_new (o := .frz bo (.tup bcc)) hbt)
    have pl7 := pl5.ex e57
    have td7 := td5.mono (Tk.ex e57)
    have hol7 := e57 _ _ hol5
    have to7 := to.mono (Tk.ex e57)
    have off7 := off5.tk (Tk.ex e57)
    show tSeq _ _ _ _ (upd H6 bt (.frz bo (.tup bcc)))
    generalize upd H6 bt (.frz bo (.tup bcc)) = H7 at plB tdB pl7 td7 hol7 to7 off7 ⊢
    obtain ⟨wt7, yt7, wxs7, yxs7, hO7, hwt7, tws7, hyt7, tyx7⟩ := off7
    have lyx : yxs7.length = ways.length := by rw [tyx7.length, List.length_map]
    have lw100 := wok.2.1
    -- the places
    refine r_seq (r_forL (r_sortW (r_lcT (ev_ix (ev_var rfl) (SqT.of hO7) rfl H7 (Ex.refl _) _ fun H8 e8 => ?_))))
    refine lcT (xs := yxs7) (fun i acc _ => acc = ((ways.take i).map fun r => V.str r.2)) (fun _ _ _ _ _ h => h) (by omega) ?_ (fun _ _ => rfl) (fun i x H9 hi e9 => ?_) fun p1 H9 acc1 hp1 e9 h9 _ hR1 => ?_
    · exact SrcT.ev ev_c (SqT.of (e8 _ _ hyt7))
    · obtain ⟨r, a', hr', rfl, ha'⟩ := way_item tyx7 hi
      refine ⟨_, fun N k => k, rfl, Turn.yes fun H10 e10 Q k => ?_⟩
      refine ev_ix (ev_var rfl) (SqT.of (e9 _ _ (e8 _ _ ha'))) rfl H10 e10 _ fun H11 e11 => k _ _ e11 fun acc ha => ?_
      show acc ++ [_] = _
      rw [show acc = _ from ha, List.take_add_one, hr', List.map_append]
      rfl
    rw [lyx, List.take_length] at hR1
    subst hR1
    refine ⟨p1, ways.map (·.2), rfl, ?_, by rw [List.length_map]; omega, fun p2 bs hp2 so => ?_⟩
    · rw [List.map_map]
      exact SqL.of h9
    have e7A := (e8.trans e9).trans (Ex.new (o := .lst (bs.map V.str)) hp2)
    refine s_forL (xs := bs.map V.str) ev_c (SqL.of upd_same) (fun i σ' H' => ∃ (y6 : Option V), σ' = [some (.ref a), some (.ref F), some (.ref O), some (.ref t), some (.ref ol), some (.ref bt), y6, none, none] ∧ Ex (upd H9 p2 (.lst (bs.map V.str))) H')
      (fun H10 e10 => ⟨_, rfl, e10⟩) (fun i σ' H' _ ⟨_, _, e⟩ => SqL.of (e _ _ upd_same)) ?_ ?_
    · rintro i x σ' H' hi ⟨y6, rfl, e⟩
      obtain ⟨p, hp, rfl⟩ := List.mem_map.mp (List.mem_of_getElem? hi)
      have e7H := e7A.trans e
      have c1 : ∀ {H0 : Hp}, Ex H' H0 → ∀ {σ5 : L2.St}, σ5[3]? = some (some (V.ref t)) → σ5[6]? = some (some (V.str p)) → EvT (tNot (tB (tCallG (spIsSo K) (tCons (tVar 3) (tCons (tLst tNil) (tCons (tVar 6) tNil)))))) σ5 H0 false := fun {H0} e0 {σ5} h3 h6 => by
        refine et_not (a := true) (et_B fun H10 e10 Q k => ?_)
        have eA := (e7H.trans e0).trans e10
        exact ⟨_, h3, Nat.zero_le _, fun nl hnl => ⟨_, h6, t, nl, p, b, [], xs, [], rfl, (pl7.ex eA).ex (Ex.new hnl), td7.mono (Tk.ex (eA.trans (Ex.new hnl))), SqL.of upd_same, TDs.nil, part_whole good, fun H11 e11 => k _ ((Ex.new hnl).trans e11)⟩⟩
      refine s_when (b := false || (false || false)) ?_ (fun hb => (nomatch hb)) (fun _ H10 e10 => ⟨_, rfl, e.trans e10⟩)
      refine et_or (c1 (Ex.refl _) (σ5 := [some (.ref a), some (.ref F), some (.ref O), some (.ref t), some (.ref ol), some (.ref bt), some (.str p), none, none]) rfl rfl) fun _ => et_or (et_not (a := true) (et_B fun H10 e10 Q k => ?_)) fun _ => c1 (Ex.refl _) (σ5 := [some (.ref a), some (.ref F), some (.ref O), some (.ref t), some (.ref ol), some (.ref bt), some (.str p), none, none]) rfl rfl
      have eA := e7H.trans e10
      exact ⟨_, rfl, _, rfl, _, rfl, bt, ol, p, _, o, bcc, acc, rfl, plB.ex eA, tdB.mono (Tk.ex eA), SqL.of (eA _ _ hol7), to7.mono (Tk.ex eA), part_out good sub nc, fun H11 e11 => k _ e11⟩
    · rintro σ' H' ⟨y6, rfl, e⟩
      exact q _
end
end Pn
set_option maxHeartbeats 4000000
/-! from what the top has left to the law's promise -/
namespace Pn
open PySem L2 Evl
/-- where a def stands -/
def At (K : PySem.W.Frag) (mg : Str → Option Value) (x : Str) (st : Stmt) : Prop := ∃ (f : Addr) (fd : FuncData), Fun K x x st f fd ∧ mg x = some (.ref f)
theorem at_mk {K : PySem.W.Frag} {h : Heap} {mg : Str → Option Value} (X : K.In h) (G : h.Ns mainGlobals mg) {x : Str} {st : Stmt} {f : Addr} {oc : Value} {od an : Option Addr} {osl : Array (Option Value)} {kV doc pm cdv ct : Value}
    (a : PySem.W.nsIn K mainGlobals x = some (some (.ref f))) (l : K.lookup f = some ⟨oc, od, .func (PySem.W.fnOf x x (defArgs st) (defBody st) (defScope st) .none kV doc pm an cdv ct), osl⟩)
    (c : PySem.W.codeIn K cdv x = true) (k : PySem.W.keepIn K (.ref f) = true) : At K mg x st := ⟨f, _, fun_mk l c k, PySem.W.mg_of X G a⟩
theorem glo_int {K : PySem.W.Frag} {h : Heap} {mg : Str → Option Value} (X : K.In h) (G : h.Ns mainGlobals mg) {x : Str} {i : Int} {t : Nat} (e : PySem.W.nsIn K mainGlobals x = some (some (.int i t))) : ∃ t, mg x = some (.int i t) := ⟨t, PySem.W.mg_of X G e⟩
theorem glo_str {K : PySem.W.Frag} {h : Heap} {mg : Str → Option Value} (X : K.In h) (G : h.Ns mainGlobals mg) {x z : Str} {t : Nat} (e : PySem.W.nsIn K mainGlobals x = some (some (.str z t))) : ∃ t, mg x = some (.str z t) := ⟨t, PySem.W.mg_of X G e⟩
theorem all_law {P : Program} {w : World} {K : PySem.W.Frag} {h : Heap} {mg : Str → Option Value} {fa : Addr} (KX : K.In h) (GN : h.Ns mainGlobals mg) (hfa : mg "law" = some (.ref fa)) (T : Tx mg)
    (A_word : At K mg "is_word" dWord)
    (A_least : At K mg "is_at_least" dLeast)
    (A_bounded : At K mg "is_bounded" dBounded)
    (A_many : At K mg "many_in" dMany)
    (A_name : At K mg "is_name" dName)
    (A_voided : At K mg "voided" dVoided)
    (A_bags : At K mg "bags_in" dBags)
    (A_counted : At K mg "counted" dCounted)
    (A_pages : At K mg "counted_pages" dPages)
    (A_brings : At K mg "brings" dBrings)
    (A_offs : At K mg "offs" dOffs)
    (A_said : At K mg "said" dSaid)
    (A_offp : At K mg "off_paper" dOffp)
    (A_part : At K mg "is_part" dPart)
    (A_lets : At K mg "lets_offs" dLets)
    (A_first : At K mg "first_off" dFirst)
    (A_feed : At K mg "_law_feed" dFeed)
    (A_draw : At K mg "_law_draw" dDraw)
    (A_same : At K mg "_law_same" dSame)
    (A_words : At K mg "_law_words" dWords)
    (A_office : At K mg "_law_office" dOffice)
    (A_runs : At K mg "_law_runs_of" dRuns)
    (A_nm : At K mg "_law_name" dNm)
    (A_went : At K mg "_law_went" dWent)
    (A_hist : At K mg "_law_history" dHist)
    (A_net : At K mg "_law_net" dNet)
    (A_isso : At K mg "_law_is_so" dIsSo)
    (A_law : At K mg "law" dLaw) :
    ∃ fd : FuncData, (∀ (s : Shared) (u : Value), BindsTo s fd ⟨[u], []⟩ [("_law_script", u)]) ∧ ∀ base : Heap, K.In base → base.Ns mainGlobals mg → FnG P w K mg base 8 fa fd ["_law_script"] (spLaw K) := by
  obtain ⟨f_word, d_word, F_word, m_word⟩ := A_word
  have b_word := F_word.binds (ps := ["thing"]) fun _ _ _ _ _ _ us hl => match us, hl with | [_], _ => rfl
  obtain ⟨f_least, d_least, F_least, m_least⟩ := A_least
  have b_least := F_least.binds (ps := ["thing", "least"]) fun _ _ _ _ _ _ us hl => match us, hl with | [_, _], _ => rfl
  obtain ⟨f_bounded, d_bounded, F_bounded, m_bounded⟩ := A_bounded
  have b_bounded := F_bounded.binds (ps := ["thing", "least", "most"]) fun _ _ _ _ _ _ us hl => match us, hl with | [_, _, _], _ => rfl
  obtain ⟨f_many, d_many, F_many, m_many⟩ := A_many
  have b_many := F_many.binds (ps := ["runs"]) fun _ _ _ _ _ _ us hl => match us, hl with | [_], _ => rfl
  obtain ⟨f_name, d_name, F_name, m_name⟩ := A_name
  have b_name := F_name.binds (ps := ["thing"]) fun _ _ _ _ _ _ us hl => match us, hl with | [_], _ => rfl
  obtain ⟨f_voided, d_voided, F_voided, m_voided⟩ := A_voided
  have b_voided := F_voided.binds (ps := ["book"]) fun _ _ _ _ _ _ us hl => match us, hl with | [_], _ => rfl
  obtain ⟨f_bags, d_bags, F_bags, m_bags⟩ := A_bags
  have b_bags := F_bags.binds (ps := ["book"]) fun _ _ _ _ _ _ us hl => match us, hl with | [_], _ => rfl
  obtain ⟨f_counted, d_counted, F_counted, m_counted⟩ := A_counted
  have b_counted := F_counted.binds (ps := ["book"]) fun _ _ _ _ _ _ us hl => match us, hl with | [_], _ => rfl
  obtain ⟨f_pages, d_pages, F_pages, m_pages⟩ := A_pages
  have b_pages := F_pages.binds (ps := ["book"]) fun _ _ _ _ _ _ us hl => match us, hl with | [_], _ => rfl
  obtain ⟨f_brings, d_brings, F_brings, m_brings⟩ := A_brings
  have b_brings := F_brings.binds (ps := ["deed", "place"]) fun _ _ _ _ _ _ us hl => match us, hl with | [_, _], _ => rfl
  obtain ⟨f_offs, d_offs, F_offs, m_offs⟩ := A_offs
  have b_offs := F_offs.binds (ps := ["book", "place"]) fun _ _ _ _ _ _ us hl => match us, hl with | [_, _], _ => rfl
  obtain ⟨f_said, d_said, F_said, m_said⟩ := A_said
  have b_said := F_said.binds (ps := ["book", "name"]) fun _ _ _ _ _ _ us hl => match us, hl with | [_, _], _ => rfl
  obtain ⟨f_offp, d_offp, F_offp, m_offp⟩ := A_offp
  have b_offp := F_offp.binds (ps := ["book", "place", "one", "other"]) fun _ _ _ _ _ _ us hl => match us, hl with | [_, _, _, _], _ => rfl
  obtain ⟨f_part, d_part, F_part, m_part⟩ := A_part
  have b_part := F_part.binds (ps := ["thing"]) fun _ _ _ _ _ _ us hl => match us, hl with | [_], _ => rfl
  obtain ⟨f_lets, d_lets, F_lets, m_lets⟩ := A_lets
  have b_lets := F_lets.binds (ps := ["book", "place", "one", "other", "thing"]) fun _ _ _ _ _ _ us hl => match us, hl with | [_, _, _, _, _], _ => rfl
  obtain ⟨f_first, d_first, F_first, m_first⟩ := A_first
  have b_first := F_first.binds (ps := ["book", "place"]) fun _ _ _ _ _ _ us hl => match us, hl with | [_, _], _ => rfl
  obtain ⟨f_feed, d_feed, F_feed, m_feed⟩ := A_feed
  have b_feed := F_feed.binds (ps := ["_law_script"]) fun _ _ _ _ _ _ us hl => match us, hl with | [_], _ => rfl
  obtain ⟨f_draw, d_draw, F_draw, m_draw⟩ := A_draw
  have b_draw := F_draw.binds (ps := ["_law_feed_here", "_law_many"]) fun _ _ _ _ _ _ us hl => match us, hl with | [_, _], _ => rfl
  obtain ⟨f_same, d_same, F_same, m_same⟩ := A_same
  have b_same := F_same.binds (ps := ["_law_found", "_law_due"]) fun _ _ _ _ _ _ us hl => match us, hl with | [_, _], _ => rfl
  obtain ⟨f_words, d_words, F_words, m_words⟩ := A_words
  have b_words := F_words.binds (ps := ["_law_feed_here"]) fun _ _ _ _ _ _ us hl => match us, hl with | [_], _ => rfl
  obtain ⟨f_office, d_office, F_office, m_office⟩ := A_office
  have b_office := F_office.binds (ps := ["_law_feed_here"]) fun _ _ _ _ _ _ us hl => match us, hl with | [_], _ => rfl
  obtain ⟨f_runs, d_runs, F_runs, m_runs⟩ := A_runs
  have b_runs := F_runs.binds (ps := ["_law_notes"]) fun _ _ _ _ _ _ us hl => match us, hl with | [_], _ => rfl
  obtain ⟨f_nm, d_nm, F_nm, m_nm⟩ := A_nm
  have b_nm := F_nm.binds (ps := ["_law_feed_here"]) fun _ _ _ _ _ _ us hl => match us, hl with | [_], _ => rfl
  obtain ⟨f_went, d_went, F_went, m_went⟩ := A_went
  have b_went := F_went.binds (ps := ["_law_feed_here", "_law_office_here", "_law_there", "_law_bagged", "_law_fresh"]) fun _ _ _ _ _ _ us hl => match us, hl with | [_, _, _, _, _], _ => rfl
  obtain ⟨f_hist, d_hist, F_hist, m_hist⟩ := A_hist
  have b_hist := F_hist.binds (ps := ["_law_feed_here", "_law_office_here", "_law_most"]) fun _ _ _ _ _ _ us hl => match us, hl with | [_, _, _], _ => rfl
  obtain ⟨f_net, d_net, F_net, m_net⟩ := A_net
  have b_net := F_net.binds (ps := ["_law_pages", "_law_place", "_law_one", "_law_other"]) fun _ _ _ _ _ _ us hl => match us, hl with | [_, _, _, _], _ => rfl
  obtain ⟨f_isso, d_isso, F_isso, m_isso⟩ := A_isso
  have b_isso := F_isso.binds (ps := ["_law_book", "_law_out", "_law_place"]) fun _ _ _ _ _ _ us hl => match us, hl with | [_, _, _], _ => rfl
  obtain ⟨f_law, d_law, F_law, m_law⟩ := A_law
  have e := hfa.symm.trans m_law
  cases e
  have b_law : ∀ (s : Shared) (u : Value), BindsTo s d_law ⟨[u], []⟩ [("_law_script", u)] := by
    obtain ⟨oc, od, kV, doc, pm, an, cdv, ct, osl, rfl, lk, hcd⟩ := F_law.ex
    exact fun s u => .of_eq rfl
  refine ⟨d_law, b_law, fun base _ _ => ?_⟩
  have G_word : Nonempty (Dfn P w K mg base 1 "is_word" ["thing"] spWord) := ⟨⟨f_word, d_word, ok_word F_word T, m_word, F_word.kp, b_word⟩⟩
  obtain ⟨G_word⟩ := G_word
  have G_least : Nonempty (Dfn P w K mg base 1 "is_at_least" ["thing", "least"] spLeast) := ⟨⟨f_least, d_least, ok_least F_least T, m_least, F_least.kp, b_least⟩⟩
  obtain ⟨G_least⟩ := G_least
  have G_bounded : Nonempty (Dfn P w K mg base 2 "is_bounded" ["thing", "least", "most"] spBounded) := ⟨⟨f_bounded, d_bounded, ok_bounded F_bounded T G_least, m_bounded, F_bounded.kp, b_bounded⟩⟩
  obtain ⟨G_bounded⟩ := G_bounded
  have G_many : Nonempty (Dfn P w K mg base 1 "many_in" ["runs"] (spMany K)) := ⟨⟨f_many, d_many, ok_many F_many T, m_many, F_many.kp, b_many⟩⟩
  obtain ⟨G_many⟩ := G_many
  have G_name : Nonempty (Dfn P w K mg base 3 "is_name" ["thing"] spName) := ⟨⟨f_name, d_name, ok_name F_name T G_bounded G_word, m_name, F_name.kp, b_name⟩⟩
  obtain ⟨G_name⟩ := G_name
  have G_voided : Nonempty (Dfn P w K mg base 1 "voided" ["book"] spVoided) := ⟨⟨f_voided, d_voided, ok_voided F_voided T, m_voided, F_voided.kp, b_voided⟩⟩
  obtain ⟨G_voided⟩ := G_voided
  have G_bags : Nonempty (Dfn P w K mg base 2 "bags_in" ["book"] spBags) := ⟨⟨f_bags, d_bags, ok_bags F_bags T G_voided, m_bags, F_bags.kp, b_bags⟩⟩
  obtain ⟨G_bags⟩ := G_bags
  have G_counted : Nonempty (Dfn P w K mg base 3 "counted" ["book"] spCounted) := ⟨⟨f_counted, d_counted, ok_counted F_counted T G_voided G_bags, m_counted, F_counted.kp, b_counted⟩⟩
  obtain ⟨G_counted⟩ := G_counted
  have G_pages : Nonempty (Dfn P w K mg base 4 "counted_pages" ["book"] spPages) := ⟨⟨f_pages, d_pages, ok_pages F_pages T G_counted, m_pages, F_pages.kp, b_pages⟩⟩
  obtain ⟨G_pages⟩ := G_pages
  have G_brings : Nonempty (Dfn P w K mg base 2 "brings" ["deed", "place"] (spBrings K)) := ⟨⟨f_brings, d_brings, ok_brings F_brings T G_many, m_brings, F_brings.kp, b_brings⟩⟩
  obtain ⟨G_brings⟩ := G_brings
  have G_offs : Nonempty (Dfn P w K mg base 5 "offs" ["book", "place"] spOffs) := ⟨⟨f_offs, d_offs, ok_offs F_offs T G_pages G_brings, m_offs, F_offs.kp, b_offs⟩⟩
  obtain ⟨G_offs⟩ := G_offs
  have G_said : Nonempty (Dfn P w K mg base 1 "said" ["book", "name"] spSaid) := ⟨⟨f_said, d_said, ok_said F_said T, m_said, F_said.kp, b_said⟩⟩
  obtain ⟨G_said⟩ := G_said
  have G_offp : Nonempty (Dfn P w K mg base 5 "off_paper" ["book", "place", "one", "other"] spOffp) := ⟨⟨f_offp, d_offp, ok_offp F_offp T G_pages G_brings, m_offp, F_offp.kp, b_offp⟩⟩
  obtain ⟨G_offp⟩ := G_offp
  have G_part : Nonempty (Dfn P w K mg base 4 "is_part" ["thing"] spPart) := ⟨⟨f_part, d_part, ok_part F_part T G_name, m_part, F_part.kp, b_part⟩⟩
  obtain ⟨G_part⟩ := G_part
  have G_lets : Nonempty (Dfn P w K mg base 6 "lets_offs" ["book", "place", "one", "other", "thing"] spLets) := ⟨⟨f_lets, d_lets, ok_lets F_lets T G_part G_offp G_said, m_lets, F_lets.kp, b_lets⟩⟩
  obtain ⟨G_lets⟩ := G_lets
  have G_first : Nonempty (Dfn P w K mg base 6 "first_off" ["book", "place"] spFirst) := ⟨⟨f_first, d_first, ok_first F_first T G_offs, m_first, F_first.kp, b_first⟩⟩
  obtain ⟨G_first⟩ := G_first
  have G_feed : Nonempty (Dfn P w K mg base 1 "_law_feed" ["_law_script"] (spFeed K)) := ⟨⟨f_feed, d_feed, ok_feed F_feed T, m_feed, F_feed.kp, b_feed⟩⟩
  obtain ⟨G_feed⟩ := G_feed
  have G_draw : Nonempty (Dfn P w K mg base 1 "_law_draw" ["_law_feed_here", "_law_many"] spDraw) := ⟨⟨f_draw, d_draw, ok_draw F_draw T, m_draw, F_draw.kp, b_draw⟩⟩
  obtain ⟨G_draw⟩ := G_draw
  have G_same : Nonempty (DfnG P w K mg base 1 "_law_same" ["_law_found", "_law_due"] spSame) := ⟨⟨f_same, d_same, ok_same F_same T, m_same, F_same.kp, b_same⟩⟩
  obtain ⟨G_same⟩ := G_same
  have G_words : Nonempty (Dfn P w K mg base 2 "_law_words" ["_law_feed_here"] spWords) := ⟨⟨f_words, d_words, ok_words F_words T G_draw, m_words, F_words.kp, b_words⟩⟩
  obtain ⟨G_words⟩ := G_words
  have G_office : Nonempty (Dfn P w K mg base 3 "_law_office" ["_law_feed_here"] spOffice) := ⟨⟨f_office, d_office, ok_office F_office T G_draw G_words, m_office, F_office.kp, b_office⟩⟩
  obtain ⟨G_office⟩ := G_office
  have G_runs : Nonempty (Dfn P w K mg base 1 "_law_runs_of" ["_law_notes"] (spRuns K)) := ⟨⟨f_runs, d_runs, ok_runs F_runs T, m_runs, F_runs.kp, b_runs⟩⟩
  obtain ⟨G_runs⟩ := G_runs
  have G_nm : Nonempty (Dfn P w K mg base 2 "_law_name" ["_law_feed_here"] spNm) := ⟨⟨f_nm, d_nm, ok_nm F_nm T G_draw, m_nm, F_nm.kp, b_nm⟩⟩
  obtain ⟨G_nm⟩ := G_nm
  have G_went : Nonempty (Dfn P w K mg base 2 "_law_went" ["_law_feed_here", "_law_office_here", "_law_there", "_law_bagged", "_law_fresh"] spWent) := ⟨⟨f_went, d_went, ok_went F_went T G_draw G_runs, m_went, F_went.kp, b_went⟩⟩
  obtain ⟨G_went⟩ := G_went
  have G_hist : Nonempty (Dfn P w K mg base 3 "_law_history" ["_law_feed_here", "_law_office_here", "_law_most"] spHist) := ⟨⟨f_hist, d_hist, ok_hist F_hist T G_nm G_went, m_hist, F_hist.kp, b_hist⟩⟩
  obtain ⟨G_hist⟩ := G_hist
  have G_net : Nonempty (Dfn P w K mg base 1 "_law_net" ["_law_pages", "_law_place", "_law_one", "_law_other"] (spNet K)) := ⟨⟨f_net, d_net, ok_net F_net T, m_net, F_net.kp, b_net⟩⟩
  obtain ⟨G_net⟩ := G_net
  have G_isso : Nonempty (DfnG P w K mg base 7 "_law_is_so" ["_law_book", "_law_out", "_law_place"] (spIsSo K)) := ⟨⟨f_isso, d_isso, ok_isso F_isso T G_offs G_offp G_lets G_first G_net G_same, m_isso, F_isso.kp, b_isso⟩⟩
  obtain ⟨G_isso⟩ := G_isso
  exact ok_law F_law T G_feed G_draw G_office G_hist G_isso
end Pn
set_option maxHeartbeats 200000
open PySem PySem.W PyProof.Rows
set_option maxHeartbeats 0 in
theorem PySem.Challenge.cw_pressnotes_k75_whole_offs_and_moves_holds : PySem.Challenge.rw_pressnotes_k75_whole_offs_and_moves.Holds := by
  w_on; o_law; k_head; (case hw => w_witness2)
  k_fill
  refine Pn.walk_g (l := PySem.Challenge.rw_pressnotes_k75_whole_offs_and_moves) (n := 63) (k := 8) (x := "_law_script") (sp := fun K _ => Pn.spLaw K) rfl (by decide) rfl ⟨rfl, by decide, by decide⟩ (fun w h Y => PySem.W.kIn_of Y) ?F (fun w H a ns hl hS => ⟨a, ns, rfl, hS, fun _ => rfl⟩)
  case F =>
    intro w mg fa h KX G hmg
    refine' Pn.all_law KX G hmg ⟨PySem.W.mg_none_of KX G ?z0, PySem.W.mg_none_of KX G ?z1, PySem.W.mg_none_of KX G ?z2, PySem.W.mg_none_of KX G ?z3, PySem.W.mg_none_of KX G ?z4, PySem.W.mg_none_of KX G ?z5, PySem.W.mg_none_of KX G ?z6, PySem.W.mg_none_of KX G ?z7, PySem.W.mg_none_of KX G ?z8, PySem.W.mg_none_of KX G ?z9, PySem.W.mg_none_of KX G ?z10, PySem.W.mg_none_of KX G ?z11, PySem.W.mg_none_of KX G ?z12, PySem.W.mg_none_of KX G ?z13, (Pn.glo_str KX G ?y0), (Pn.glo_int KX G ?y1), (Pn.glo_int KX G ?y2), (Pn.glo_int KX G ?y3)⟩ (Pn.at_mk KX G ?a0 ?l0 ?c0 ?k0) (Pn.at_mk KX G ?a1 ?l1 ?c1 ?k1) (Pn.at_mk KX G ?a2 ?l2 ?c2 ?k2) (Pn.at_mk KX G ?a3 ?l3 ?c3 ?k3) (Pn.at_mk KX G ?a4 ?l4 ?c4 ?k4) (Pn.at_mk KX G ?a5 ?l5 ?c5 ?k5) (Pn.at_mk KX G ?a6 ?l6 ?c6 ?k6) (Pn.at_mk KX G ?a7 ?l7 ?c7 ?k7) (Pn.at_mk KX G ?a8 ?l8 ?c8 ?k8) (Pn.at_mk KX G ?a9 ?l9 ?c9 ?k9) (Pn.at_mk KX G ?a10 ?l10 ?c10 ?k10) (Pn.at_mk KX G ?a11 ?l11 ?c11 ?k11) (Pn.at_mk KX G ?a12 ?l12 ?c12 ?k12) (Pn.at_mk KX G ?a13 ?l13 ?c13 ?k13) (Pn.at_mk KX G ?a14 ?l14 ?c14 ?k14) (Pn.at_mk KX G ?a15 ?l15 ?c15 ?k15) (Pn.at_mk KX G ?a16 ?l16 ?c16 ?k16) (Pn.at_mk KX G ?a17 ?l17 ?c17 ?k17) (Pn.at_mk KX G ?a18 ?l18 ?c18 ?k18) (Pn.at_mk KX G ?a19 ?l19 ?c19 ?k19) (Pn.at_mk KX G ?a20 ?l20 ?c20 ?k20) (Pn.at_mk KX G ?a21 ?l21 ?c21 ?k21) (Pn.at_mk KX G ?a22 ?l22 ?c22 ?k22) (Pn.at_mk KX G ?a23 ?l23 ?c23 ?k23) (Pn.at_mk KX G ?a24 ?l24 ?c24 ?k24) (Pn.at_mk KX G ?a25 ?l25 ?c25 ?k25) (Pn.at_mk KX G ?a26 ?l26 ?c26 ?k26) (Pn.at_mk KX G ?a27 ?l27 ?c27 ?k27)
    (case z0 => k_is)
    (case z1 => k_is)
    (case z2 => k_is)
    (case z3 => k_is)
    (case z4 => k_is)
    (case z5 => k_is)
    (case z6 => k_is)
    (case z7 => k_is)
    (case z8 => k_is)
    (case z9 => k_is)
    (case z10 => k_is)
    (case z11 => k_is)
    (case z12 => k_is)
    (case z13 => k_is)
    (case y0 => k_is)
    (case y1 => k_is)
    (case y2 => k_is)
    (case y3 => k_is)
    (case a0 => k_is); (case l0 => k_is); (case c0 => k_is); (case k0 => k_is)
    (case a1 => k_is); (case l1 => k_is); (case c1 => k_is); (case k1 => k_is)
    (case a2 => k_is); (case l2 => k_is); (case c2 => k_is); (case k2 => k_is)
    (case a3 => k_is); (case l3 => k_is); (case c3 => k_is); (case k3 => k_is)
    (case a4 => k_is); (case l4 => k_is); (case c4 => k_is); (case k4 => k_is)
    (case a5 => k_is); (case l5 => k_is); (case c5 => k_is); (case k5 => k_is)
    (case a6 => k_is); (case l6 => k_is); (case c6 => k_is); (case k6 => k_is)
    (case a7 => k_is); (case l7 => k_is); (case c7 => k_is); (case k7 => k_is)
    (case a8 => k_is); (case l8 => k_is); (case c8 => k_is); (case k8 => k_is)
    (case a9 => k_is); (case l9 => k_is); (case c9 => k_is); (case k9 => k_is)
    (case a10 => k_is); (case l10 => k_is); (case c10 => k_is); (case k10 => k_is)
    (case a11 => k_is); (case l11 => k_is); (case c11 => k_is); (case k11 => k_is)
    (case a12 => k_is); (case l12 => k_is); (case c12 => k_is); (case k12 => k_is)
    (case a13 => k_is); (case l13 => k_is); (case c13 => k_is); (case k13 => k_is)
    (case a14 => k_is); (case l14 => k_is); (case c14 => k_is); (case k14 => k_is)
    (case a15 => k_is); (case l15 => k_is); (case c15 => k_is); (case k15 => k_is)
    (case a16 => k_is); (case l16 => k_is); (case c16 => k_is); (case k16 => k_is)
    (case a17 => k_is); (case l17 => k_is); (case c17 => k_is); (case k17 => k_is)
    (case a18 => k_is); (case l18 => k_is); (case c18 => k_is); (case k18 => k_is)
    (case a19 => k_is); (case l19 => k_is); (case c19 => k_is); (case k19 => k_is)
    (case a20 => k_is); (case l20 => k_is); (case c20 => k_is); (case k20 => k_is)
    (case a21 => k_is); (case l21 => k_is); (case c21 => k_is); (case k21 => k_is)
    (case a22 => k_is); (case l22 => k_is); (case c22 => k_is); (case k22 => k_is)
    (case a23 => k_is); (case l23 => k_is); (case c23 => k_is); (case k23 => k_is)
    (case a24 => k_is); (case l24 => k_is); (case c24 => k_is); (case k24 => k_is)
    (case a25 => k_is); (case l25 => k_is); (case c25 => k_is); (case k25 => k_is)
    (case a26 => k_is); (case l26 => k_is); (case c26 => k_is); (case k26 => k_is)
    (case a27 => k_is); (case l27 => k_is); (case c27 => k_is); (case k27 => k_is)
