import PyProof.Rows.All
import Wide.All
import OpenK.AllK
import Wide.FinOn
import PyProof.ReprRoads
import HandS.ForExc
import HandS.ForMost
import HandS.IsInst
import HandS.Zip
import HandS.Walk
import HandS.Ends
import KE.KExcSuper
import KE.KSuper
import HandS.ExcInit
import HandS.ExcIs
import HandS.ExcField
import HandS.TryMany
import KE.KExcIs
import KE.GoesEnum
import PyProof.WalkInts
import PyProof.WalksMore
import HandS.Star
import HandS.TupAny
import HandS.Deep
import HandS.DictSub
import HandS.ExcOwn
import PyProof.ReprLen
import PySem.Challenge.RW_suretrips_k88_whole_counts_and_who_lacks
set_option Elab.async false
set_option linter.all false
set_option maxRecDepth 100000
set_option maxHeartbeats 4000000
namespace K8
open PySem PySem.Spec PyProof.Rows L2

/-! ## data in the abstract heap, an empty dict among it -/
mutual
inductive Dq (K : PySem.W.Frag) (H : Hp) : V → PyData → Prop
  | non : Dq K H .non .none
  | bl (b : Bool) : Dq K H (.bl b) (.bool b)
  | int (i : Int) : Dq K H (.int i) (.int i)
  | str (x : Str) : Dq K H (.str x) (.str x)
  | lst {p : Addr} {vs : List V} {ds : List PyData} (h : SqL K H p vs) (r : DqAll K H vs ds) : Dq K H (.ref p) (.list ds)
  | tup {p : Addr} {vs : List V} {ds : List PyData} (h : SqT K H p vs) (r : DqAll K H vs ds) : Dq K H (.ref p) (.tuple ds)
  | dic {p : Addr} (h : H p = some (.dK [])) : Dq K H (.ref p) (.dict [])
inductive DqAll (K : PySem.W.Frag) (H : Hp) : List V → List PyData → Prop
  | nil : DqAll K H [] []
  | cons {v : V} {vs : List V} {d : PyData} {ds : List PyData} (h : Dq K H v d) (r : DqAll K H vs ds) : DqAll K H (v :: vs) (d :: ds)
end

theorem seqT_same {K : PySem.W.Frag} {H H' : Hp} {a : Addr} {xs : List V} (e : Same H H') (h : SqT K H a xs) : SqT K H' a xs := by
  rcases h with (h | ⟨o, h⟩) | h
  · exact .inl (.inl (e a _ h))
  · exact .inl (.inr ⟨o, e a _ h⟩)
  · exact .inr h

section
variable {K : PySem.W.Frag} {H H' : Hp}
mutual
theorem Dq.same (e : Same H H') : ∀ (d : PyData) (v : V), Dq K H v d → Dq K H' v d
  | .none, _, h => by cases h; exact .non
  | .bool b, _, h => by cases h; exact .bl b
  | .int i, _, h => by cases h; exact .int i
  | .str x, _, h => by cases h; exact .str x
  | .list ds, _, h => by
    cases h with
    | lst hs hr => exact .lst (e.seq hs) (DqAll.same e ds _ hr)
  | .tuple ds, _, h => by
    cases h with
    | tup hs hr => exact .tup (seqT_same e hs) (DqAll.same e ds _ hr)
  | .dict kvs, _, h => by
    cases h with
    | dic hd => exact .dic (e _ _ hd)
theorem DqAll.same (e : Same H H') : ∀ (ds : List PyData) (vs : List V), DqAll K H vs ds → DqAll K H' vs ds
  | [], _, h => by cases h; exact .nil
  | d :: ds, _, h => by
    cases h with
    | cons h1 h2 => exact .cons (Dq.same e d _ h1) (DqAll.same e ds _ h2)
end
theorem Dq.to (h : Dq K H v d) (e : Same H H') : Dq K H' v d := Dq.same e d v h
theorem DqAll.to (h : DqAll K H vs ds) (e : Same H H') : DqAll K H' vs ds := DqAll.same e ds vs h
theorem DqAll.len : ∀ {ds : List PyData} {vs : List V}, DqAll K H vs ds → vs.length = ds.length
  | [], _, h => by cases h; rfl
  | d :: ds, _, h => by
    cases h with
    | cons _ r => simp [DqAll.len r]
theorem DqAll.at : ∀ {ds : List PyData} {vs : List V} {i : Nat} {d : PyData}, DqAll K H vs ds → ds[i]? = some d → ∃ v, vs[i]? = some v ∧ Dq K H v d
  | [], _, _, _, _, e => by simp at e
  | x :: ds, _, 0, d, h, e => by
    cases h with
    | cons h1 _ =>
      have e' : x = d := by simpa using e
      subst e'
      exact ⟨_, rfl, h1⟩
  | x :: ds, _, i + 1, d, h, e => by
    cases h with
    | cons _ r =>
      obtain ⟨v, e1, h1⟩ := DqAll.at (i := i) r (by simpa using e)
      exact ⟨v, by simpa using e1, h1⟩
theorem DqAll.app : ∀ {ds es : List PyData} {vs ws : List V}, DqAll K H vs ds → DqAll K H ws es → DqAll K H (vs ++ ws) (ds ++ es)
  | [], _, _, _, h, k => by cases h; exact k
  | d :: ds, _, _, _, h, k => by
    cases h with
    | cons h1 r => exact .cons h1 (DqAll.app r k)
theorem DqAll.take : ∀ {ds : List PyData} {vs : List V} (n : Nat), DqAll K H vs ds → DqAll K H (vs.take n) (ds.take n)
  | _, _, 0, _ => by simp; exact .nil
  | [], _, n + 1, h => by cases h; exact .nil
  | d :: ds, _, n + 1, h => by
    cases h with
    | cons h1 r => exact .cons h1 (DqAll.take n r)
theorem DqAll.drop : ∀ {ds : List PyData} {vs : List V} (n : Nat), DqAll K H vs ds → DqAll K H (vs.drop n) (ds.drop n)
  | _, _, 0, h => by simpa using h
  | [], _, n + 1, h => by cases h; exact .nil
  | d :: ds, _, n + 1, h => by
    cases h with
    | cons h1 r => exact DqAll.drop n r
theorem dq_ints : ∀ ns : List Int, DqAll K H (ns.map V.int) (ns.map PyData.int)
  | [] => .nil
  | n :: r => .cons (.int n) (dq_ints r)
theorem dq_ints_inv : ∀ {ns : List Int} {vs : List V}, DqAll K H vs (ns.map PyData.int) → vs = ns.map V.int
  | [], _, h => by cases h; rfl
  | n :: r, _, h => by
    cases h with
    | cons h1 r' =>
      cases h1
      rw [dq_ints_inv r']
      rfl
theorem Dq.tupI (h : Dq K H v (.tuple ds)) : ∃ p vs, v = .ref p ∧ SqT K H p vs ∧ DqAll K H vs ds := by
  cases h with
  | tup h r => exact ⟨_, _, rfl, h, r⟩
theorem Dq.lstI (h : Dq K H v (.list ds)) : ∃ p vs, v = .ref p ∧ SqL K H p vs ∧ DqAll K H vs ds := by
  cases h with
  | lst h r => exact ⟨_, _, rfl, h, r⟩
theorem Dq.intI (h : Dq K H v (.int i)) : v = .int i := by cases h; rfl
theorem Dq.strI (h : Dq K H v (.str i)) : v = .str i := by cases h; rfl
/-- a new tuple, a new list -/
theorem Dq.newT {p : Addr} (h : DqAll K H vs ds) (np : H p = none) : Dq K (upd H p (.tup vs)) (.ref p) (.tuple ds) :=
  .tup (.inl (.inl upd_same)) (h.to fun b o e => by rw [upd_ne (ne_of_none e np)]; exact e)
theorem Dq.newL {p : Addr} (h : DqAll K H vs ds) (np : H p = none) : Dq K (upd H p (.lst vs)) (.ref p) (.list ds) :=
  .lst (.inl (.inl upd_same)) (h.to fun b o e => by rw [upd_ne (ne_of_none e np)]; exact e)
end
theorem same_new {H : Hp} {p : Addr} {o : HO} (h : H p = none) : Same H (upd H p o) := fun b x e => by
  rw [upd_ne (ne_of_none e h)]
  exact e

/-! ## repr of such data -/
section
variable {X : Cx} {pins : List (Addr × Obj)} {σ : L2.St} {H : Hp} {s : Shared}
/-- what is known of a value's text -/
def Texts (prog : Program) (w : World) (h : Heap) (u : Value) (d : PyData) : Prop :=
  ∃ as bs, Reads h u d as ∧ ReadAtMost h d.depth bs ∧ ReprK prog w bs h d.depth u d.shown
def TextsAll (prog : Program) (w : World) (h : Heap) (us : List Value) (ds : List PyData) : Prop :=
  ∃ as bs, ReadsAll h us ds as ∧ ReadAtMost h (PyData.depthAll ds) bs ∧ ReprAllK prog w bs h (PyData.depthAll ds) us (PyData.shownAll ds)
theorem dict_at (I : Inv X pins σ H s) {p : Addr} (h : H p = some (.dK [])) : (p == sysModules) = false ∧ ∃ o n, s.heap.get? p = some o ∧ o.cls = .type "dict" ∧ o.data = .dict #[] n := by
  obtain ⟨_, hS, vs, r, o, es, ep, e, c, hd, _, hes, _⟩ := (show ObjOk X.prog X.w H s.heap p (.dK []) from I.hok p _ h)
  cases r
  refine ⟨hS, o, ep, e, c.1, ?_⟩
  have e0 : es.toList = [] := by
    generalize es.toList = l at hes
    cases hes
    rfl
  have e1 : es = #[] := by simpa using e0
  rw [hd, e1]
mutual
theorem texts (I : Inv X pins σ H s) : ∀ (d : PyData) (v : V) (u : Value), Dq X.K H v d → RelV v u → d.showable = true → d.shown.length ≤ sizeLine → Texts X.prog X.w s.heap u d
  | .none, _, _, h, r, _, _ => by
    cases h
    cases r
    exact ⟨_, [], .none, fun _ z => (nomatch z), by simp only [PyData.shown]; exact .of_is ReprIs.none _ _ _⟩
  | .bool b, _, _, h, r, _, _ => by
    cases h
    cases r
    exact ⟨_, [], .bool b, fun _ z => (nomatch z), by simp only [PyData.shown]; exact .of_is (ReprIs.bool b) _ _ _⟩
  | .int i, _, _, h, r, hs, _ => by
    cases h
    obtain ⟨t, rfl⟩ := r
    exact ⟨_, [], .int i t, fun _ z => (nomatch z), by simp only [PyData.shown]; exact .of_is (ReprIs.int t (by simpa [PyData.showable] using hs)) _ _ _⟩
  | .str x, _, _, h, r, _, hz => by
    cases h
    obtain ⟨t, rfl⟩ := r
    exact ⟨_, [], .str x t, fun _ z => (nomatch z), by simp only [PyData.shown]; exact .of_is (ReprIs.str x t (by simpa only [PyData.shown] using hz)) _ _ _⟩
  | .list ds, _, _, h, r, hs, hz => by
    cases h with
    | @lst p vs _ hq hr =>
      cases r
      obtain ⟨its, rv, ⟨o, n, ho, hc, _, hd⟩, _⟩ := I.list hq
      have hz' : (listText (PyData.shownAll ds)).length ≤ sizeLine := by simpa only [PyData.shown] using hz
      obtain ⟨as, bs, h1, h2, h3⟩ := textsAll I ds _ its hr rv (by simpa [PyData.showable] using hs) fun t ht => Nat.le_trans (listText_mem_le ht) hz'
      have R : Reads s.heap (.ref p) (.list ds) _ := .list ho hc hd (by simpa using h1)
      have hna : p ∉ bs := not_mem_of_deeper R (by simp only [PyData.depth]; omega) h2
      refine ⟨_, p :: bs, R, ReadAtMost.cons R (by simp only [PyData.depth]; omega) h2, ?_⟩
      simp only [PyData.depth, PyData.shown]
      cases its with
      | nil =>
        cases h1
        simp only [PyData.shownAll, listText_nil]
        exact ReprK.listEmpty ho hc hd
      | cons x l => exact ReprK.list ho hc hd hna (by simpa using h3.length_eq) fun i y e => h3.item i y (by simpa using e)
  | .tuple ds, _, _, h, r, hs, hz => by
    cases h with
    | @tup p vs _ hq hr =>
      cases r
      obtain ⟨its, rv, ⟨o, ho, hc, n, hd⟩, _⟩ := I.tuple hq
      have hz' : (tupleText (PyData.shownAll ds)).length ≤ sizeLine := by simpa only [PyData.shown] using hz
      obtain ⟨as, bs, h1, h2, h3⟩ := textsAll I ds _ its hr rv (by simpa [PyData.showable] using hs) fun t ht => Nat.le_trans (tupleText_mem_le ht) hz'
      have R : Reads s.heap (.ref p) (.tuple ds) _ := .tuple ho hc hd (by simpa using h1)
      have hna : p ∉ bs := not_mem_of_deeper R (by simp only [PyData.depth]; omega) h2
      refine ⟨_, p :: bs, R, ReadAtMost.cons R (by simp only [PyData.depth]; omega) h2, ?_⟩
      simp only [PyData.depth, PyData.shown]
      exact ReprK.tuple ho hc hd hna (by simpa using h3)
  | .dict kvs, _, _, h, r, _, _ => by
    cases h with
    | @dic p hq =>
      cases r
      obtain ⟨hS, o, n, ho, hc, hd⟩ := dict_at I hq
      have R : Reads s.heap (.ref p) (.dict []) _ := .dict ho hc hd .nil .nil
      have h2 : ReadAtMost s.heap (PyData.depthKv []) [] := fun _ z => nomatch z
      refine ⟨_, [p], R, ReadAtMost.cons R (by simp only [PyData.depth]; omega) h2, ?_⟩
      simp only [PyData.depth, PyData.shown]
      exact ReprK.dict ho hc hd hS (fun z => nomatch z) .nil
theorem textsAll (I : Inv X pins σ H s) : ∀ (ds : List PyData) (vs : List V) (us : List Value), DqAll X.K H vs ds → Vals vs us → PyData.showableAll ds = true → (∀ t ∈ PyData.shownAll ds, t.length ≤ sizeLine) → TextsAll X.prog X.w s.heap us ds
  | [], _, _, h, r, _, _ => by
    cases h
    cases r
    exact ⟨_, [], .nil, fun _ z => (nomatch z), by simp only [PyData.shownAll]; exact .nil⟩
  | d :: ds, _, _, h, r, hs, hz => by
    cases h with
    | cons h1 h2 =>
      cases r with
      | cons r1 r2 =>
        have hs' : d.showable = true ∧ PyData.showableAll ds = true := by simpa [PyData.showableAll] using hs
        obtain ⟨a1, b1, q1, w1, k1⟩ := texts I d _ _ h1 r1 hs'.1 (hz _ (by simp only [PyData.shownAll]; exact List.mem_cons_self ..))
        obtain ⟨a2, b2, q2, w2, k2⟩ := textsAll I ds _ _ h2 r2 hs'.2 fun t ht => hz t (by simp only [PyData.shownAll]; exact List.mem_cons_of_mem _ ht)
        refine ⟨_, b1 ++ b2, .cons q1 q2, ?_, ?_⟩
        · simp only [PyData.depthAll]
          exact (w1.mono (Nat.le_max_left _ _)).append (w2.mono (Nat.le_max_right _ _))
        · simp only [PyData.depthAll, PyData.shownAll]
          exact .cons ((k1.more fun b hb => List.mem_append_left _ hb).level_le (Nat.le_max_left _ _)) (k2.more_le (fun b hb => List.mem_append_right _ hb) (Nat.le_max_right _ _))
end
/-- data that repr takes -/
def Shows (d : PyData) : Prop := d.showable = true ∧ d.shown.length ≤ sizeLine ∧ d.depth ≤ 20 ∧ ∀ kvs, d ≠ .dict kvs
def rRepr (K : PySem.W.Frag) : List V → Hp → VK → Prop := fun xs H Q => ∃ v d, xs = [v] ∧ Dq K H v d ∧ Shows d ∧ Q (.str d.shown) H
theorem call_repr (hg : X.A.guards = some []) (hu : X.A.units + 64 < cLine) : CallR X (.builtin "repr") (rRepr X.K) := by
  intro pins s σ H xs us Q I r h
  obtain ⟨v, d, rfl, hd, ⟨hs, hz, hdp, hnd⟩, q⟩ := h
  obtain ⟨u, rfl, ru⟩ := vals1 r
  cases d with
  | none =>
    cases hd
    cases ru
    simp only [PyData.shown] at q
    exact PySem.P.repr_of_none ⟨.str _, H, I.tok _, ⟨_, rfl⟩, q⟩
  | bool b =>
    cases hd
    cases ru
    simp only [PyData.shown] at q
    exact PySem.P.repr_of_bool ⟨.str _, H, I.tok _, ⟨_, rfl⟩, q⟩
  | int i =>
    cases hd
    obtain ⟨t, rfl⟩ := ru
    simp only [PyData.shown] at q
    exact PySem.P.repr_of_int (by simpa [PyData.showable] using hs) ⟨.str _, H, I.tok _, ⟨_, rfl⟩, q⟩
  | str x =>
    cases hd
    obtain ⟨t, rfl⟩ := ru
    simp only [PyData.shown] at q hz
    exact PySem.P.repr_of_str ⟨.str _, H, I.tok _, ⟨_, rfl⟩, q⟩ hz
  | list ds =>
    cases hd with
    | @lst p vs _ hq hr =>
      cases ru
      obtain ⟨its, rv, ⟨o, n, ho, hc, _, hd⟩, _⟩ := I.list hq
      have hz' : (listText (PyData.shownAll ds)).length ≤ sizeLine := by simpa only [PyData.shown] using hz
      obtain ⟨as, bs, h1, h2, h3⟩ := textsAll I ds _ its hr rv (by simpa [PyData.showable] using hs) fun t ht => Nat.le_trans (listText_mem_le ht) hz'
      have R : Reads s.heap (.ref p) (.list ds) _ := .list ho hc hd (by simpa using h1)
      have hna : p ∉ bs := not_mem_of_deeper R (by simp only [PyData.depth]; omega) h2
      simp only [PyData.depth] at hdp
      simp only [PyData.shown] at q
      refine call_repr_slot (by omega) ⟨o, ho, hc⟩ F.slot_list_repr.toG ?_
      cases its with
      | nil =>
        cases h1
        simp only [PyData.shownAll, listText_nil] at q
        exact call_list_repr_empty ⟨o, ho, hc⟩ ho hd ⟨_, _, rfl, ⟨.str _, H, I.tok _, ⟨_, rfl⟩, q⟩⟩
      | cons x l =>
        exact call_list_reprK ho hc hd hna (by simpa using h3.length_eq) (fun i y e => h3.item i y (by simpa using e)) (show X.A.in1.guards = some [] from hg) (fun b _ => Clear.nil b)
          (by show X.A.units + 1 + _ < cLine; omega) (fun _ _ e => e) (fun h' u tk hk => ⟨_, _, rfl, ⟨.str _, H, I.kept (t' := tk) hk, ⟨_, rfl⟩, q⟩⟩) hz'
  | tuple ds =>
    cases hd with
    | @tup p vs _ hq hr =>
      cases ru
      obtain ⟨its, rv, ⟨o, ho, hc, n, hd⟩, _⟩ := I.tuple hq
      have hz' : (tupleText (PyData.shownAll ds)).length ≤ sizeLine := by simpa only [PyData.shown] using hz
      obtain ⟨as, bs, h1, h2, h3⟩ := textsAll I ds _ its hr rv (by simpa [PyData.showable] using hs) fun t ht => Nat.le_trans (tupleText_mem_le ht) hz'
      have R : Reads s.heap (.ref p) (.tuple ds) _ := .tuple ho hc hd (by simpa using h1)
      have hna : p ∉ bs := not_mem_of_deeper R (by simp only [PyData.depth]; omega) h2
      simp only [PyData.depth] at hdp
      simp only [PyData.shown] at q
      refine call_repr_slot (by omega) ⟨o, ho, hc⟩ F.slot_tuple_repr ?_
      exact call_tuple_reprK ho hc hd hna (by simpa using h3) (show X.A.in1.guards = some [] from hg) (fun b _ => Clear.nil b)
        (by show X.A.units + 1 + _ < cLine; omega) (fun _ _ e => e) (fun h' u tk hk => ⟨_, _, rfl, ⟨.str _, H, I.kept (t' := tk) hk, ⟨_, rfl⟩, q⟩⟩) hz'
  | dict kvs => exact absurd rfl (hnd kvs)
end
end K8

namespace K8
open PySem PySem.Spec PyProof.Rows L2

/-! ## defs that are entered where no repr is under way -/
/-- FnOk's promise for such calls alone; no exception leaves -/
structure FnG (P : Program) (w : World) (K : PySem.W.Frag) (mg : Str → Option Value) (base : Heap) (k : Nat) (f : Addr) (fd : FuncData) (ps : List Str) (sp : Sp) : Prop where
  many : ∀ vs H Q E, sp vs H Q E → vs.length = ps.length
  goes : ∀ (A : Around) (outer : List Env) (s : Shared) (H : Hp) (args : Args) (us : List Value) (vs : List V) (Q : VK) (E : XK), A.guards = some [] → Room k A → Env0 P w K mg base A outer s H →
    BindsTo s fd args (ps.zip us) → Vals vs us → sp vs H Q E → codeAny (model P w) A (.call (.ref f) args) (CR CX0 outer P w H s Q E) s

section
variable {P : Program} {w : World} {K : PySem.W.Frag} {mg : Str → Option Value} {base : Heap}
theorem FnG.mk' {x qual : Str} {st : Stmt} {f : Addr} {fd : FuncData} {N ps : List Str} {k : Nat} {sp : Sp} (F : Fun K x qual st f fd) (S : FnScope N ps (defScope st)) (many : ∀ vs H Q E, sp vs H Q E → vs.length = ps.length)
    (inner : ∀ (cdv : Value) (A : Around) (outer : List Env) (s : Shared) (H : Hp) (vs : List V) (Q : VK) (E : XK), A.guards = some [] → Room k (A.deeper (envOfC qual (defScope st) s.heap.objs.size f cdv)) → sp vs H Q E →
      ∃ t, PSs (cxOf CX0 P w K mg base N qual (defScope st) f cdv A outer s H E).nox (defBody st) t ∧ t { nx := fun _ H' => Q .non H', rt := Q } (start N vs) H) : FnG P w K mg base (k + 1) f fd ps sp := by
  obtain ⟨oc, od, kV, doc, pm, an, cdv, ct, osl, rfl, lk, hcd⟩ := F.ex
  constructor
  · exact many
  intro A outer s H args us vs Q E hgu room e0 bnd rel asked
  have KS : K.In s.heap := e0.mod.kin.keeps fun b o e => (e0.bs b o e).1
  have kinds : ∀ y ∈ ps.zip us, (defScope st).names.lookup y.1 = some .local ∨ ((defScope st).names.lookup y.1 = some .cell ∧
      ((cellsFrom (s.heap.objs.size + 1) (defScope st).names []).lookup y.1).isSome = true) := by
    intro y hy
    have hm := (List.of_mem_zip hy).1
    rcases S.par y.1 hm with q | q
    · exact .inl q
    · exact .inr ⟨q, PySem.W.cellsFrom_some _ _ _ (.inl q)⟩
  apply codeAny_call_function room.depth (KS _ _ lk) rfl S.co S.gen rfl (PySem.W.codeRec_of KS hcd)
  apply bnd
  apply wpAny_newFunctionEnv_cells S.kind kinds
  intro env he s1 ic
  subst he
  constructor
  · exact (e0.mod.nolimit.keeps fun b o e => (e0.bs b o e).1).keeps ic.toInCall.keep
  apply codeAny_func
  obtain ⟨t, ht, hq⟩ := inner cdv A outer s H vs Q E hgu (room.deeper _) asked
  have I0 := inv_start (CX := CX0) (mg := mg) (w := w) (E := E) S room.hd e0 (many _ _ _ _ asked) rel ic
  apply wpAny_mono ((ht.nox).run [] s1 (start N vs) H _ I0 hq)
  · intro fl s' hs
    cases fl with
    | ret u =>
      obtain ⟨v, σ', H', J, rv, q⟩ := hs
      exact ⟨v, H', J.os, J.bare, J.base, J.hok, rv, q⟩
    | next =>
      obtain ⟨σ', H', J, q⟩ := hs
      exact ⟨.non, H', J.os, J.bare, J.base, J.hok, rfl, q⟩
    | brk =>
      obtain ⟨_, _, _, q⟩ := hs
      cases q
    | cont =>
      obtain ⟨_, _, _, q⟩ := hs
      cases q
  · intro e s' he
    exact he
end

section
variable {X : Cx} {k : Nat} {f : Addr} {fd : FuncData} {ps : List Str} {sp : Sp} {x : Str} {p pos : Pos} {e : Expr} {es : List Expr} {t : TA}
/-- f(..) of such a def -/
theorem pe_callG (G : FnG X.prog X.w X.K X.mg X.base k f fd ps sp) (hgu : X.A.guards = some []) (room : Room k X.A) (hg : Gl X x) (hm : X.mg x = some (.ref f)) (kp : PySem.W.keepIn X.K (.ref f) = true) (hb : Binds X.K fd ps [])
    (ha : PA X (e :: es) t) (hdb : (x == ("__debug__" : Str)) = false := by decide) (he : starEach (e :: es) X.env = (false, eval e X.env) :: starEach es X.env := by rfl) (hpl : (backTo pos (starEach es X.env)).any (·.1) = false := by rfl) :
    PE X (.Call (.Name x p) (e :: es) [] pos) (tCall sp [] E0 t) := by
  constructor
  intro pins s σ H Q I h
  apply wpAny_Call_Name_kw
  apply ld_glob I hg hm _ hdb
  refine PySem.W.callWith_K (h₀ := X.base) I.ok.mod.kin kp (thn (ha.run pos pins s σ H _ I h) ?_) he hpl
  intro us s1 ⟨vs, H1, I1, rel, q⟩
  refine ⟨I1.kIn, ?_⟩
  have q : sp (vs ++ []) H1 Q E0 := q
  rw [List.append_nil] at q
  have hlen : us.length = ps.length := by
    rw [← rel.length]
    exact G.many _ _ _ _ q
  have hbs := hb s1 us I1.kIn (by rw [List.append_nil]; exact hlen)
  rw [List.append_nil] at hbs
  apply wpAny_call
  apply codeAny_mono (G.goes X.A X.stack s1 H1 ⟨us, []⟩ us vs Q E0 hgu room I1.env0 hbs rel q)
  intro r s' hr
  cases r with
  | error e => cases hr
  | ok fl =>
    cases fl with
    | ret u => exact I1.after hr
    | next => cases hr
    | brk => cases hr
    | cont => cases hr
end

/-! ## the end: the law's own call -/
section
variable {P : Program} {w : World} {K : PySem.W.Frag} {mg mb : Str → Option Value} {k : Nat} {fa a : Addr} {fd : FuncData} {x : Str} {sp : Sp} {s₁ : Shared} {vs : List Value} {ns : List Int}
/-- the call, from a heap in which the script alone is tracked, or nothing -/
theorem law_from (H : Hp) (hH : ∀ b, H b = none ∨ (b = a ∧ H b = some (.frz { cls := .type "list", data := .seq vs.toArray } (.lst (ns.map V.int))))) (hHK : H a ≠ none → K.lookup a = none)
    (KX : K.In s₁.heap) (hns : s₁.heap.Ns mainGlobals mg) (hb : s₁.heap.Ns builtinsNs mb) (hbb : ∀ x : Str, x ≠ "__name__" → mb x = bootBuiltins x) (hlim : s₁.heap.NoLimit) (hg : s₁.gens = #[])
    (ha : s₁.heap.get? a = some { cls := .type "list", data := .seq vs.toArray }) (hok : HOk P w H s₁.heap) (room : Room k callerA)
    (F : ∀ base : Heap, K.In base → base.Ns mainGlobals mg → FnG P w K mg base k fa fd [x] sp) (hbind : ∀ (s : Shared) (u : Value), BindsTo s fd ⟨[u], []⟩ [(x, u)])
    (hsp : sp [.ref a] H (fun v _ => v = .bl true) E0) :
    codeAny (model P w) callerA (.call (.ref fa) ⟨[.ref a], []⟩) (fun r s' => r = .ok (.ret (.bool true)) ∧ OldK s₁.heap s'.heap ∧ s'.os = s₁.os ∧ AllBare s'.gens) s₁ := by
  have list_only : ∀ b o, s₁.heap.get? b = some o → H b ≠ none → o = { cls := .type "list", data := .seq vs.toArray } := by
    intro b o e n
    rcases hH b with z | ⟨z, _⟩
    · exact absurd z n
    · rw [z, ha] at e
      exact (Option.some.inj e).symm
  have off : ∀ b, (∀ o, s₁.heap.get? b = some o → o.data ≠ .seq vs.toArray 0) → ∀ o, s₁.heap.get? b = some o → H b = none := by
    intro b n o e
    apply Classical.byContradiction
    intro z
    have y := list_only b o e z
    rw [y] at e
    exact n _ e rfl
  have nsB : ∀ {b : Addr} {m : Str → Option Value}, s₁.heap.Ns b m → (hidT s₁.heap H).Ns b m := by
    rintro b m ⟨o, es, ep, e, d, r⟩
    refine ⟨o, es, ep, hidT_get e (off b (fun o' e' z => ?_) o e), d, r⟩
    rw [e] at e'
    cases e'
    rw [d] at z
    cases z
  have KB : K.In (hidT s₁.heap H) := by
    intro b o e
    refine hidT_get (KX b o e) ?_
    rcases hH b with z | ⟨z, z'⟩
    · exact z
    · rw [z] at e z'
      rw [hHK (by rw [z']; exact Option.some_ne_none _)] at e
      cases e
  have M : Mod K mg (hidT s₁.heap H) := by
    obtain ⟨mc, h1, h2⟩ := hlim
    exact ⟨KB, nsB hns, ⟨mb, nsB hb, hbb⟩, ⟨mc, nsB h1, h2⟩⟩
  have e0 : Env0 P w K mg (hidT s₁.heap H) callerA [] s₁ H := by
    constructor
    · rfl
    · exact M
    · intro b o e
      exact of_hidT e
    · exact Nat.le_of_eq (hidT_size _ _)
    · trivial
    · intro b z
      exact absurd (show b ∈ ([] : List Addr) from z) List.not_mem_nil
    · exact hok
    · exact .of_eq hg
  refine codeAny_mono ((F _ KB (nsB hns)).goes callerA [] s₁ H ⟨[.ref a], []⟩ [.ref a] [.ref a] _ E0 rfl room e0 (hbind s₁ (.ref a)) (.cons rfl .nil) hsp) ?_
  intro r s' h
  cases r with
  | error e => cases h
  | ok fl =>
    cases fl with
    | next => cases h
    | brk => cases h
    | cont => cases h
    | ret u =>
      obtain ⟨v, H', os, bare, un, hok', rel, q⟩ := h
      obtain rfl : v = .bl true := q
      cases rel
      refine ⟨rfl, OldK.of_keep ?_, os, bare⟩
      intro b o e
      rcases hH b with z | ⟨_, z⟩
      · exact un.keep b o e z (fun y => absurd (show b ∈ ([] : List Addr) from y) List.not_mem_nil) List.not_mem_nil
      · obtain ⟨g1, _⟩ := hok b _ z
        obtain ⟨g2, _⟩ := hok' b _ (un.frzs b _ _ z)
        rw [e] at g1
        cases g1
        exact g2
theorem law_callG (KX : K.In s₁.heap) (hns : s₁.heap.Ns mainGlobals mg) (hb : s₁.heap.Ns builtinsNs mb) (hbb : ∀ x : Str, x ≠ "__name__" → mb x = bootBuiltins x) (hlim : s₁.heap.NoLimit) (hg : s₁.gens = #[])
    (ha : s₁.heap.get? a = some { cls := .type "list", data := .seq vs.toArray }) (hi : IntsAre vs ns) (hl : ns.length ≤ sizeLine) (room : Room k callerA)
    (F : ∀ base : Heap, K.In base → base.Ns mainGlobals mg → FnG P w K mg base k fa fd [x] sp) (hbind : ∀ (s : Shared) (u : Value), BindsTo s fd ⟨[u], []⟩ [(x, u)])
    (hsp : ∀ H : Hp, SqL K H a (ns.map V.int) → sp [.ref a] H (fun v _ => v = .bl true) E0) :
    codeAny (model P w) callerA (.call (.ref fa) ⟨[.ref a], []⟩) (fun r s' => r = .ok (.ret (.bool true)) ∧ OldK s₁.heap s'.heap ∧ s'.os = s₁.os ∧ AllBare s'.gens) s₁ := by
  have rel := vals_ints hi
  cases hk : K.lookup a with
  | some o =>
    have e := KX a o hk
    rw [ha] at e
    cases e
    have hS : SqL K (fun _ => none) a (ns.map V.int) := by
      refine .inr ⟨_, vs.toArray, _, hk, rfl, rfl, rfl, ?_, ?_⟩
      · rw [List.size_toArray, hi.length]
        exact hl
      · simpa using rel
    refine law_from (ns := ns) (fun _ => none) (fun _ => .inl rfl) (fun z => absurd rfl z) KX hns hb hbb hlim hg ha ?_ room F hbind (hsp _ hS)
    intro b u z
    cases z
  | none =>
    have at_ : ∀ b, (if b = a then some (HO.frz { cls := .type "list", data := .seq vs.toArray } (.lst (ns.map V.int))) else none) = none ∨
        (b = a ∧ (if b = a then some (HO.frz { cls := .type "list", data := .seq vs.toArray } (.lst (ns.map V.int))) else none) = some (.frz { cls := .type "list", data := .seq vs.toArray } (.lst (ns.map V.int)))) := by
      intro b
      by_cases z : b = a
      · exact .inr ⟨z, if_pos z⟩
      · exact .inl (if_neg z)
    refine law_from (fun b => if b = a then some (.frz { cls := .type "list", data := .seq vs.toArray } (.lst (ns.map V.int))) else none) at_ (fun _ => hk) KX hns hb hbb hlim hg ha ?_ room F hbind
      (hsp _ (.inl (.inr ⟨_, if_pos rfl⟩)))
    intro b u z
    by_cases y : b = a
    · have z' := (if_pos y).symm.trans z
      cases z'
      subst y
      refine ⟨ha, ?_, vs, _, rel, ha⟩
      rw [List.length_map]
      exact hl
    · have z' := (if_neg y).symm.trans z
      cases z'
end
/-- the goal that k_head leaves; XP says what the loose names hold -/
theorem walk_ofG {l : PySem.W.OpenLaw} {n k : Nat} {q : Program} {loose : List Str} {XP : (Str → Option Value) → Heap → Prop} {YP : World → Heap → Prop} {d : DefRec} {K : Params → PySem.W.Frag} {sp : World → Sp} {x : Str}
    (hn : l.most = some n) (hn2 : n ≤ sizeLine) (hdf : d.params.defaults = []) (room : Room k callerA) (hY : ∀ (w : World) (h : Heap), YP w h → (K w.params).In h)
    (F : ∀ (w : World) (mg : Str → Option Value) (fa : Addr) (h : Heap), (K w.params).In h → h.Ns mainGlobals mg → XP mg h → mg d.name = some (.ref fa) →
      ∃ fd : FuncData, (∀ (s : Shared) (u : Value), BindsTo s fd ⟨[u], []⟩ [(x, u)]) ∧ ∀ base : Heap, (K w.params).In base → base.Ns mainGlobals mg → FnG l.prog w (K w.params) mg base k fa fd [x] (sp w))
    (hsp : ∀ (w : World) (H : Hp) (a : Addr) (ns : List Int), ns.length ≤ n → SqL (K w.params) H a (ns.map V.int) → sp w [.ref a] H (fun v _ => v = .bl true) E0) :
    PySem.W.WalkO q loose XP YP l.row.toRowW d [] (fun f vs => PySem.call f vs) := by
  apply Att.attach_call hn hdf
  intro w s₀ s₁ mg mb fa o pm cd doc a vs ns G Y ho hd hcd hmg hobj hints hlen hg
  have KX := hY w _ Y
  obtain ⟨fd, hb, hF⟩ := F w mg fa _ KX G.T.g G.X hmg
  exact law_callG KX G.T.g G.T.b G.T.builtins G.T.nolimit hg hobj hints (Nat.le_trans hlen hn2) room hF hb fun H hS => hsp w H a ns hlen hS
end K8

namespace K8
open PySem PySem.Spec PyProof.Rows L2

/-! ## an exception class whose __init__ says super().__init__(text) and stores its argument -/
section
open PySem.W PySem.Calls
variable {prog : Program} {w : World} {A : Around} {E : Value → Shared → Prop} {R : Result → Shared → Prop} {K : PySem.W.Frag}

/-- the method-wrapper of ValueError.__init__, called with one argument -/
theorem bound_init {hp : Heap} {g : Array GenState} {d : Drawn} {t : Nat} {os : OsState} {nm q : Str} {C N u e t0 : Addr} {bs bm : List Value} {hdct : Bool} {sn : List Str} {sub : List Value} {ab : Bool} {col : Option Bool} {dd : Option Addr} {k0 k1 k2 k3 k5 : Option Value}
    {rest : List Value} {Q : Value → Shared → Prop} (hC : hp.get? C = some (excClassObj nm q C N bs bm hdct sn sub ab col dd k0 k1 k2 k3 k5 "ValueError.__new__"))
    (he : hp.get? e = some (PySem.HandSPX.excO C t0)) (hu : hp.get? u = some (kxs_mw "ValueError.__init__" e)) (hz : rest.length ≤ sizeLine)
    (hq : ∀ h' t1, (∀ b o, b ≠ e → hp.get? b = some o → h'.get? b = some o) → h'.get? e = some (PySem.HandSPX.excO C t1) → Q .none ⟨h', g, d, t, os⟩) :
    wpAny (model prog w) A (call (.ref u) rest) Q E ⟨hp, g, d, t, os⟩ := by
  have FB := PySem.F.excBase_ValueError
  refine wpAny_call (codeAny_of_tree ?_)
  show wpAny _ A.in1 (callAny (.ref u) ⟨rest, []⟩) _ _ _
  unfold callAny
  refine wpAny_bind (wpAny_load hu ?_)
  have y1 : (Value.type "method-wrapper" == Value.type "method" || Value.type "method-wrapper" == Value.type "builtin_function_or_method" || Value.type "method-wrapper" == Value.type "method-wrapper") = true := by decide
  simp only [kxs_mw, y1, if_true]
  refine KFB.if_so (by decide) ?_
  refine wpAny_bind (check_bound_init FB.toExcCallFacts hC he rfl ?_)
  refine wpAny_bind (wpAny_pure (wpAny_pure ?_))
  refine ⟨plainId_quiet FB.init.plain _, codeAny_builtin FB.initEntry ?_⟩
  exact exc_init_tree (cls := .ref C) (dv := none) (c2 := .none) (c3 := .none) (b4 := .bool false) he hz fun h' k e' _ => hq h' _ k e'

/-- what the written part says of the class at C with its __init__ at f -/
structure IniC (K : PySem.W.Frag) (prog : Program) (C f cc cda : Addr) (fld : Str) : Prop where
  cls : OexC K C
  sup : ks_superIn K C C "__init__" = some (some (.builtin "ValueError.__init__"))
  self : mroIn K C (.ref C) = some true
  isV : subIn K (.ref C) (.type "ValueError") = some true
  opq : nsIn K cStatics "thirdparty.any" = some none
  no : PySem.W.findIn K (.ref C) fld = some none
  cell : ∃ cl cld csl, K.lookup cc = some ⟨cl, cld, .cell (some (.ref C)), csl⟩
  code : ∃ ccl cdd vs ccs file tf, K.lookup cda = some ⟨ccl, cdd, .fields vs, ccs⟩ ∧ vs[2]? = some (.str file tf) ∧ ((prog.main.file : Str) == file) = true

abbrev iniScope (fld : Str) : Scope :=
  { kind := ScopeKind.function, names := [(("self" : Str), NameKind.local), (fld, NameKind.local), (("__class__" : Str), NameKind.free), (("super" : Str), NameKind.globalImplicit)], isGenerator := false, isCoroutine := false, more := [] }
theorem init_raw {C f cc cda e t0 : Addr} {fld qual msg : Str} {params : Arguments} {kV doc pm ct oc : Value} {an od : Option Addr} {osl : Array (Option Value)} {p0 p1 p2 p3 p4 p5 q0 q1 q2 q3 : Pos}
    {args : Args} {v : Value} {s : Shared} {mg mb : Str → Option Value} {j : Nat}
    (c : IniC K prog C f cc cda fld) (X : K.In s.heap) (lim : s.heap.NoLimit) (hg : s.heap.Ns mainGlobals mg) (hb : s.heap.Ns builtinsNs mb) (hbb : ∀ x : Str, x ≠ "__name__" → mb x = bootBuiltins x) (mS : mg "super" = none)
    (htop : (prog.main.scope.names.lookup ("super" : Str)).isSome = false)
    (hf : K.lookup f = some ⟨oc, od, .func (ksFn "__init__" qual params [.Expr (.Call (.Attribute (.Call (.Name "super" p0) [] [] p1) "__init__" p2) [.Constant (.str msg) j p3] [] p4) p5, .Assign [.Attribute (.Name "self" q0) fld q1] (.Name fld q2) q3] (iniScope fld) .none kV doc pm an (.ref cda) ct cc), osl⟩)
    (hcd : codeIn K (.ref cda) qual = true)
    (hbind : BindsTo s (ksFn "__init__" qual params [.Expr (.Call (.Attribute (.Call (.Name "super" p0) [] [] p1) "__init__" p2) [.Constant (.str msg) j p3] [] p4) p5, .Assign [.Attribute (.Name "self" q0) fld q1] (.Name fld q2) q3] (iniScope fld) .none kV doc pm an (.ref cda) ct cc) args [("self", .ref e), (fld, v)])
    (room : A.depth < recursionLimit) {ar : Arg} (hpar : (params.posonlyargs ++ params.args).head? = some ar) (har : ar.arg = "self")
    (n1 : (("self" : Str) == fld) = false) (n2 : (fld == ("self" : Str)) = false) (n3 : (("__class__" : Str) == fld) = false) (n4 : (("super" : Str) == fld) = false) (n5 : (fld == ("__debug__" : Str)) = false)
    {pl : Env → Sem Bool} (hev : ∀ env : Env, eval (.Call (.Attribute (.Call (.Name "super" p0) [] [] p1) "__init__" p2) [.Constant (.str msg) j p3] [] p4) env = (do
      let ov ← attributeBase (.Call (.Name "super" p0) [] [] p1) "__init__" env (eval (.Call (.Name "super" p0) [] [] p1) env)
      standAt p2.atName
      let (f, first) ← holding [ov] (getMethod ov "__init__" (pl env))
      callWith p4 f first (backTo p4 (starEach [.Constant (.str msg) j p3] env)) []))
    (hsw : ∀ env : Env, swapsWith (.Name fld q2) (some (.Attribute (.Name "self" q0) fld q1)) q3.line env = pure false)
    (KC : K.lookup e = none) (he : s.heap.get? e = some (PySem.HandSPX.excO C t0))
    (hq : ∀ h' tk dx t1, (∀ b o, b ≠ e → s.heap.get? b = some o → h'.get? b = some o) → s.heap.objs.size ≤ dx → dx ≠ e → h'.get? e = some { cls := .ref C, dict := some dx, data := .fields #[.ref t1, .none, .none, .none, .bool false, .none] } →
      h'.Ns1 dx (fun y => if y = fld then some v else none) → R (.ok (.ret .none)) { s with heap := h', toks := tk }) :
    codeAny (model prog w) A (.call (.ref f) args) R s := by
  obtain ⟨nm, qq, N, bs, bm, sn, sub, ab, col, dd, k0, k1, k2, k3, k5, hC, hbm⟩ := c.cls.cls
  obtain ⟨cl, cld, csl, hcell⟩ := c.cell
  obtain ⟨ccl, cdd, vs, ccs, file, tf, hcode, hvs, hfile⟩ := c.code
  have hcl : PySem.W.clsIn K C = some { name := nm, bases := bs, mro := .ref C :: bm, ns := N, qualname := qq, hasDict := true, slotNames := sn, subclasses := sub, abstract := ab, collection := col, hasDel := false } := by
    unfold PySem.W.clsIn
    rw [hC]
    all_goals rfl
  have l1 : (iniScope fld).names.lookup ("self" : Str) = some .local := rfl
  have l2 : (iniScope fld).names.lookup fld = some .local := by
    simp [List.lookup, n2]
  have l3 : (iniScope fld).names.lookup ("__class__" : Str) = some .free := by
    simp only [List.lookup, n3]
    rfl
  have l4 : (iniScope fld).names.lookup ("super" : Str) = some .globalImplicit := by
    simp only [List.lookup, n4]
    rfl
  refine ks_codeAny_call_defAt room (X _ _ hf) rfl lim (codeRec_of X hcd) rfl hbind ?_ ?_ ?_
  · intro x hx
    have hx : x ∈ (iniScope fld).names := hx
    simp only [List.mem_cons, List.not_mem_nil, or_false] at hx
    rcases hx with rfl | rfl | rfl | rfl <;> simp
  · intro x hx
    simp only [List.mem_cons, List.not_mem_nil, or_false] at hx
    rcases hx with rfl | rfl
    · exact l1
    · exact l2
  intro h₁ hns hk₁
  have X1 : K.In h₁ := X.keeps hk₁
  have m1 : [(("self" : Str), Value.ref e), (fld, v)].reverse.lookup ("self" : Str) = some (.ref e) := by
    show List.lookup ("self" : Str) [(fld, v), (("self" : Str), Value.ref e)] = _
    simp [List.lookup, n1]
  have m2 : [(("self" : Str), Value.ref e), (fld, v)].reverse.lookup fld = some v := by
    show List.lookup fld [(fld, v), (("self" : Str), Value.ref e)] = _
    simp [List.lookup]
  have he1 := hk₁ _ _ he
  obtain ⟨hp, g, dr, tk, os⟩ := s
  -- super().__init__(msg)
  refine ks_wpAt_execs_cons (ks_wpAt_Expr_any (ks_wpAt_MethodCall ?_ (hev _)))
  refine ks_wpAt_super_base (env := callEnv _ _ _) l4 l3 rfl rfl (X1 _ _ hf) rfl hpar rfl (X1 _ _ hcode) rfl hvs hfile htop ?_
  refine ks_loadName_global rfl l4 (loadGlobal_builtin (hg.keeps hk₁) mS (hb.keeps hk₁) ((hbb _ (by decide +kernel)).trans (by decide +kernel)) ⟨rfl, ?_⟩)
  refine wpAny_loadName_free rfl l3 rfl ⟨_, X1 _ _ hcell, rfl⟩ ?_
  rw [har]
  refine wpAny_loadName_local rfl l1 hns m1 ?_
  refine ks_wpAny_isType_cls (X1 _ _ hC) rfl ⟨rfl, ?_⟩
  refine ks_wpAny_call_super (X1 _ _ hC) rfl he1 rfl (fun c z => nomatch z) (looks_mroIn X1 c.self) fun h2 hso hk₂ => ?_
  have X2 : K.In h2 := X1.keeps hk₂
  have he2 := hk₂ _ _ he1
  have hin : PySem.W.InstAt h2 e (PySem.HandSPX.excO C t0) C none := ⟨he2, rfl, rfl, trivial⟩
  have hV : Looks (model prog w) h2 (isInstance (.ref e) (.type "ValueError")) true := hin.type.andThen (looks_subIn X2 c.isV)
  have hsup := c.sup
  unfold ks_superIn at hsup
  rw [hcl, Option.bind_some] at hsup
  refine kxs_getMethod kxs_ValueError hso (looks_opaque X2 c.opq) (l₀ := .ref C :: bm) (fun A Q E s k q => wpAny_bind ((looks_clsIn X2 hcl) A _ E s k (wpAny_pure q))) rfl X2 hsup hV (ks_ne X2 hin hcl) (by decide +kernel) ?_
  have hk₃ : ∀ b o, h2.get? b = some o → (h2.push (kxs_mw "ValueError.__init__" e)).get? b = some o := fun b o z => Heap.get?_push_of_some _ z
  have hu : (h2.push (kxs_mw "ValueError.__init__" e)).get? h2.objs.size = some (kxs_mw "ValueError.__init__" e) := Heap.get?_push_size _ rfl
  refine kxs_callWith (i := "ValueError.__init__") (x := e) rfl (evalArgs_plain ?_)
  refine Calls.spliced_cons (Calls.Constant_str (k := j) (pos := p3) ?_)
  refine Calls.spliced_nil ⟨hu, ?_⟩
  refine bound_init (hk₃ _ _ (hk₂ _ _ (X1 _ _ hC))) (hk₃ _ _ he2) hu (show 1 ≤ sizeLine by decide) fun h4 t1 hk₄ he4 => ?_
  -- self.fld = v
  have hk05 : ∀ b o, b ≠ e → hp.get? b = some o → h4.get? b = some o := fun b o n z => hk₄ b o n (hk₃ _ _ (hk₂ _ _ (hk₁ _ _ z)))
  have neL : hp.objs.size ≠ e := Nat.ne_of_gt (Heap.lt_size he)
  have hns4 : h4.Ns hp.objs.size (fun x => [(("self" : Str), Value.ref e), (fld, v)].reverse.lookup x) := by
    obtain ⟨o, es, ep, z, r⟩ := hns
    exact ⟨o, es, ep, hk₄ _ _ neL (hk₃ _ _ (hk₂ _ _ z)), r⟩
  have X4 : K.In h4 := fun b o z => hk05 b o (fun y => by rw [y, KC] at z; cases z) (X b o z)
  refine ks_wpAt_execs_cons (wpAt_of_wpAny (plainObj_wpAny_Assign_Attribute ?_ ?_))
  · refine wpAny_Name (wpAny_loadName_local rfl l2 hns4 m2 ?_) n5
    refine wpAny_Name (wpAny_loadName_local rfl l1 hns4 m1 ?_) (by decide +kernel)
    refine PySem.W.set_plain X4 (ox := PySem.HandSPX.excO C t1) (od := none) ⟨he4, rfl, rfl, trivial⟩ c.cls.sa ?_
    refine PySem.HandSPX.exc_osa X4 he4 hcl (show PySem.HandSPX.refsVE (.ref C :: bm) = true from hbm) rfl c.no ?_
    intro h5 tk5 dx hk₅ hdx ne hx hn
    refine wpAt_of_wpAny (wpAny_execs_nil ?_)
    refine hq h5 tk5 dx t1 (fun b o n z => hk₅ b o n (hk05 b o n z)) ?_ ne hx hn
    obtain ⟨o, es, ep, z, _⟩ := hns4
    exact Nat.le_trans (Nat.le_of_lt (Heap.lt_size z)) hdx
  · exact hsw _
end
end K8

namespace K8
open PySem PySem.Spec PyProof.Rows L2

/-! ## the promise of such an __init__, and the making of such an exception -/
/-- self's dict is made, the argument stored in it -/
def spInit (C : Addr) (fld : Str) : Sp := fun vs H Q _ => ∃ (e : Addr) (y : V), vs = [.ref e, y] ∧ H e = some (exo e C none) ∧
  ∀ d, H d = none → d ≠ e → Q .non (upd (upd H d (exd d [(fld, y)])) e (exo e C (some d)))
section
variable {P : Program} {w : World} {K : PySem.W.Frag} {mg : Str → Option Value} {base : Heap}
theorem ok_init {C f cc cda : Addr} {fld qual msg : Str} {params : Arguments} {kV doc pm ct oc : Value} {an od : Option Addr} {osl : Array (Option Value)} {p0 p1 p2 p3 p4 p5 q0 q1 q2 q3 : Pos} {j : Nat} {fd : FuncData}
    (efd : fd = PySem.W.ksFn "__init__" qual params [.Expr (.Call (.Attribute (.Call (.Name "super" p0) [] [] p1) "__init__" p2) [.Constant (.str msg) j p3] [] p4) p5, .Assign [.Attribute (.Name "self" q0) fld q1] (.Name fld q2) q3] (iniScope fld) .none kV doc pm an (.ref cda) ct cc)
    (c : IniC K P C f cc cda fld) (mS : mg "super" = none) (htop : (P.main.scope.names.lookup ("super" : Str)).isSome = false) (hf : K.lookup f = some ⟨oc, od, .func fd, osl⟩) (hcd : PySem.W.codeIn K (.ref cda) qual = true)
    {ar : Arg} (hpar : (params.posonlyargs ++ params.args).head? = some ar) (har : ar.arg = "self") (n1 : (("self" : Str) == fld) = false) (n2 : (fld == ("self" : Str)) = false) (n3 : (("__class__" : Str) == fld) = false) (n4 : (("super" : Str) == fld) = false) (n5 : (fld == ("__debug__" : Str)) = false)
    {pl : Env → Sem Bool} (hev : ∀ env : Env, eval (.Call (.Attribute (.Call (.Name "super" p0) [] [] p1) "__init__" p2) [.Constant (.str msg) j p3] [] p4) env = (do
      let ov ← attributeBase (.Call (.Name "super" p0) [] [] p1) "__init__" env (eval (.Call (.Name "super" p0) [] [] p1) env)
      standAt p2.atName
      let (f, first) ← holding [ov] (getMethod ov "__init__" (pl env))
      callWith p4 f first (backTo p4 (starEach [.Constant (.str msg) j p3] env)) []))
    (hsw : ∀ env : Env, swapsWith (.Name fld q2) (some (.Attribute (.Name "self" q0) fld q1)) q3.line env = pure false) : FnOk P w K mg base CX0 1 f fd ["self", fld] (spInit C fld) := by
  subst efd
  constructor
  · rintro vs H Q E ⟨e, y, rfl, _⟩
    rfl
  intro A outer s H args us vs Q E room e0 bnd rel asked
  obtain ⟨e, y, rfl, he, q⟩ := asked
  obtain ⟨u1, u, rfl, r1, ru⟩ := vals2 rel
  cases r1
  obtain ⟨t0, ho⟩ := exo_at e0.hok he
  have kb : ∀ {b : Addr} {o : Obj}, base.get? b = some o → s.heap.get? b = some o := fun z => (e0.bs _ _ z).1
  have KC : K.lookup e = none := by
    cases z : K.lookup e with
    | none => rfl
    | some o =>
      have y := (e0.bs _ _ (e0.mod.kin _ _ z)).2
      rw [he] at y
      cases y
  obtain ⟨mb, hb1, hb2⟩ := e0.mod.blt
  refine init_raw c (e0.mod.kin.keeps fun b o z => kb z) (e0.mod.nolimit.keeps fun b o z => kb z) (e0.mod.glob.keeps fun b o z => kb z) (hb1.keeps fun b o z => kb z) hb2 mS htop hf hcd bnd room.depth hpar har n1 n2 n3 n4 n5 hev hsw KC ho ?_
  intro h' tk dx t1 k hsz ne hx hn
  have hnd : H dx = none := e0.hok.fresh hsz
  have nd : ∀ {b : Addr} {o : Obj}, s.heap.get? b = some o → b ≠ dx := fun {b o} z => Nat.ne_of_lt (Nat.lt_of_lt_of_le (Heap.lt_size z) hsz)
  have na : ∀ {b : Addr}, H b = none → b ≠ e := by
    intro b n z
    rw [z, he] at n
    cases n
  refine ⟨.non, _, rfl, e0.bare, ?_, ?_, rfl, q dx hnd ne⟩
  · constructor
    · exact fun b o z n _ _ => k b o (na n) z
    · exact fun b o z n _ _ => ⟨o.slots, k b o (na n) z⟩
    · intro b o z n _
      rw [upd_ne (na n), upd_ne (nd z)]
      exact n
    · intro b o z _
      by_cases hbe : b = e
      · rw [hbe]
        exact ⟨_, hx⟩
      · exact ⟨o, k b o hbe z⟩
    · intro b xs z
      rw [upd_ne (at_ne he z exo_tup), upd_ne (ne_of_none z hnd)]
      exact z
    · intro b o v z
      rw [upd_ne (at_ne he z exo_frz), upd_ne (ne_of_none z hnd)]
      exact z
    · intro b ps z
      refine ⟨#[], ?_⟩
      rw [upd_ne (at_ne he z exo_tbl), upd_ne (ne_of_none z hnd), z, Array.append_empty]
  · intro b o z
    by_cases hbe : b = e
    · subst hbe
      rw [upd_same] at z
      cases z
      exact exo_ok hx
    rw [upd_ne hbe] at z
    by_cases hbd : b = dx
    · subst hbd
      rw [upd_same] at z
      cases z
      exact exd_ok hn (relO_put (fs := []) ru fun g => True.intro)
    rw [upd_ne hbd] at z
    refine (e0.hok b o z).stay ?_ ?_ ?_
    · intro c' v hc y
      refine k c' v ?_ y
      rcases hc with hc | hc
      · rw [hc]
        exact hbe
      · exact at_ne he hc exo_own
    · intro c' hc
      rw [upd_ne (at_ne he hc exo_own), upd_ne (ne_of_none hc hnd)]
      exact hc
    · intro c' xs hc
      rw [upd_ne (at_ne he hc exo_tup), upd_ne (ne_of_none hc hnd)]
      exact hc
end

/-- what C(e) asks of such an __init__, answered: the exception has a new dict with the one field -/
theorem ini_read {C : Addr} {fld : Str} {y : V} {H : Hp} {Q : XK} (q : ∀ d, H d = none → Q (.ref C) (some d) (upd H d (.xd [(fld, y)]))) :
    [y].length ≤ 1000 ∧ ∀ a, H a = none → spInit C fld (.ref a :: ([y] ++ [])) (upd H a (exo a C none))
      (fun v H2 => v = .non ∧ ∃ (d : Addr) (fs : List (Str × V)), H2 a = some (exo a C (some d)) ∧ H2 d = some (exd d fs) ∧ H d = none ∧ Q (.ref C) (some d) (upd (del H2 a) d (.xd fs))) (fun _ _ _ => False) := by
  refine ⟨show 1 ≤ 1000 by decide, fun a ha => ⟨a, y, rfl, upd_same, fun d hd ne => ⟨rfl, d, [(fld, y)], upd_same, ?_, ?_, ?_⟩⟩⟩
  · rw [upd_ne ne, upd_same]
  · rw [upd_ne ne] at hd
    exact hd
  · rw [upd_ne ne] at hd
    have e : upd (del (upd (upd (upd H a (exo a C none)) d (exd d [(fld, y)])) a (exo a C (some d))) a) d (.xd [(fld, y)]) = upd H d (.xd [(fld, y)]) := by
      funext b
      by_cases z : b = d
      · rw [z, upd_same, upd_same]
      rw [upd_ne z, upd_ne z]
      by_cases z2 : b = a
      · rw [z2, del_same, ha]
      · rw [del_ne z2, upd_ne z2, upd_ne z, upd_ne z2]
    rw [e]
    exact q d hd

/-! ## try: .. except A as n: .. except B as n: .. -/
/-- what the clauses wish of an exception of the body; slot i is n's -/
def wNamed (K : PySem.W.Frag) (i : Nat) (out : WX) (D : Ends) : List (Value × (Addr → Value → Option Addr → TS)) → WX
  | [] => out
  | (c, ts) :: more => fun cls d σ H => ∃ b, PySem.W.exmOne K cls c = some b ∧
      (b = true → ∀ a, H a = none → ts a cls d ⟨fun σ' H' => D.nx (σ'.set i none) H', D.rt, fun σ' H' => D.bk (σ'.set i none) H', fun σ' H' => D.ct (σ'.set i none) H'⟩ (σ.set i (some (.ref a))) H) ∧
      (b = false → wNamed K i out D more cls d σ H)
inductive NamedOk (X : Cx) (n : Str) : List ExceptHandler → List (Value × (Addr → Value → Option Addr → TS)) → Prop
  | nil : NamedOk X n [] []
  | cons {x : Str} {c : Value} {ts : Addr → Value → Option Addr → TS} {b₁ : Stmt} {suite : List Stmt} {np hp : Pos} {hds : List ExceptHandler} {l : List (Value × (Addr → Value → Option Addr → TS))} (names : Names X x c)
      (runs : ∀ (a : Addr) (oe : Obj) (cls : Value) (d : Option Addr) (pn : List (Addr × Obj)), Zc cls d oe → (∃ vs, oe.data = .fields vs) → PSs (X.suite a ((a, oe) :: pn)) (b₁ :: suite) (ts a cls d)) (more : NamedOk X n hds l) :
      NamedOk X n (.ExceptHandler (some (.Name x np)) (some n) (b₁ :: suite) hp :: hds) ((c, ts) :: l)
section
variable {X : Cx}
theorem ps_try_named {body : List Stmt} {h₁ : ExceptHandler} {hds : List ExceptHandler} {l : List (Value × (Addr → Value → Option Addr → TS))} {pos : Pos} {tb : WX → TS} {out : WX} {i : Nat} {n : Str}
    (hs : X.stack = X.env :: X.outer) (hf : X.env.frame = some X.env.locals) (hN : X.N.Nodup) (hi : X.N[i]? = some n) (hln : X.env.kindOf n = some .local) (tk : Takes X out)
    (hb : ∀ (W : WX) (pn : List (Addr × Obj)) (xe : Value → Shared → Prop), Takes (X.tr pn xe) W → PassesOwn (model X.prog X.w) X.A X.env xe → PSs (X.tr pn xe) body (tb W))
    (hh : NamedOk X n (h₁ :: hds) l) : PS X (.Try body (h₁ :: hds) [] [] pos) (fun D σ H => tb (wNamed X.K i out D l) D σ H) := by
  constructor
  intro pins s σ H D I h
  have ok := I.ok
  have frames : X.A.frames = some (X.env :: X.outer) := by
    rw [ok.frames, hs]
  have loc : Loc X.env.scope n := .inl hln
  apply wpAny_Try_except
  refine wpAny_mono ((hb (wNamed X.K i out D l) (X.pn ++ pins) (fun e t₁ => wpAny (model X.prog X.w) X.A (noteFrame e X.env) (fun _ t₂ => wpAny (model X.prog X.w) X.A (setFlight e none)
    (fun _ t₃ => wpAny (model X.prog X.w) X.A (handleBy e X.env (h₁ :: hds)) (SP X pins D) X.xe t₃) X.xe t₂) X.xe t₁) ?_ PassesOwn.looking).run [] s σ H D (I.toTry _) h) ?_ (fun _ _ z => z)
  · rintro u t ⟨a, B, sI, pins', σ', H', cls, d, rfl, J0, nb, up, sky, na, os, ag, wish⟩
    have J : Inv X pins σ' H' sI := J0.ofTry ok
    rw [show (X.tr (X.pn ++ pins) _).stack = X.stack from rfl, hs] at sky
    show wpAny (model X.prog X.w) X.A (noteFrame (.ref a) X.env) _ _ _
    refine Sky.land Zc.steady frames hf sky ?_
    intro g1 fl1 up1
    have upG := up.trans up1
    have J1 : Inv X pins σ' H' { t with heap := g1 } := J.landed nb fl1.1 upG os ag
    obtain ⟨o1, v1, ho1, hz1, hd1⟩ := fl1.there
    have off : a ∉ frs (X.env :: X.outer) := by
      intro hm
      obtain ⟨_, o', e', nf⟩ := fl1.2.2.1.mem hm
      rw [ho1] at e'
      cases e'
      exact nf _ hd1
    have offL : a ≠ X.env.locals := by
      intro z
      refine off (List.mem_filterMap.mpr ⟨X.env, List.mem_cons_self, ?_⟩)
      rw [hf, z]
    have offF : a ∉ X.fs := by
      intro hm
      obtain ⟨v, hv, q⟩ := List.mem_filterMap.mp hm
      exact off (List.mem_filterMap.mpr ⟨v, List.mem_cons_of_mem _ hv, q⟩)
    have S1 := J1.suite ho1 hd1 na offL offF
    have looks : ∀ {hs' : List ExceptHandler} {l' : List (Value × (Addr → Value → Option Addr → TS))}, NamedOk X n hs' l' → wNamed X.K i out D l' cls d σ' H' →
        wpAny (model X.prog X.w) X.A (handleBy (.ref a) X.env hs') (SP X pins D) X.xe { t with heap := g1 } := by
      intro hs' l' named
      induction named with
      | nil =>
        intro w
        apply wpAny_handleBy_nil
        obtain ⟨_, _, _, oe, vs, T, oT, ts', h1, _, h3, h4, _⟩ := id fl1
        have last : wpAny (model X.prog X.w) X.A (setFlight (.ref a) X.env.frame) (fun _ t₄ => wpAny (model X.prog X.w) X.A (throw (.ref a) : Sem Flow) (SP X pins D) X.xe t₄) X.xe { t with heap := g1 } := by
          rw [hf]
          refine HandSPX.setFlight_upZ fl1 ?_
          intro g2 hh2 up2
          apply wpAny_throw
          exact tk _ _ ⟨a, B, sI, pins, σ', H', cls, d, rfl, J, nb, upG.trans up2, .inr (.inr (by rw [hs]; exact hh2)), na, os, ag, w⟩
        unfold PySem.passOn
        refine wpAny_bind (wpAny_field h1 h3 h4 ?_)
        have nn : ¬ ((Value.ref T == Value.none) = true) := by simp
        rw [if_neg nn]
        first
          | exact wpAny_bind (wpAny_pure (wpAny_bind last))
          | exact wpAny_bind last
      | @cons x c ts b₁ suite np hp hds' l' names runs more ih =>
        rintro ⟨b, hb1, yes, no⟩
        refine wpAny_handleBy_cons (codeAny_handlers_test ?_) (by intro q; cases q)
        have ty : PySem.W.Looks (model X.prog X.w) g1 (typeOf (.ref a)) cls := by
          intro A Q E s k q
          apply wpAny_typeOf_ref (k _ _ ho1)
          rw [hz1.1]
          exact q
        have answer := PySem.W.exm_one (M := model X.prog X.w) J1.kIn ty hb1
        have named : ∀ {Q : Value → Shared → Prop} {E : Value → Shared → Prop}, Q c { t with heap := g1 } → wpAny (model X.prog X.w) (X.A.mark (some (.ref a))) (eval (.Name x np) X.env) Q E { t with heap := g1 } := by
          intro Q E q
          obtain ⟨hg, hdb, hm | ⟨hm, hv, hnn⟩⟩ := names
          · exact ld_glob (X := X.suite a ((a, o1) :: (X.pn ++ pins))) S1 hg hm q hdb
          · exact ld_blt (X := X.suite a ((a, o1) :: (X.pn ++ pins))) S1 hg hm hv q hnn hdb
        refine named (answer.here ?_)
        cases b with
        | false =>
          show wpAny _ X.A (handleBy (.ref a) X.env hds') _ _ _
          exact ih (no rfl)
        | true =>
          refine codeAny_handlers_suite_as ?_
          refine HandSPX.lands_againZ fl1 ?_
          intro g2 fl2 up2
          have J2 : Inv X pins σ' H' { t with heap := g2 } := J.landed nb fl2.1 (upG.trans up2) os ag
          obtain ⟨o2, v2, ho2, hz2, hd2⟩ := fl2.there
          have S2 := J2.suite ho2 hd2 na offL offF
          refine store_ok (X := X.suite a ((a, o2) :: (X.pn ++ pins))) (v := .ref a) S2 hN hi loc rfl ?_ (.inr hln)
          intro t5 S5
          refine wpAny_mono ((runs a o2 cls d (X.pn ++ pins) hz2 ⟨_, hd2⟩).run [] t5 _ H' _ S5 (yes rfl a na)) ?_ (fun _ _ z => False.elim z)
          intro f t6 hsp
          have gone : ∀ {σ6 : L2.St} {H6 : Hp} {Q : Shared → Prop}, Inv (X.suite a ((a, o2) :: (X.pn ++ pins))) [] σ6 H6 t6 → (∀ t7, Inv X pins (σ6.set i none) H6 t7 → Q t7) →
              wpAny (model X.prog X.w) X.A (do bindName X.env n .none; unbindBehindTheSuite X.env n hp) (fun _ t7 => Q t7) X.xe t6 := by
            intro σ6 H6 Q S6 hq
            exact gone_ok (S6.unsuite ok) hN hi hln hq
          cases f with
          | next =>
            obtain ⟨_, _, S6, q6⟩ := hsp
            exact gone S6 fun _ J7 => ⟨_, _, J7, q6⟩
          | brk =>
            obtain ⟨_, _, S6, q6⟩ := hsp
            exact gone S6 fun _ J7 => ⟨_, _, J7, q6⟩
          | cont =>
            obtain ⟨_, _, S6, q6⟩ := hsp
            exact gone S6 fun _ J7 => ⟨_, _, J7, q6⟩
          | ret u =>
            obtain ⟨_, _, _, S6, r6, q6⟩ := hsp
            exact gone S6 fun _ J7 => ⟨_, _, _, J7, r6, q6⟩
    exact looks hh wish
  · intro f t hsp
    cases f with
    | next =>
      obtain ⟨σ', H', J', q⟩ := hsp
      exact wpAny_execs_nil ⟨σ', H', J'.ofTry ok, q⟩
    | brk =>
      obtain ⟨σ', H', J', q⟩ := hsp
      exact ⟨σ', H', J'.ofTry ok, q⟩
    | cont =>
      obtain ⟨σ', H', J', q⟩ := hsp
      exact ⟨σ', H', J'.ofTry ok, q⟩
    | ret u =>
      obtain ⟨v, σ', H', J', r, q⟩ := hsp
      exact ⟨v, σ', H', J'.ofTry ok, r, q⟩
/-! ## isinstance of the error that a suite holds -/
def rIsX (K : PySem.W.Frag) (cls : Value) (a : Addr) : List V → Hp → VK → Prop := fun xs H Q => ∃ (D C : Addr) (d : Addr) (fs : List (Str × V)) (b : Bool), xs = [.ref a, .ref C] ∧ cls = .ref D ∧ H d = some (.xd fs) ∧ ExcC K D ∧ PySem.W.kitOne K (.ref D) (.ref C) = some b ∧ Q (.bl b) H
theorem call_isX {a dx : Addr} {cls : Value} {oe : Obj} {pn : List (Addr × Obj)} (hz : Zc cls (some dx) oe) (hf : ∃ vs, oe.data = .fields vs) :
    CallR (X.suite a ((a, oe) :: pn)) (.builtin "isinstance") (fun xs H Q => ∃ (D C : Addr) (fs : List (Str × V)) (b : Bool), xs = [.ref a, .ref C] ∧ cls = .ref D ∧ H dx = some (.xd fs) ∧ ExcC X.K D ∧ PySem.W.kitOne X.K (.ref D) (.ref C) = some b ∧ Q (.bl b) H) := by
  intro pins s σ H xs us Q I r h
  obtain ⟨D, C, fs, b, rfl, rfl, hd, c, e, q⟩ := h
  obtain ⟨u1, u2, rfl, r1, r2⟩ := vals2 r
  cases r1
  cases r2
  obtain ⟨hget, _⟩ := I.pin (a, oe) (List.mem_append.mpr (.inl List.mem_cons_self))
  obtain ⟨vs, hv⟩ := hf
  obtain ⟨mA, ⟨od, es, ep, ho, _⟩, _⟩ := (show ObjOk X.prog X.w H s.heap dx (.xd fs) from I.hok dx _ hd)
  have J : PySem.W.InstAt s.heap a oe D (some od) := by
    refine ⟨hget, hz.1, ?_, ?_⟩
    · unfold PySem.W.notCls
      rw [hv]
      all_goals rfl
    · rw [hz.2]
      exact ho
  obtain ⟨cd, hcd, _⟩ := PySem.W.any_some c.hd
  exact PySem.W.kia_one (PySem.W.kitx_exc (by rw [hcd]; rfl) c.hg c.hk c.hs c.ha c.hn c.ht c.hm) I.kIn J e (fun z => nomatch z) fun tk => ⟨.bl b, H, I.kept (t' := tk) fun _ _ z => z, rfl, q⟩
end
end K8

namespace K8
open PySem PySem.Spec PyProof.Rows L2

/-! ## max of a tuple of ints -/
def rMaxT (K : PySem.W.Frag) : List V → Hp → VK → Prop := fun vs H Q => ∃ (a : Addr) (ns : List Int), vs = [V.ref a] ∧ SqT K H a (ns.map V.int) ∧ 0 < ns.length ∧ ∀ m, m ∈ ns → (∀ y, y ∈ ns → y ≤ m) → Q (.int m) H
section
variable {prog : Program} {w : World} {A : Around} {E : Value → Shared → Prop} {s : Shared}
theorem max_tup_raw {t : Addr} {its : List Value} {ns : List Int} {Q : Value → Shared → Prop} (hh : A.handled = none) (ht : s.heap.IsTuple t its.toArray) (hi : IntsAre its ns) (hne : 0 < ns.length)
    (h : ∀ h' tk M u, (∀ b o, s.heap.get? b = some o → h'.get? b = some o) → M ∈ ns → (∀ a, a ∈ ns → a ≤ M) → Q (.int M u) { s with heap := h', toks := tk }) : wpAny (model prog w) A (call (.builtin "max") [.ref t]) Q E s := by
  obtain ⟨xs, e⟩ := hi.allInts.items
  have hn : numsOf (intItems xs).toList = ns := by
    rw [← e]
    exact hi.numsOf
  rw [nums_intItems] at hn
  subst hn
  rw [e] at ht
  have pos : 0 < xs.size := by simpa using hne
  have hlt : t < s.heap.objs.size := by
    obtain ⟨_, z, _⟩ := ht
    exact Heap.lt_size z
  apply call_max_walk
  apply wpAny_pyIter_tuple ht
  refine ⟨_, _, _, _, _, _, _, rfl, Walks.tuple (A := A.in1) hh s.heap.objs.size t (Nat.ne_of_lt hlt) (intItems xs), ⟨⟨_, Heap.get?_push_size _ rfl, rfl, rfl⟩, ht.push _⟩, ?_, ?_, CmpOf.ints_gt (numAt xs) (fun _ _ => intItems_at), ?_⟩
  · intro b hb
    show b < (s.heap.push _).objs.size
    rw [Heap.size_push]
    rcases List.mem_cons.mp hb with rfl | hb
    · exact Nat.lt_succ_self _
    · rw [List.mem_singleton.mp hb]
      exact Nat.lt_succ_of_lt hlt
  · simpa [intItems] using pos
  · intro v h' tk hP hk
    have hv : (intItems xs)[argBest (fun i j => decide (numAt xs i > numAt xs j)) (xs.size - 1)]? = some v := by simpa [intItems] using hP
    obtain ⟨u, rfl⟩ := intItems_at hv
    obtain ⟨b1, b2⟩ := argBest_gt (numAt xs) (xs.size - 1)
    refine h h' tk _ u ?_ ?_ ?_
    · intro b o z
      refine hk b o ?_ (Heap.get?_push_of_some _ z)
      intro hm
      rw [List.mem_singleton.mp hm] at z
      exact Nat.lt_irrefl _ (Heap.lt_size z)
    · rw [numAt_eq]
      exact PySem.getD_mem (by rw [List.length_map, Array.length_toList]; omega)
    · intro a ha
      obtain ⟨j, hj, rfl⟩ := mem_getD ha
      rw [List.length_map, Array.length_toList] at hj
      rw [← numAt_eq]
      exact b2 j (by omega)
end
section
variable {X : Cx}
theorem cr_maxT (hc : X.calm = true) : CallR X (.builtin "max") (rMaxT X.K) := by
  intro pins s σ H vs us Q I r h
  obtain ⟨a, ns, rfl, hs, hne, q⟩ := h
  obtain ⟨its, rv, ht, _⟩ := I.tuple hs
  rw [Vals.ref1 r]
  exact max_tup_raw (I.ok.hd hc) ht rv.ints hne fun h' tk m u hk h1 h2 => ⟨.int _, H, I.kept hk, ⟨_, rfl⟩, q m h1 h2⟩
end

/-! ## for i, x in enumerate(a tuple) -/
set_option maxHeartbeats 4000000 in
theorem meets_enum_one {v : Value} {o : Obj} {G : Heap → Prop} (B : Begins v o G) :
    Meets (Builtin.«enumerate.__new__» ⟨[.type "enumerate", v], []⟩) (fun _ R s => G s.heap ∧
      R (.ok (.ret (.ref (s.heap.push o).objs.size))) { s with heap := (s.heap.push o).push { cls := .type "enumerate", data := .fields #[.none, .bool false, .ref s.heap.objs.size, rawInt 0, .none, .none] } }) :=
  .of_wp fun prog w A R s h => by
    obtain ⟨hp, g, d, tk, os⟩ := s
    obtain ⟨h1, h⟩ := h
    have hsub := sub_enumerate
    have begin_ : ∀ {A' : Around} {E : Value → Shared → Prop} {Q : Value → Shared → Prop}, Q (.ref hp.objs.size) ⟨hp.push o, g, d, tk, os⟩ → wpAny (model prog w) A' (pyIter v) Q E ⟨hp, g, d, tk, os⟩ := by
      intro A' E Q q
      exact B.iter prog w _ _ ⟨hp, g, d, tk, os⟩ _ h1 q
    wp_walk using begin_
    refine wpAny_stack_any fun st => wpAny_pure ?_
    split
    · rename_i c _ _ _ _ _
      cases (c == Value.type "enumerate") <;> (wp_walk using begin_; exact ⟨_, rfl, h⟩)
    · wp_walk using begin_
      exact ⟨_, rfl, h⟩
theorem call_enum_one {prog : Program} {w : World} {A : Around} {E : Value → Shared → Prop} {s : Shared} {v : Value} {o : Obj} {G : Heap → Prop} {Q : Value → Shared → Prop} (B : Begins v o G) (h1 : G s.heap)
    (h : ∀ h', IsEnum h' (s.heap.objs.size + 1) s.heap.objs.size 0 .none → h'.get? s.heap.objs.size = some o → (∀ b o, s.heap.get? b = some o → h'.get? b = some o) → Q (.ref (s.heap.objs.size + 1)) { s with heap := h' }) :
    wpAny (model prog w) A (call (.type "enumerate") [v]) Q E s := by
  refine callType_new F.called_enumerate (by decide) (F.typeCall_enumerate_1 _) (F.newCall_enumerate_1 _) (fun obj => F.args_object_init_2 obj _) F.entry_enumerate_new (meets_enum_one B) ⟨h1, ?_⟩
  have sz : (s.heap.push o).objs.size = s.heap.objs.size + 1 := Heap.size_push ..
  have he : ((s.heap.push o).push { cls := .type "enumerate", data := .fields #[.none, .bool false, .ref s.heap.objs.size, rawInt 0, .none, .none] }).get? (s.heap.push o).objs.size = some { cls := .type "enumerate", data := .fields #[.none, .bool false, .ref s.heap.objs.size, rawInt 0, .none, .none] } := Heap.get?_push_size _ rfl
  rw [sz] at he
  show _ ∧ _
  rw [sz]
  refine ⟨⟨_, he, rfl⟩, h _ he (Heap.get?_push_of_some _ (Heap.get?_push_size _ B.free)) ?_⟩
  intro b o' z
  exact Heap.get?_push_of_some _ (Heap.get?_push_of_some _ z)

/-- the tuple at a, each turn a new pair of the turn and the item -/
def IteT (K : PySem.W.Frag) (a : Addr) : It where
  go := fun i H => ∃ (xs : List V) (x : V), SqT K H a xs ∧ xs[i]? = some x
  yld := fun i H v H' => ∃ T x, v = .ref T ∧ H T = none ∧ H' = upd H T (.tup [.int (i : Nat), x]) ∧ ∀ xs, SqT K H a xs → xs[i]? = some x
  stop := fun i H => ∃ xs : List V, SqT K H a xs ∧ xs.length ≤ i
theorem turn_enumT {P : Program} {w : World} {K : PySem.W.Frag} {elts : List Expr} {kk : Nat} {tpos : Pos} (a e it : Addr) (hait : a ≠ it) (hae : a ≠ e) :
    Turn P w K (.Tuple elts kk tpos) (IteT K a) [e, it] e (fun i h => (∃ old, IsEnum h e it ((i : Nat) : Int) old) ∧ h.IsTupleIter it a i ∧ e ≠ it) where
  mem := List.mem_cons_self
  obj := by
    rintro i h ⟨⟨old, he⟩, ⟨o, ho, _, hd⟩, _⟩ b hb
    rcases List.mem_cons.mp hb with z | z
    · rw [z]
      exact ⟨_, he, fun v q => nomatch q⟩
    · rw [List.mem_singleton.mp z]
      exact ⟨o, ho, fun v q => by rw [hd] at q; cases q⟩
  keep := by
    rintro i h h' ⟨⟨old, he⟩, hi, hne⟩ k
    exact ⟨⟨old, k e (by simp) _ he⟩, hi.at fun o q => k it (by simp) o q, hne⟩
  item := by
    intro X hP hw hK hc i pins s σ H E I hf st hg
    subst hP hw hK
    obtain ⟨⟨old, he⟩, hit, hne⟩ := st
    obtain ⟨xs, x, hq, hx⟩ := hg
    obtain ⟨its, rv, p, _⟩ := I.tuple hq
    obtain ⟨u, hu, ru⟩ := rv.get hx
    have lt_e : e < s.heap.objs.size := Heap.lt_size he
    have lt_i : it < s.heap.objs.size := by
      obtain ⟨_, q, _⟩ := hit
      exact Heap.lt_size q
    have hlt : i < its.toArray.size := by
      rw [List.size_toArray]
      exact (List.getElem?_eq_some_iff.mp hu).1
    refine wpAny_pyNext_enum_itemD (Draws.tuple (A := X.A.in1) (I.ok.hd hc) it a hait its.toArray) he ⟨hit, p⟩ hlt hne (by simp [hne, Ne.symm hae]) ?_
    intro x' h' tk hx' ho ⟨hit', _⟩ hT _ hk
    obtain rfl : x' = u := by
      have z : its[i]? = some x' := by simpa using hx'
      rw [hu] at z
      exact (Option.some.inj z).symm
    refine ⟨_, rfl, wpAny_letOwnedTupleGo_enum (s := { s with heap := h', toks := tk + 1 }) ho ?_⟩
    intro h'' he' sb
    have hT2 : h''.get? s.heap.objs.size = some { cls := .type "tuple", data := .seq #[.int i tk, x'] } := (sb.2 _ (Nat.ne_of_gt lt_e)).trans hT
    have new : ObjOk X.prog X.w (upd H s.heap.objs.size (.tup [.int (i : Nat), x])) h'' s.heap.objs.size (.tup [.int (i : Nat), x]) :=
      ⟨show 2 ≤ sizeLine by decide, [.int i tk, x'], .cons ⟨_, rfl⟩ (.cons ru .nil), ⟨_, hT2, rfl, _, rfl⟩⟩
    have I1 : Inv X pins σ (upd H s.heap.objs.size (.tup [.int (i : Nat), x])) { s with heap := h'', toks := tk + 1 } := by
      refine I.turnedNew (ch := [e, it]) (fun b ob hb q => ?_) hf (Nat.le_refl _) new
      have n1 : b ≠ e := fun z => hb (by simp [z])
      have n2 : b ≠ it := fun z => hb (by simp [z])
      exact (sb.2 b n1).trans (hk b ob n1 n2 q)
    refine ⟨.ref s.heap.objs.size, _, I1, rfl, ⟨_, x, rfl, I.hok.fresh (Nat.le_refl _), rfl, fun ys hy => by rw [I.tuple_inj hy hq]; exact hx⟩, ⟨⟨x', ?_⟩, hit'.at fun o q => (sb.2 it (Ne.symm hne)).trans q, hne⟩, fun b hb => ?_⟩
    · have e1 : ((i + 1 : Nat) : Int) = (i : Int) + 1 := by omega
      rw [e1]
      exact he'
    · have lt_b : b < s.heap.objs.size := by
        rcases List.mem_cons.mp hb with z | z
        · rw [z]
          exact lt_e
        · rw [List.mem_singleton.mp z]
          exact lt_i
      rw [upd_ne (Nat.ne_of_lt lt_b)]
      exact (hf b hb).1
  done := by
    intro X hP hw hK hc i pins s σ H E I hf st hg
    subst hP hw hK
    obtain ⟨⟨old, he⟩, hit, hne⟩ := st
    obtain ⟨xs, hq, hx⟩ := hg
    obtain ⟨its, rv, p, _⟩ := I.tuple hq
    obtain ⟨f0, f1, f2, f3, f4, f5⟩ := hf it (by simp)
    have hl := rv.length
    have hT : s.TypeIs (.ref e) "enumerate" := ⟨_, he, rfl⟩
    unfold pyNext
    refine wpAny_bind (wpAny_attempt (wpAny_callSpecial?_slot (name := Str.ofString "__next__") hT F.slot_enumerate_next (wpAny_call_entry F.slot_enumerate_next hT F.entry_enumerate_next ?_ (F.args_enumerate_next_1 _))))
    show wpAny _ _ (field (.ref e) 2 >>= _) _ _ _
    refine wpAny_bind (wpAny_field he rfl (x := .ref it) rfl ?_)
    refine wpAny_bind (wpAny_nextOf_tuple_end (A := X.A.in1) (I.ok.hd hc) hit p (by simp; omega) ?_)
    intro h' y eb hy
    obtain ⟨o, ho, hcl⟩ := hy
    refine wpAny_bind (wpAny_isInstance (T := "StopIteration") (b := true) ⟨o, ho, hcl⟩ isSubtype_stop ?_)
    exact wpAny_pure ⟨rfl, I.turned (t' := s.toks) (fun b o hb q => eb b o hb q) f0 f1 f3 f4 f5⟩
  self := by
    rintro A i s Q E ⟨⟨_, he⟩, _⟩ h
    exact wpAny_pyIter_enum he h
def iEnumT (K : PySem.W.Frag) (ta : TA) : TI := fun σ H R => ta σ H fun vs H1 => ∃ a xs, vs = [.ref a] ∧ SqT K H1 a xs ∧ R (IteT K a) H1
theorem pi_enumT {X : Cx} {e : Expr} {ta : TA} {p pos tpos : Pos} {elts : List Expr} {kk : Nat} (hg : Gl X "enumerate") (hm : X.mg "enumerate" = none) (ha : PA X [e] ta) (hs : starEach [e] X.env = [(false, eval e X.env)] := by rfl) :
    PI X (.Tuple elts kk tpos) (.Call (.Name "enumerate" p) [e] [] pos) (iEnumT X.K ta) := by
  constructor
  intro pins s σ H R I h
  refine Call_ (ld_blt I hg hm boot_enumerate (PyProof.Rows.callWith_type1 (thn (ha.run pos pins s σ H _ I h) ?_) hs rfl))
  intro us s1 ⟨vs, H1, I1, r1, a, xs, ex, hq, q⟩
  subst ex
  obtain ⟨u, rfl, ru⟩ := vals1 r1
  cases ru
  obtain ⟨its, rv, p', _⟩ := I1.tuple hq
  have lt_a : a < s1.heap.objs.size := by
    obtain ⟨_, z, _⟩ := p'
    exact Heap.lt_size z
  refine call_enum_one (begins_tuple a its.toArray) p' ?_
  intro h' he hit hk
  apply wpAny_pyIter_enum he
  have I2 : Inv X pins σ H1 { s1 with heap := h' } := I1.kept (t' := s1.toks) hk
  refine ⟨s1.heap.objs.size + 1, [s1.heap.objs.size + 1, s1.heap.objs.size], _, _, H1, rfl, I2, turn_enumT a (s1.heap.objs.size + 1) s1.heap.objs.size (Nat.ne_of_lt lt_a) (Nat.ne_of_lt (Nat.lt_succ_of_lt lt_a)), ⟨⟨.none, he⟩, ⟨_, hit, rfl, rfl⟩, Nat.succ_ne_self _⟩, fun b hb => ?_, q⟩
  have le_b : s1.heap.objs.size ≤ b := by
    rcases List.mem_cons.mp hb with z | z
    · rw [z]
      exact Nat.le_add_right _ _
    · rw [List.mem_singleton.mp z]
      exact Nat.le_refl _
  exact I1.fpOk le_b (I1.hok.fresh le_b)
theorem walk_enumT {K : PySem.W.Frag} {a : Addr} {xs : List V} : Walk (IteT K a) xs.length (fun H => SqT K H a xs) (YPair (fun i => some (.int (i : Nat))) (fun i => xs[i]?)) where
  goes := fun i _ hi q => ⟨xs, xs[i], q, by simp [hi]⟩
  stops := fun _ q => ⟨xs, q, Nat.le_refl _⟩
  yields := by
    rintro i H v H' _ q ⟨T, x, h1, h2, h3, h4⟩
    exact ⟨T, _, x, h1, h2, h3, rfl, h4 xs q⟩
/-- zip of two tuples -/
theorem walk_zipT {K : PySem.W.Frag} {a b : Addr} {xs ys : List V} {n : Nat} (hn : n = min xs.length ys.length) : Walk (RZ.ItzT K a b) n (fun H => SqT K H a xs ∧ SqT K H b ys) (YPair (fun i => xs[i]?) (fun i => ys[i]?)) where
  goes := by
    intro i H hi q
    have h1 : i < xs.length := by omega
    have h2 : i < ys.length := by omega
    exact ⟨xs, ys, xs[i], ys[i], q.1, q.2, by simp [h1], by simp [h2]⟩
  stops := fun H q => ⟨xs, ys, q.1, q.2, by omega⟩
  yields := by
    rintro i H v H' _ q ⟨T, x, z, h1, h2, h3, h4, h5⟩
    exact ⟨T, x, z, h1, h2, h3, h4 xs q.1, h5 ys q.2⟩
end K8

/-! ## the plain law -/
namespace K8
open PySem

structure Door where
  one : Int
  other : Int
  time : Nat
instance : Inhabited Door := ⟨⟨0, 0, 0⟩⟩
/-- at how many beats a road leads through it -/
def nb (B : Nat) (d : Door) : Nat := B - d.time
abbrev big : Int := 1000000000000000000000000000000
def Door.Ok (R : Nat) (d : Door) : Prop :=
  (d.one = -1 ∧ 0 ≤ d.other ∧ d.other < R ∧ d.time = 0) ∨ (0 ≤ d.one ∧ d.one < R ∧ d.other = -1 ∧ d.time = 0) ∨
  (0 ≤ d.one ∧ d.one < R ∧ 0 ≤ d.other ∧ d.other < R ∧ 1 ≤ d.time ∧ d.time ≤ 6)
structure PlanOk (R B : Nat) (ds : List Door) : Prop where
  r1 : 1 ≤ R
  r2 : R ≤ 6
  b1 : 1 ≤ B
  b2 : B ≤ 6
  d1 : 1 ≤ ds.length
  d2 : ds.length ≤ 5
  ok : ∀ d ∈ ds, d.Ok R

/-! ### data -/
def doorD (d : Door) : PyData := .tuple [.int d.one, .int d.other, .int d.time]
def planD (R B : Nat) (ds : List Door) : PyData := .tuple [.int R, .int B, .tuple (ds.map doorD)]
def isIntD : PyData → Bool
  | .int _ => true
  | _ => false
def isCountD : PyData → Bool
  | .int i => decide (0 ≤ i) && decide (i ≤ big)
  | _ => false
def rowOk (n : Nat) : PyData → Bool
  | .tuple xs => decide (xs.length = n) && xs.all isCountD
  | _ => false
def rowD (row : List Int) : PyData := .tuple (row.map PyData.int)
def countsD (C : List (List Int)) : PyData := .tuple (C.map rowD)

/-! ### who is there -/
def comeOne (r b : Nat) (d : Door) (own : List Int) : Int := if d.other = r ∧ d.time ≤ b then own.getD (b - d.time) 0 else 0
def goneOne (r b : Nat) (d : Door) (own : List Int) : Int := if d.one = r ∧ b < own.length then own.getD b 0 else 0
def come (ds : List Door) (C : List (List Int)) (r b : Nat) : Int := (List.zipWith (comeOne r b) ds C).sum
def gone (ds : List Door) (C : List (List Int)) (r b : Nat) : Int := (List.zipWith (goneOne r b) ds C).sum
def there (ds : List Door) (C : List (List Int)) (r : Nat) : Nat → Int
  | 0 => come ds C r 0 - gone ds C r 0
  | b + 1 => there ds C r b + come ds C r (b + 1) - gone ds C r (b + 1)
/-- counts of a plan by their form -/
structure Good (B : Nat) (ds : List Door) (C : List (List Int)) : Prop where
  len : C.length = ds.length
  row : ∀ (j : Nat) (own : List Int) (d : Door), C[j]? = some own → ds[j]? = some d → own.length = nb B d ∧ ∀ x ∈ own, 0 ≤ x ∧ x ≤ big
structure Lack (R B : Nat) (ds : List Door) (C : List (List Int)) (r b : Nat) : Prop where
  hr : r < R
  hb : b < B
  here : there ds C r b < 0
  before : ∀ r' b', r' < R → (b' < b ∨ (b' = b ∧ r' < r)) → 0 ≤ there ds C r' b'
def NoLack (R B : Nat) (ds : List Door) (C : List (List Int)) : Prop := ∀ r b, r < R → b < B → 0 ≤ there ds C r b
def formD : PyData := .str "form"
def doorBad (k : Nat) : PyData := .tuple [.str "door", .int k]
def lackD (r b : Nat) : PyData := .tuple [.str "lack", .int r, .int b]
/-- what is wrong first -/
inductive Fault (R B : Nat) (ds : List Door) : PyData → PyData → Prop
  | form {v : PyData} (h : ∀ rows, v = .tuple rows → rows.length ≠ ds.length) : Fault R B ds v formD
  | door {rows : List PyData} {k : Nat} {row : PyData} {d : Door} (hl : rows.length = ds.length) (hk : rows[k]? = some row) (hd : ds[k]? = some d) (bad : rowOk (nb B d) row = false)
      (ok : ∀ (j : Nat) (row : PyData) (d : Door), j < k → rows[j]? = some row → ds[j]? = some d → rowOk (nb B d) row = true) : Fault R B ds (.tuple rows) (doorBad k)
  | lack {C : List (List Int)} {r b : Nat} (hC : Good B ds C) (L : Lack R B ds C r b) : Fault R B ds (countsD C) (lackD r b)
  | none {C : List (List Int)} (hC : Good B ds C) (hN : NoLack R B ds C) : Fault R B ds (countsD C) .none
/-- the tally -/
def tallyL (R B : Nat) (ds : List Door) (C : List (List Int)) : List Int := C.flatten ++ (List.range R).flatMap fun r => (List.range B).map (there ds C r)

theorem intD_inj : ∀ {xs ys : List Int}, xs.map PyData.int = ys.map PyData.int → xs = ys
  | [], [], _ => rfl
  | [], _ :: _, h => by simp at h
  | _ :: _, [], h => by simp at h
  | x :: xs, y :: ys, h => by
    simp only [List.map_cons, List.cons.injEq, PyData.int.injEq] at h
    rw [h.1, intD_inj h.2]
theorem rowD_inj {a b : List Int} (h : rowD a = rowD b) : a = b := by
  unfold rowD at h
  exact intD_inj (PyData.tuple.inj h)
theorem rowsD_inj : ∀ {C D : List (List Int)}, C.map rowD = D.map rowD → C = D
  | [], [], _ => rfl
  | [], _ :: _, h => by simp at h
  | _ :: _, [], h => by simp at h
  | x :: xs, y :: ys, h => by
    simp only [List.map_cons, List.cons.injEq] at h
    rw [rowD_inj h.1, rowsD_inj h.2]
theorem countsD_inj {C D : List (List Int)} (h : countsD C = countsD D) : C = D := by
  unfold countsD at h
  exact rowsD_inj (PyData.tuple.inj h)
theorem isCount_inv {x : PyData} (h : isCountD x = true) : ∃ i, x = .int i ∧ 0 ≤ i ∧ i ≤ big := by
  cases x with
  | int i =>
    simp only [isCountD, Bool.and_eq_true, decide_eq_true_eq] at h
    exact ⟨i, rfl, h.1, h.2⟩
  | _ => simp [isCountD] at h
theorem ints_of : ∀ {xs : List PyData}, xs.all isCountD = true → ∃ ns : List Int, xs = ns.map PyData.int ∧ ∀ x ∈ ns, 0 ≤ x ∧ x ≤ big
  | [], _ => ⟨[], rfl, fun _ h => nomatch h⟩
  | x :: xs, h => by
    simp only [List.all_cons, Bool.and_eq_true] at h
    obtain ⟨i, rfl, h1, h2⟩ := isCount_inv h.1
    obtain ⟨ns, rfl, hn⟩ := ints_of h.2
    refine ⟨i :: ns, rfl, fun y hy => ?_⟩
    rcases List.mem_cons.mp hy with e | e
    · rw [e]
      exact ⟨h1, h2⟩
    · exact hn y e
theorem rowOk_inv {n : Nat} {x : PyData} (h : rowOk n x = true) : ∃ own : List Int, x = rowD own ∧ own.length = n ∧ ∀ y ∈ own, 0 ≤ y ∧ y ≤ big := by
  cases x with
  | tuple xs =>
    simp only [rowOk, Bool.and_eq_true, decide_eq_true_eq] at h
    obtain ⟨ns, rfl, hn⟩ := ints_of h.2
    exact ⟨ns, rfl, by simpa using h.1, hn⟩
  | _ => simp [rowOk] at h
theorem rowOk_of {n : Nat} {own : List Int} (h1 : own.length = n) (h2 : ∀ y ∈ own, 0 ≤ y ∧ y ≤ big) : rowOk n (rowD own) = true := by
  simp only [rowOk, rowD, Bool.and_eq_true, decide_eq_true_eq, List.length_map]
  refine ⟨h1, ?_⟩
  rw [List.all_map, List.all_eq_true]
  intro y hy
  simp only [Function.comp_apply, isCountD, Bool.and_eq_true, decide_eq_true_eq]
  exact h2 y hy
/-- all rows right -/
theorem good_of : ∀ {rows : List PyData} {ds : List Door} {B : Nat}, rows.length = ds.length → (∀ (j : Nat) (row : PyData) (d : Door), rows[j]? = some row → ds[j]? = some d → rowOk (nb B d) row = true) → ∃ C, rows = C.map rowD ∧ Good B ds C
  | [], [], _, _, _ => ⟨[], rfl, ⟨rfl, fun j own d h _ => by simp at h⟩⟩
  | [], _ :: _, _, h, _ => by simp at h
  | _ :: _, [], _, h, _ => by simp at h
  | row :: rows, d :: ds, B, h, ok => by
    obtain ⟨own, e, h1, h2⟩ := rowOk_inv (ok 0 row d rfl rfl)
    obtain ⟨C, e2, G⟩ := good_of (rows := rows) (ds := ds) (B := B) (by simpa using h) fun j r d' a b => ok (j + 1) r d' (by simpa using a) (by simpa using b)
    refine ⟨own :: C, by rw [e, e2]; rfl, ⟨by simp [G.len], fun j o d' a b => ?_⟩⟩
    cases j with
    | zero =>
      have a' : own = o := by simpa using a
      have b' : d = d' := by simpa using b
      subst a' b'
      exact ⟨h1, h2⟩
    | succ j => exact G.row j o d' (by simpa using a) (by simpa using b)
theorem Good.rowOk {B : Nat} {ds : List Door} {C : List (List Int)} (G : Good B ds C) {j : Nat} {row : PyData} {d : Door} (h : (C.map rowD)[j]? = some row) (hd : ds[j]? = some d) : rowOk (nb B d) row = true := by
  rw [List.getElem?_map] at h
  cases e : C[j]? with
  | none => rw [e] at h; cases h
  | some own =>
    rw [e] at h
    have h' : rowD own = row := by simpa using h
    rw [← h']
    obtain ⟨h1, h2⟩ := G.row j own d e hd
    exact rowOk_of h1 h2
theorem Lack.unique {R B : Nat} {ds : List Door} {C : List (List Int)} {r b r' b' : Nat} (L : Lack R B ds C r b) (L' : Lack R B ds C r' b') : r = r' ∧ b = b' := by
  have k : ¬ (b < b' ∨ (b = b' ∧ r < r')) := fun h => by
    have := L'.before r b L.hr h
    have := L.here
    omega
  have k' : ¬ (b' < b ∨ (b' = b ∧ r' < r)) := fun h => by
    have := L.before r' b' L'.hr h
    have := L'.here
    omega
  omega
theorem Lack.no {R B : Nat} {ds : List Door} {C : List (List Int)} {r b : Nat} (L : Lack R B ds C r b) (N : NoLack R B ds C) : False := by
  have := N r b L.hr L.hb
  have := L.here
  omega
theorem fault_rows {B : Nat} {ds : List Door} {C : List (List Int)} {rows : List PyData} {k : Nat} {row : PyData} {d : Door} (G : Good B ds C) (e : countsD C = .tuple rows) (hk : rows[k]? = some row) (hd : ds[k]? = some d) (bad : rowOk (nb B d) row = false) : False := by
  have e' : C.map rowD = rows := PyData.tuple.inj e
  subst e'
  rw [G.rowOk hk hd] at bad
  cases bad
theorem fault_form {B : Nat} {ds : List Door} {C : List (List Int)} (G : Good B ds C) (h : ∀ rows, countsD C = .tuple rows → rows.length ≠ ds.length) : False := h _ rfl (by rw [List.length_map, G.len])
theorem Fault.det {R B : Nat} {ds : List Door} {v f : PyData} (F : Fault R B ds v f) : ∀ {g : PyData}, Fault R B ds v g → f = g := by
  intro g F'
  generalize ev : v = v' at F'
  cases F with
  | form h =>
    cases F' with
    | form => rfl
    | door hl => exact absurd hl (h _ ev)
    | lack hC => subst ev; exact (fault_form hC h).elim
    | none hC => subst ev; exact (fault_form hC h).elim
  | @door rows k row d hl hk hd bad ok =>
    cases F' with
    | form h => exact absurd hl (h _ ev.symm)
    | @door rows' k' row' d' hl' hk' hd' bad' ok' =>
      have e : rows = rows' := PyData.tuple.inj ev
      subst e
      have h1 : ¬ k < k' := fun q => by
        rw [ok' k row d q hk hd] at bad
        cases bad
      have h2 : ¬ k' < k := fun q => by
        rw [ok k' row' d' q hk' hd'] at bad'
        cases bad'
      have e2 : k = k' := by omega
      rw [e2]
    | lack hC => exact (fault_rows hC ev.symm hk hd bad).elim
    | none hC => exact (fault_rows hC ev.symm hk hd bad).elim
  | @lack C r b hC L =>
    cases F' with
    | form h => exact (fault_form hC fun rows e => h rows (ev.symm.trans e)).elim
    | door hl hk hd bad ok => exact (fault_rows hC ev hk hd bad).elim
    | @lack C' r' b' hC' L' =>
      have e := countsD_inj ev
      subst e
      obtain ⟨e1, e2⟩ := L.unique L'
      rw [e1, e2]
    | none hC' hN =>
      have e := countsD_inj ev
      subst e
      exact (L.no hN).elim
  | @none C hC hN =>
    cases F' with
    | form h => exact (fault_form hC fun rows e => h rows (ev.symm.trans e)).elim
    | door hl hk hd bad ok => exact (fault_rows hC ev hk hd bad).elim
    | @lack C' r' b' hC' L' =>
      have e := countsD_inj ev
      subst e
      exact (L'.no hN).elim
    | none => rfl

/-! ### the law's own reckoning: one row of roads -/
inductive Told where
  | door (n b : Nat)
  | wait (r b : Nat)
  | stay (r b : Nat)
  deriving DecidableEq
def toldD : Told → PyData
  | .door n b => .tuple [.str "door", .int n, .int b]
  | .wait r b => .tuple [.str "wait", .int r, .int b]
  | .stay r b => .tuple [.str "stay", .int r, .int b]
def toldDoors (B : Nat) : Nat → List Door → List Told
  | _, [] => []
  | k, d :: ds => (List.range (nb B d)).map (Told.door k) ++ toldDoors B (k + 1) ds
def lastT (B r b : Nat) : Told := if b + 1 = B then .stay r b else .wait r b
def toldRooms (R B : Nat) : List Told := (List.range R).flatMap fun r => (List.range B).map (lastT B r)
def toldL (R B : Nat) (ds : List Door) : List Told := toldDoors B 0 ds ++ toldRooms R B
/-- how many more, or fewer, a door's road makes -/
def movedOne (d : Door) (c : Int) (b' r b : Nat) : Int := if d.one = r ∧ b' = b then 0 - c else if d.other = r ∧ b' + d.time = b then c else 0
def mv (ds : List Door) (r b : Nat) : Told → Int → Int
  | .door n b', c => movedOne (ds.getD n default) c b' r b
  | _, _ => 0
def cnt (C : List (List Int)) : Told → Int
  | .door n b => (C.getD n []).getD b 0
  | _ => 0
/-- what stands at a road, when all waits ahead of beat b, room r are told -/
def val (ds : List Door) (C : List (List Int)) (r b : Nat) : Told → Int
  | .door n b' => (C.getD n []).getD b' 0
  | .wait r' b' => if b' < b ∨ (b' = b ∧ r' < r) then there ds C r' b' else 0
  | .stay r' b' => if b' < b ∨ (b' = b ∧ r' < r) then there ds C r' b' else 0

theorem map_range_getD (own : List Int) : (List.range own.length).map (fun b => own.getD b 0) = own := by
  apply List.ext_getElem
  · simp
  · intro i h1 h2
    simp [List.getD_eq_getElem?_getD, h2]
theorem doors_val {B : Nat} (f : Told → Int) : ∀ (ds' : List Door) (C' : List (List Int)) (k : Nat), Good B ds' C' → (∀ n b, f (.door (k + n) b) = (C'.getD n []).getD b 0) → (toldDoors B k ds').map f = C'.flatten
  | [], [], _, _, _ => rfl
  | [], _ :: _, _, G, _ => by have := G.len; simp at this
  | _ :: _, [], _, G, _ => by have := G.len; simp at this
  | d :: ds', own :: C', k, G, h => by
    have hl : own.length = nb B d := (G.row 0 own d rfl rfl).1
    have ih := doors_val f ds' C' (k + 1) ⟨by have := G.len; simpa using this, fun j o d' a b => G.row (j + 1) o d' (by simpa using a) (by simpa using b)⟩ fun n b => by
      have := h (n + 1) b
      rw [show k + 1 + n = k + (n + 1) by omega, this]
      simp [List.getD_eq_getElem?_getD]
    unfold toldDoors
    rw [List.map_append, ih, List.map_map, List.flatten_cons, ← hl]
    congr 1
    conv => rhs; rw [← map_range_getD own]
    apply List.map_congr_left
    intro b _
    have := h 0 b
    simpa using this
/-- a sum over one door's roads -/
theorem sum_pick (f : Nat → Int) (j : Nat) : ∀ m, ((List.range m).map fun b => if b = j then f b else 0).sum = if j < m then f j else 0
  | 0 => by simp
  | m + 1 => by
    rw [List.range_succ, List.map_append, List.sum_append, sum_pick f j m]
    simp only [List.map_cons, List.map_nil, List.sum_cons, List.sum_nil]
    by_cases h : j < m
    · rw [if_pos h, if_pos (show j < m + 1 by omega), if_neg (show ¬ m = j by omega)]
      omega
    · rw [if_neg h]
      by_cases e : m = j
      · rw [if_pos e, if_pos (show j < m + 1 by omega), e]
        omega
      · rw [if_neg e, if_neg (show ¬ j < m + 1 by omega)]
        omega
theorem sum_sub {α : Type} (f g : α → Int) : ∀ l : List α, (l.map fun x => f x - g x).sum = (l.map f).sum - (l.map g).sum
  | [] => by simp
  | x :: l => by
    simp only [List.map_cons, List.sum_cons, sum_sub f g l]
    omega
theorem door_sum {R B : Nat} {d : Door} (ok : d.Ok R) (own : List Int) (hl : own.length = nb B d) (r b : Nat) (hb : b < B) (hr : r < R) :
    ((List.range (nb B d)).map fun b' => movedOne d (own.getD b' 0) b' r b).sum = comeOne r b d own - goneOne r b d own := by
  have e : ∀ b', movedOne d (own.getD b' 0) b' r b = (if b' = b - d.time then (if d.other = r ∧ d.time ≤ b then own.getD b' 0 else 0) else 0) - (if b' = b then (if d.one = r then own.getD b' 0 else 0) else 0) := by
    intro b'
    unfold movedOne
    by_cases h1 : d.one = r ∧ b' = b
    · obtain ⟨h1, h2⟩ := h1
      rw [if_pos ⟨h1, h2⟩, if_pos h2, if_pos h1]
      have : ¬ (b' = b - d.time ∧ (d.other = r ∧ d.time ≤ b)) := by
        rintro ⟨a1, a2, a3⟩
        rcases ok with o | o | o <;> omega
      by_cases a1 : b' = b - d.time
      · rw [if_pos a1, if_neg (fun a2 => this ⟨a1, a2⟩)]
      · rw [if_neg a1]
    · rw [if_neg h1]
      have z : (if b' = b then (if d.one = (r : Int) then own.getD b' 0 else 0) else 0) = (0 : Int) := by
        by_cases a : b' = b
        · rw [if_pos a, if_neg (fun q => h1 ⟨q, a⟩)]
        · rw [if_neg a]
      rw [z]
      by_cases h2 : d.other = r ∧ b' + d.time = b
      · rw [if_pos h2, if_pos (show b' = b - d.time by omega), if_pos ⟨h2.1, by omega⟩]
        omega
      · rw [if_neg h2]
        by_cases a1 : b' = b - d.time
        · rw [if_pos a1, if_neg (fun a2 => h2 ⟨a2.1, by omega⟩)]
          omega
        · rw [if_neg a1]
          omega
  rw [List.map_congr_left fun b' _ => e b', sum_sub, sum_pick (fun b' => if d.other = r ∧ d.time ≤ b then own.getD b' 0 else 0), sum_pick (fun b' => if d.one = (r : Int) then own.getD b' 0 else 0)]
  congr 1
  · unfold comeOne
    by_cases h : d.other = r ∧ d.time ≤ b
    · simp only [if_pos h]
      rw [if_pos (show b - d.time < nb B d by unfold nb; omega)]
    · simp only [if_neg h]
      split <;> rfl
  · unfold goneOne
    rw [hl]
    by_cases h1 : b < nb B d
    · rw [if_pos h1]
      by_cases h2 : d.one = (r : Int)
      · simp only [if_pos h2]
        rw [if_pos ⟨h2, h1⟩]
      · simp only [if_neg h2]
        rw [if_neg (fun q => h2 q.1)]
    · rw [if_neg h1, if_neg (fun q => h1 q.2)]
theorem doors_sum {R B : Nat} (f : Told → Int) (r b : Nat) (hb : b < B) (hr : r < R) : ∀ (ds' : List Door) (C' : List (List Int)) (k : Nat), Good B ds' C' → (∀ d ∈ ds', d.Ok R) →
    (∀ n b', n < ds'.length → f (.door (k + n) b') = movedOne (ds'.getD n default) ((C'.getD n []).getD b' 0) b' r b) → ((toldDoors B k ds').map f).sum = come ds' C' r b - gone ds' C' r b
  | [], [], _, _, _, _ => by simp [toldDoors, come, gone]
  | [], _ :: _, _, G, _, _ => by have := G.len; simp at this
  | _ :: _, [], _, G, _, _ => by have := G.len; simp at this
  | d :: ds', own :: C', k, G, ok, h => by
    have hl : own.length = nb B d := (G.row 0 own d rfl rfl).1
    have ih := doors_sum (R := R) f r b hb hr ds' C' (k + 1) ⟨by have := G.len; simpa using this, fun j o d' a b => G.row (j + 1) o d' (by simpa using a) (by simpa using b)⟩ (fun d' hd => ok d' (List.mem_cons_of_mem _ hd)) fun n b' hn => by
      have := h (n + 1) b' (by simp; omega)
      rw [show k + 1 + n = k + (n + 1) by omega, this]
      simp [List.getD_eq_getElem?_getD]
    have one := door_sum (ok d List.mem_cons_self) own hl r b hb hr
    unfold toldDoors come gone
    rw [List.map_append, List.sum_append, ih, List.map_map, List.zipWith_cons_cons, List.zipWith_cons_cons, List.sum_cons, List.sum_cons]
    have e : ((List.range (nb B d)).map (f ∘ Told.door k)).sum = comeOne r b d own - goneOne r b d own := by
      rw [← one]
      congr 1
      apply List.map_congr_left
      intro b' _
      have := h 0 b' (by simp)
      simpa using this
    rw [e]
    unfold come gone
    omega
/-- the law's sum at a room and a beat -/
theorem law_sum {R B : Nat} {ds : List Door} {C : List (List Int)} (G : Good B ds C) (ok : ∀ d ∈ ds, d.Ok R) (f : Told → Int) (hf : ∀ n b', f (.door n b') = (C.getD n []).getD b' 0) (r b : Nat) (hb : b < B) (hr : r < R) :
    ((toldL R B ds).map fun t => mv ds r b t (f t)).sum = come ds C r b - gone ds C r b := by
  unfold toldL
  rw [List.map_append, List.sum_append]
  have e1 := doors_sum (R := R) (fun t => mv ds r b t (f t)) r b hb hr ds C 0 G ok fun n b' _ => by
    show mv ds r b (.door (0 + n) b') (f (.door (0 + n) b')) = _
    rw [Nat.zero_add, hf]
    rfl
  rw [e1]
  have e2 : ((toldRooms R B).map fun t => mv ds r b t (f t)).sum = 0 := by
    have z : ∀ l : List Told, (∀ t ∈ l, mv ds r b t (f t) = 0) → (l.map fun t => mv ds r b t (f t)).sum = 0 := by
      intro l
      induction l with
      | nil => intro _; rfl
      | cons t l ih =>
        intro h
        rw [List.map_cons, List.sum_cons, h t List.mem_cons_self, ih fun t' ht => h t' (List.mem_cons_of_mem _ ht)]
        rfl
    refine z _ fun t ht => ?_
    unfold toldRooms at ht
    obtain ⟨r', _, h⟩ := List.mem_flatMap.mp ht
    obtain ⟨b', _, rfl⟩ := List.mem_map.mp h
    unfold lastT
    split <;> rfl
  rw [e2]
  omega
theorem there_eq (ds : List Door) (C : List (List Int)) (r b : Nat) : there ds C r b = (if b = 0 then 0 else there ds C r (b - 1)) + (come ds C r b - gone ds C r b) := by
  cases b with
  | zero =>
    rw [if_pos rfl]
    unfold there
    omega
  | succ b =>
    rw [if_neg (Nat.succ_ne_zero b)]
    show there ds C r b + come ds C r (b + 1) - gone ds C r (b + 1) = _
    rw [Nat.add_sub_cancel]
    omega

/-! ### the list of what the roads stand for names each once -/
theorem mem_doors {B : Nat} : ∀ {ds : List Door} {k : Nat} {t : Told}, t ∈ toldDoors B k ds → ∃ n b, t = .door n b ∧ k ≤ n
  | [], _, _, h => by simp [toldDoors] at h
  | d :: ds, k, t, h => by
    unfold toldDoors at h
    rcases List.mem_append.mp h with h | h
    · obtain ⟨b, _, rfl⟩ := List.mem_map.mp h
      exact ⟨k, b, rfl, Nat.le_refl _⟩
    · obtain ⟨n, b, e, hn⟩ := mem_doors h
      exact ⟨n, b, e, by omega⟩
theorem mem_rooms {R B : Nat} {t : Told} (h : t ∈ toldRooms R B) : ∃ r b, r < R ∧ b < B ∧ t = lastT B r b := by
  unfold toldRooms at h
  obtain ⟨r, hr, h⟩ := List.mem_flatMap.mp h
  obtain ⟨b, hb, rfl⟩ := List.mem_map.mp h
  exact ⟨r, b, List.mem_range.mp hr, List.mem_range.mp hb, rfl⟩
theorem lastT_inj {B r b r' b' : Nat} (h : lastT B r b = lastT B r' b') : r = r' ∧ b = b' := by
  unfold lastT at h
  split at h <;> split at h <;> cases h <;> exact ⟨rfl, rfl⟩
theorem nodup_map_inj {α β : Type} {f : α → β} : ∀ {l : List α}, l.Nodup → (∀ a ∈ l, ∀ b ∈ l, f a = f b → a = b) → (l.map f).Nodup
  | [], _, _ => List.nodup_nil
  | a :: l, h, inj => by
    obtain ⟨h1, h2⟩ := List.nodup_cons.mp h
    rw [List.map_cons]
    refine List.nodup_cons.mpr ⟨fun m => ?_, nodup_map_inj h2 fun x hx y hy => inj x (List.mem_cons_of_mem _ hx) y (List.mem_cons_of_mem _ hy)⟩
    obtain ⟨b, hb, e⟩ := List.mem_map.mp m
    have := inj b (List.mem_cons_of_mem _ hb) a List.mem_cons_self e
    exact h1 (this ▸ hb)
theorem nodup_doors (B : Nat) : ∀ (ds : List Door) (k : Nat), (toldDoors B k ds).Nodup
  | [], _ => List.nodup_nil
  | d :: ds, k => by
    unfold toldDoors
    refine List.nodup_append.mpr ⟨nodup_map_inj List.nodup_range fun a _ b _ h => by injection h, nodup_doors B ds (k + 1), fun a ha b hb e => ?_⟩
    obtain ⟨x, _, rfl⟩ := List.mem_map.mp ha
    obtain ⟨n, y, e2, hn⟩ := mem_doors hb
    rw [← e] at e2
    injection e2 with e3 _
    omega
theorem nodup_flat {α : Type} (f : Nat → List α) (h1 : ∀ r, (f r).Nodup) (h2 : ∀ r r', r ≠ r' → ∀ a ∈ f r, a ∉ f r') : ∀ n, ((List.range n).flatMap f).Nodup
  | 0 => by simp
  | n + 1 => by
    rw [List.range_succ, List.flatMap_append]
    refine List.nodup_append.mpr ⟨nodup_flat f h1 h2 n, by simpa using h1 n, fun a ha b hb e => ?_⟩
    obtain ⟨r, hr, h⟩ := List.mem_flatMap.mp ha
    have hr' := List.mem_range.mp hr
    have hb' : b ∈ f n := by simpa using hb
    exact h2 r n (by omega) a h (e ▸ hb')
theorem nodup_rooms (R B : Nat) : (toldRooms R B).Nodup := by
  unfold toldRooms
  refine nodup_flat _ (fun r => nodup_map_inj List.nodup_range fun a _ b _ h => (lastT_inj h).2) (fun r r' ne a ha ha' => ?_) R
  obtain ⟨b, _, rfl⟩ := List.mem_map.mp ha
  obtain ⟨b', _, e⟩ := List.mem_map.mp ha'
  exact ne (lastT_inj e).1.symm
theorem nodup_told (R B : Nat) (ds : List Door) : (toldL R B ds).Nodup := by
  unfold toldL
  refine List.nodup_append.mpr ⟨nodup_doors B ds 0, nodup_rooms R B, fun a ha b hb e => ?_⟩
  obtain ⟨n, x, e1, _⟩ := mem_doors ha
  obtain ⟨r, y, _, _, e2⟩ := mem_rooms hb
  rw [← e, e1] at e2
  unfold lastT at e2
  split at e2 <;> cases e2
theorem last_mem {R B : Nat} {ds : List Door} {r b : Nat} (hr : r < R) (hb : b < B) : lastT B r b ∈ toldL R B ds := by
  unfold toldL toldRooms
  exact List.mem_append_right _ (List.mem_flatMap.mpr ⟨r, List.mem_range.mpr hr, List.mem_map.mpr ⟨b, List.mem_range.mpr hb, rfl⟩⟩)
/-- one place of a list that names each once is set -/
theorem map_set {α : Type} [DecidableEq α] (f g : α → Int) : ∀ (l : List α) (j : Nat) (t : α), l.Nodup → l[j]? = some t → (∀ s ∈ l, s ≠ t → f s = g s) → (l.map f).set j (g t) = l.map g
  | [], _, _, _, h, _ => by simp at h
  | a :: l, 0, t, hn, h, e => by
    have h' : a = t := by simpa using h
    subst h'
    obtain ⟨h1, _⟩ := List.nodup_cons.mp hn
    rw [List.map_cons, List.map_cons, List.set_cons_zero]
    congr 1
    exact List.map_congr_left fun s hs => e s (List.mem_cons_of_mem _ hs) fun z => h1 (z ▸ hs)
  | a :: l, j + 1, t, hn, h, e => by
    obtain ⟨h1, h2⟩ := List.nodup_cons.mp hn
    have h' : l[j]? = some t := by simpa using h
    rw [List.map_cons, List.map_cons, List.set_cons_succ, map_set f g l j t h2 h' fun s hs => e s (List.mem_cons_of_mem _ hs)]
    congr 1
    refine e a List.mem_cons_self fun z => h1 ?_
    rw [z]
    exact List.mem_of_getElem? h'
theorem val_set {R B : Nat} {ds : List Door} {C : List (List Int)} {r b j : Nat} (hj : (toldL R B ds)[j]? = some (lastT B r b)) : ((toldL R B ds).map (val ds C r b)).set j (there ds C r b) = (toldL R B ds).map (val ds C (r + 1) b) := by
  have e : val ds C (r + 1) b (lastT B r b) = there ds C r b := by
    unfold lastT
    split <;> exact if_pos (.inr ⟨rfl, Nat.lt_succ_self r⟩)
  rw [← e]
  refine map_set _ _ _ j (lastT B r b) (nodup_told R B ds) hj fun s hs ne => ?_
  unfold toldL at hs
  rcases List.mem_append.mp hs with hs | hs
  · obtain ⟨n, x, rfl, _⟩ := mem_doors hs
    rfl
  · obtain ⟨r', b', _, _, rfl⟩ := mem_rooms hs
    have q : ¬ (b' = b ∧ r' = r) := by
      rintro ⟨rfl, rfl⟩
      exact ne rfl
    have k : (b' < b ∨ (b' = b ∧ r' < r)) ↔ (b' < b ∨ (b' = b ∧ r' < r + 1)) := by omega
    unfold lastT
    split
    · simp only [val, k]
    · simp only [val, k]
theorem val_next {R B : Nat} {ds : List Door} {C : List (List Int)} {b : Nat} : (toldL R B ds).map (val ds C R b) = (toldL R B ds).map (val ds C 0 (b + 1)) := by
  refine List.map_congr_left fun s hs => ?_
  unfold toldL at hs
  rcases List.mem_append.mp hs with hs | hs
  · obtain ⟨n, x, rfl, _⟩ := mem_doors hs
    rfl
  · obtain ⟨r', b', hr, _, rfl⟩ := mem_rooms hs
    have k : (b' < b ∨ (b' = b ∧ r' < R)) ↔ (b' < b + 1 ∨ (b' = b + 1 ∧ r' < 0)) := by omega
    unfold lastT
    split
    · simp only [val, k]
    · simp only [val, k]
theorem val_first {R B : Nat} {ds : List Door} {C : List (List Int)} : (toldL R B ds).map (cnt C) = (toldL R B ds).map (val ds C 0 0) := by
  refine List.map_congr_left fun s hs => ?_
  cases s with
  | door n b => rfl
  | wait r b => simp [cnt, val]
  | stay r b => simp [cnt, val]
theorem val_last {R B : Nat} {ds : List Door} {C : List (List Int)} (G : Good B ds C) : (toldL R B ds).map (val ds C 0 B) = tallyL R B ds C := by
  unfold toldL tallyL
  rw [List.map_append, doors_val (val ds C 0 B) ds C 0 G fun n b => by rw [Nat.zero_add]; rfl]
  congr 1
  unfold toldRooms
  rw [List.map_flatMap]
  congr 1
  funext r
  rw [List.map_map]
  refine List.map_congr_left fun b hb => ?_
  have hb' := List.mem_range.mp hb
  show val ds C 0 B (lastT B r b) = _
  unfold lastT
  split <;> exact if_pos (.inl hb')
end K8

namespace K8
open PySem PySem.Spec PyProof.Rows L2

abbrev P0 : Program := PySem.Challenge.pw_suretrips_k88_whole_counts_and_who_lacks
def topS (i : Nat) : Stmt := PySem.Challenge.pw_suretrips_k88_whole_counts_and_who_lacks.main.body.getD i (.Pass ⟨0, 0, 0, 0⟩)

/-! ## isinstance of data -/
def tyName : PyData → String
  | .none => "NoneType"
  | .bool _ => "bool"
  | .int _ => "int"
  | .str _ => "str"
  | .list _ => "list"
  | .tuple _ => "tuple"
  | .dict _ => "dict"
def isTyD (T : String) (d : PyData) : Bool := (kitB (tyName d) T).getD false
theorem dq_ty {K : PySem.W.Frag} {H : Hp} {v : V} {d : PyData} (h : Dq K H v d) : TyX K H v (.type (tyName d)) := by
  cases d with
  | none => cases h; exact .base .non
  | bool b => cases h; exact .base (.bl b)
  | int i => cases h; exact .base (.int i)
  | str x => cases h; exact .base (.str x)
  | list ds =>
    cases h with
    | lst h r =>
      rcases h with (h | ⟨o, h⟩) | ⟨o, its, n, h1, h2, _⟩
      · exact .base (.lst h)
      · exact .base (.frz h)
      · exact .kList h1 h2
  | tuple ds =>
    cases h with
    | tup h r =>
      rcases h with (h | ⟨o, h⟩) | ⟨o, its, n, h1, h2, _⟩
      · exact .base (.tup h)
      · exact .fTuple h
      · exact .kTuple h1 h2
  | dict kvs =>
    cases h with
    | dic h => exact .base (.dK h)
theorem kits : ∀ n ∈ ["NoneType", "bool", "int", "str", "list", "tuple", "dict"], kitB n "int" = some (n == "int" || n == "bool") ∧ kitB n "bool" = some (n == "bool") ∧ kitB n "tuple" = some (n == "tuple") := by decide +kernel
theorem tyName_mem : ∀ d : PyData, tyName d ∈ ["NoneType", "bool", "int", "str", "list", "tuple", "dict"] := by
  intro d
  cases d <;> simp [tyName]
theorem ty_int (d : PyData) : isTyD "int" d = (tyName d == "int" || tyName d == "bool") ∧ (kitB (tyName d) "int").isSome = true := by
  have h := (kits _ (tyName_mem d)).1
  unfold isTyD
  rw [h]
  exact ⟨rfl, rfl⟩
theorem ty_bool (d : PyData) : isTyD "bool" d = (tyName d == "bool") ∧ (kitB (tyName d) "bool").isSome = true := by
  have h := (kits _ (tyName_mem d)).2.1
  unfold isTyD
  rw [h]
  exact ⟨rfl, rfl⟩
theorem ty_tuple (d : PyData) : isTyD "tuple" d = (tyName d == "tuple") ∧ (kitB (tyName d) "tuple").isSome = true := by
  have h := (kits _ (tyName_mem d)).2.2
  unfold isTyD
  rw [h]
  exact ⟨rfl, rfl⟩
def rIsD (K : PySem.W.Frag) : List V → Hp → VK → Prop := fun xs H Q => ∃ (v : V) (d : PyData) (T : String), xs = [v, .ty T] ∧ Dq K H v d ∧ (kitB (tyName d) T).isSome = true ∧ Q (.bl (isTyD T d)) H
theorem call_isD {X : Cx} : CallR X (.builtin "isinstance") (rIsD X.K) := by
  intro pins s σ H xs us Q I r h
  obtain ⟨v, d, T, rfl, hd, hs, q⟩ := h
  obtain ⟨b, hb⟩ := Option.isSome_iff_exists.mp hs
  have e : isTyD T d = b := by
    unfold isTyD
    rw [hb]
    rfl
  rw [e] at q
  exact call_isi pins s σ H _ us Q I r ⟨v, .ty T, _, _, b, rfl, .ty T, dq_ty hd, kit_ty hb, q⟩

/-! ## a def of the text that keeps its promise, found by its name -/
def Has (P : Program) (w : World) (K : PySem.W.Frag) (mg : Str → Option Value) (base : Heap) (CX : CXT) (k : Nat) (x : Str) (ps : List Str) (sp : Sp) : Prop :=
  ∃ (f : Addr) (fd : FuncData), FnOk P w K mg base CX k f fd ps sp ∧ mg x = some (.ref f) ∧ PySem.W.keepIn K (.ref f) = true ∧ Binds K fd ps []
theorem pe_fn {X : Cx} {k : Nat} {x : Str} {ps : List Str} {sp : Sp} {p pos : Pos} {e : Expr} {es : List Expr} {t : TA} (C : Has X.prog X.w X.K X.mg X.base CX0 k x ps sp) (hr : Room k X.A) (hg : Gl X x) (ha : PA X (e :: es) t)
    (hdb : (x == ("__debug__" : Str)) = false := by decide) (he : starEach (e :: es) X.env = (false, eval e X.env) :: starEach es X.env := by rfl) (hpl : (backTo pos (starEach es X.env)).any (·.1) = false := by rfl) :
    PE X (.Call (.Name x p) (e :: es) [] pos) (tCall sp [] E0 t) := by
  obtain ⟨f, fd, ok, g, kp, b⟩ := C
  exact pe_call ok hr hg g kp b .nil pass0 ha hdb he hpl

section
variable {P : Program} {w : World} {K : PySem.W.Frag} {mg : Str → Option Value} {base : Heap}
/-! ## is_integer, beats_of, is_count -/
abbrev sIsInteger : Stmt := topS 6
theorem scIsInteger : FnScope ["value"] ["value"] (defScope sIsInteger) := ⟨rfl, rfl, rfl, by decide +kernel, rfl, by decide +kernel, by decide +kernel⟩
def spIsInteger (K : PySem.W.Frag) : Sp := fun vs H Q _ => ∃ (v : V) (d : PyData), vs = [v] ∧ Dq K H v d ∧ Q (.bl (isIntD d)) H
theorem ok_is_integer {f : Addr} {fd : FuncData} (F : Fun K "is_integer" "is_integer" sIsInteger f fd) (m1 : mg "isinstance" = none) (m2 : mg "int" = none) (m3 : mg "bool" = none) :
    FnOk P w K mg base CX0 1 f fd ["value"] (spIsInteger K) := by
  refine F.ok scIsInteger (fun vs H Q E h => ?_) (fun cdv A outer s H vs Q E hr h => ?_)
  · obtain ⟨v, d, rfl, _⟩ := h
    rfl
  · obtain ⟨v, d, rfl, hd, q⟩ := h
    refine ⟨_, pss_one (ps_ret (pe_and (pe_callB call_isD (by rfl) m1 (by decide +kernel) (pa_cons (pv 0) (pa_cons (pe_bltn (v := .ty "int") (by rfl) m2 (by decide +kernel) rfl) pa_nil)))
      (pe_one (pe_not (pe_callB call_isD (by rfl) m1 (by decide +kernel) (pa_cons (pv 0) (pa_cons (pe_bltn (v := .ty "bool") (by rfl) m3 (by decide +kernel) rfl) pa_nil))))))), ?_⟩
    refine ⟨v, rfl, v, d, "int", rfl, hd, (ty_int d).2, _, rfl, ite2 (fun e => ?_) (fun e => ?_)⟩
    · refine ⟨v, rfl, v, d, "bool", rfl, hd, (ty_bool d).2, _, rfl, ?_⟩
      rw [(ty_bool d).1]
      rw [(ty_int d).1] at e
      cases d <;> first | exact q | simp [tyName] at e
    · rw [(ty_int d).1] at e
      cases d <;> first | exact q | simp [tyName] at e
abbrev sBeatsOf : Stmt := topS 8
theorem scBeatsOf : FnScope ["beats", "door"] ["beats", "door"] (defScope sBeatsOf) := ⟨rfl, rfl, rfl, by decide +kernel, rfl, by decide +kernel, by decide +kernel⟩
def spBeatsOf (K : PySem.W.Frag) : Sp := fun vs H Q _ => ∃ (v : V) (B : Nat) (d : Door), vs = [.int B, v] ∧ Dq K H v (doorD d) ∧ Q (.int (nb B d)) H
theorem ok_beats_of {f : Addr} {fd : FuncData} (F : Fun K "beats_of" "beats_of" sBeatsOf f fd) (m1 : mg "max" = none) : FnOk P w K mg base CX0 1 f fd ["beats", "door"] (spBeatsOf K) := by
  refine F.ok scBeatsOf (fun vs H Q E h => ?_) (fun cdv A outer s H vs Q E hr h => ?_)
  · obtain ⟨v, B, d, rfl, _⟩ := h
    rfl
  · obtain ⟨v, B, d, rfl, hd, q⟩ := h
    obtain ⟨p, xs, rfl, hp, hx⟩ := Dq.tupI hd
    obtain ⟨t, ht, ht'⟩ := hx.at (i := 2) rfl
    cases ht'
    refine ⟨_, pss_one (ps_ret (pe_callB (call_max2 rfl) (by rfl) m1 (by decide +kernel) (pa_cons pe_int (pa_cons (pe_op op_sub (pv 0) (pe_ix ix_tup (pv 1) pe_int (fun _ _ => rfl))) pa_nil)))), ?_⟩
    refine ⟨_, rfl, _, rfl, p, xs, 2, _, rfl, rfl, hp, atI_nat (j := 2) ht, B, d.time, rfl, rfl, _, _, rfl, ?_⟩
    have e : (if ((B : Int) - (d.time : Int)) > 0 then ((B : Int) - (d.time : Int)) else 0) = ((nb B d : Nat) : Int) := by
      unfold nb
      split <;> omega
    rw [e]
    exact q
abbrev sIsCount : Stmt := topS 10
theorem scIsCount : FnScope ["value"] ["value"] (defScope sIsCount) := ⟨rfl, rfl, rfl, by decide +kernel, rfl, by decide +kernel, by decide +kernel⟩
def spIsCount (K : PySem.W.Frag) : Sp := fun vs H Q _ => ∃ (v : V) (d : PyData), vs = [v] ∧ Dq K H v d ∧ Q (.bl (isCountD d)) H
theorem ok_is_count {f : Addr} {fd : FuncData} {tk : Tok} (F : Fun K "is_count" "is_count" sIsCount f fd) (C : Has P w K mg base CX0 1 "is_integer" ["value"] (spIsInteger K)) (mM : mg "MAX_COUNT" = some (.int big tk)) :
    FnOk P w K mg base CX0 2 f fd ["value"] (spIsCount K) := by
  refine F.ok scIsCount (fun vs H Q E h => ?_) (fun cdv A outer s H vs Q E hr h => ?_)
  · obtain ⟨v, d, rfl, _⟩ := h
    rfl
  · obtain ⟨v, d, rfl, hd, q⟩ := h
    refine ⟨_, pss_one (ps_ret (pe_and (pe_fn C hr (by rfl) (pa_cons (pv 0) pa_nil))
      (pe_one (pe_chain op_le op_le pe_int (pv 0) (pe_glob (v := .int big) (by rfl) mM ⟨_, rfl⟩))))), ?_⟩
    refine ⟨v, rfl, v, d, rfl, hd, _, rfl, ite2 (fun e => ?_) (fun e => ?_)⟩
    · cases d with
      | int i =>
        cases hd
        refine ⟨.int i, rfl, 0, i, rfl, rfl, _, rfl, ite2 (fun e1 => ?_) (fun e1 => ?_)⟩
        · refine ⟨i, big, rfl, rfl, ?_⟩
          have z : isCountD (.int i) = decide (i ≤ big) := by
            show (decide (0 ≤ i) && decide (i ≤ big)) = _
            rw [e1, Bool.true_and]
          rw [z] at q
          exact q
        · have z : isCountD (.int i) = false := by
            show (decide (0 ≤ i) && decide (i ≤ big)) = _
            rw [Bool.eq_false_iff.mpr e1, Bool.false_and]
          rw [z] at q
          exact q
      | _ => simp [isIntD] at e
    · have z : isCountD d = false := by
        cases d <;> first | rfl | exact absurd rfl e
      rw [z] at q
      exact q
end
end K8

namespace K8
open PySem PySem.Spec PyProof.Rows L2

/-! ## == of data without dicts -/
section
variable {K : PySem.W.Frag} {H : Hp}
mutual
theorem Dq.dp : ∀ (d : PyData) (v : V), d.canLay0 = true → Dq K H v d → Dp K H v d
  | .none, _, _, h => by cases h; exact .non
  | .bool b, _, _, h => by cases h; exact .bl b
  | .int i, _, _, h => by cases h; exact .int i
  | .str x, _, _, h => by cases h; exact .str x
  | .list ds, _, hl, h => by
    cases h with
    | lst h r => exact .lst h (DqAll.dp ds _ (by simpa [PyData.canLay0] using hl) r)
  | .tuple ds, _, hl, h => by
    cases h with
    | tup h r => exact .tup h (DqAll.dp ds _ (by simpa [PyData.canLay0] using hl) r)
  | .dict _, _, hl, _ => by simp [PyData.canLay0] at hl
theorem DqAll.dp : ∀ (ds : List PyData) (vs : List V), PyData.canLayAll0 ds = true → DqAll K H vs ds → DpAll K H vs ds
  | [], _, _, h => by cases h; exact .nil
  | d :: ds, _, hl, h => by
    have hl' : d.canLay0 = true ∧ PyData.canLayAll0 ds = true := by simpa [PyData.canLayAll0] using hl
    cases h with
    | cons h r => exact .cons (Dq.dp d _ hl'.1 h) (DqAll.dp ds _ hl'.2 r)
end
end
def rEqX (K : PySem.W.Frag) (f : Bool → Bool) : R2 := fun x y H Q => ∃ d e, Dq K H x d ∧ Dq K H y e ∧ SeqAt.shaped d = true ∧ SeqAt.shaped e = true ∧ Q (.bl (f (PyData.eqv d e))) H
theorem op_eqX {X : Cx} (hu : X.A.units + 64 < cLine) : OpR X (compareOp .Eq) (rEqX X.K id) := by
  intro pins s σ H x y v u Q I rx ry h
  obtain ⟨d, e, hd, he, sd, se, q⟩ := h
  exact op_eqD hu pins s σ H x y v u Q I rx ry ⟨d, e, Dq.dp d x (SeqAt.canLay_of_shaped sd) hd, Dq.dp e y (SeqAt.canLay_of_shaped se) he, sd, se, q⟩
theorem op_neX {X : Cx} (hu : X.A.units + 64 < cLine) : OpR X (compareOp .NotEq) (rEqX X.K not) := by
  intro pins s σ H x y v u Q I rx ry h
  obtain ⟨d, e, hd, he, sd, se, q⟩ := h
  exact op_neD hu pins s σ H x y v u Q I rx ry ⟨d, e, Dq.dp d x (SeqAt.canLay_of_shaped sd) hd, Dq.dp e y (SeqAt.canLay_of_shaped se) he, sd, se, q⟩
theorem lay_ints : ∀ ns : List Int, PyData.canLayAll0 (ns.map PyData.int) = true ∧ PyData.depthAll (ns.map PyData.int) = 0
  | [] => ⟨by simp [PyData.canLayAll0], by simp [PyData.depthAll]⟩
  | n :: r => by
    obtain ⟨h1, h2⟩ := lay_ints r
    exact ⟨by simp [PyData.canLayAll0, PyData.canLay0, h1], by simp [PyData.depthAll, PyData.depth, h2]⟩
theorem shaped_list {ds : List PyData} (h1 : PyData.canLayAll0 ds = true) (h2 : PyData.depthAll ds ≤ 60) : SeqAt.shaped (.list ds) = true := by
  unfold SeqAt.shaped
  rw [Bool.and_eq_true]
  exact ⟨by simpa [PyData.canLay0] using h1, decide_eq_true (by simp only [PyData.depth]; omega)⟩
theorem shaped_tuple {ds : List PyData} (h1 : PyData.canLayAll0 ds = true) (h2 : PyData.depthAll ds ≤ 60) : SeqAt.shaped (.tuple ds) = true := by
  unfold SeqAt.shaped
  rw [Bool.and_eq_true]
  exact ⟨by simpa [PyData.canLay0] using h1, decide_eq_true (by simp only [PyData.depth]; omega)⟩
theorem eqv_nilL (ds : List PyData) : PyData.eqv (.list ds) (.list []) = ds.isEmpty := by
  cases ds <;> simp [PyData.eqv, PyData.eqvAll]
theorem eqv_nilT (ds : List PyData) : PyData.eqv (.tuple ds) (.tuple []) = ds.isEmpty := by
  cases ds <;> simp [PyData.eqv, PyData.eqvAll]

/-- an object that is new since H is changed -/
theorem same_put {H H' : Hp} {p : Addr} {o : HO} (e : Same H H') (h : H p = none) : Same H (upd H' p o) := fun b x z => by
  rw [upd_ne (ne_of_none z h)]
  exact e b x z
theorem same_next {H H' : Hp} {p : Addr} {o : HO} (e : Same H H') (h : H' p = none) : Same H (upd H' p o) := e.trans (same_new h)
theorem filter_empty {α : Type} (f : α → Bool) : ∀ l : List α, (l.filter fun d => !f d).isEmpty = l.all f
  | [] => rfl
  | d :: r => by
    have ih := filter_empty f r
    cases h : f d with
    | true =>
      rw [List.filter_cons_of_neg (by simp [h]), ih, List.all_cons, h, Bool.true_and]
    | false =>
      rw [List.filter_cons_of_pos (by simp [h]), List.all_cons, h, Bool.false_and]
      rfl
/-! ## how much data there is -/
mutual
def nodes : PyData → Nat
  | .none | .bool _ | .int _ | .str _ => 1
  | .list xs | .tuple xs => nodesAll xs + 1
  | .dict _ => 1
def nodesAll : List PyData → Nat
  | [] => 0
  | x :: xs => nodes x + nodesAll xs
end
theorem nodes_pos (d : PyData) : 1 ≤ nodes d := by
  cases d <;> simp [nodes]
theorem len_nodes : ∀ ds : List PyData, ds.length ≤ nodesAll ds
  | [] => Nat.le_refl _
  | d :: ds => by
    have h1 := nodes_pos d
    have h2 := len_nodes ds
    simp only [nodesAll, List.length_cons]
    omega
theorem nodes_mem : ∀ {ds : List PyData} {d : PyData}, d ∈ ds → nodes d ≤ nodesAll ds
  | [], _, h => nomatch h
  | x :: ds, d, h => by
    simp only [nodesAll]
    rcases List.mem_cons.mp h with e | e
    · rw [e]
      omega
    · have := nodes_mem e
      omega

section
variable {P : Program} {w : World} {K : PySem.W.Frag} {mg : Str → Option Value} {base : Heap}
/-! ## are_counts -/
abbrev sAreCounts : Stmt := topS 15
theorem scAreCounts : FnScope ["value", "many", "item"] ["value", "many"] (defScope sAreCounts) := ⟨rfl, rfl, rfl, by decide +kernel, rfl, by decide +kernel, by decide +kernel⟩
def spAreCounts (K : PySem.W.Frag) : Sp := fun vs H Q _ => ∃ (v : V) (d : PyData) (n : Nat), vs = [v, .int n] ∧ Dq K H v d ∧ nodes d ≤ 1000 ∧ ∀ H', Same H H' → Q (.bl (rowOk n d)) H'
theorem take_succ {α : Type} {l : List α} {i : Nat} {x : α} (h : l[i]? = some x) : l.take (i + 1) = l.take i ++ [x] := by
  rw [List.take_add_one, h]
  rfl
theorem ok_are_counts {f : Addr} {fd : FuncData} (F : Fun K "are_counts" "are_counts" sAreCounts f fd) (C : Has P w K mg base CX0 2 "is_count" ["value"] (spIsCount K)) (m1 : mg "isinstance" = none) (m2 : mg "tuple" = none) (m3 : mg "len" = none) :
    FnOk P w K mg base CX0 3 f fd ["value", "many"] (spAreCounts K) := by
  refine F.ok scAreCounts (fun vs H Q E h => ?_) (fun cdv A outer s H vs Q E hr h => ?_)
  · obtain ⟨v, d, n, rfl, _⟩ := h
    rfl
  · obtain ⟨v, d, n, rfl, hd, hz, q⟩ := h
    refine ⟨_, pss_cons (ps_if (PW.pt (pw_or (pt_not (pt_val (pe_callB call_isD (by rfl) m1 (by decide +kernel) (pa_cons (pv 0) (pa_cons (pe_bltn (v := .ty "tuple") (by rfl) m2 (by decide +kernel) rfl) pa_nil)))))
        (pw_or1 (pt_cmpR op_ne (pe_callB call_len_seq (by rfl) m3 PySem.boot_len (pa_cons (pv 0) pa_nil)) (pv 1) (nomark _))))) (pss_one (ps_ret pe_bl)) pss_nil)
      (pss_one (ps_ret (pe_cmpR (op_eqX hr.units) (pe_lc (own := [("item", 2)]) (g := gName 2) rfl scAreCounts.nd (pi_tup (pv 0)) (blkOk_by (N := ["value", "many", "item"]) (sc := defScope sAreCounts) (by decide +kernel))
        (fun _ _ _ _ _ => pg_name (i := 2) scAreCounts.nd rfl (Or.inl rfl)) (fun _ _ _ _ _ => pts_one (pt_not (pt_val (pe_fn C hr (by rfl) (pa_cons (pv 2) pa_nil))))) (fun _ _ _ _ _ => pe_int)) (pe_lst pa_nil) (nomark _)))), ?_⟩
    refine ⟨v, rfl, v, d, "tuple", rfl, hd, (ty_tuple d).2, _, rfl, ?_⟩
    rw [(ty_tuple d).1]
    by_cases ht : ∃ ds, d = .tuple ds
    · obtain ⟨ds, rfl⟩ := ht
      obtain ⟨p, xs, rfl, hp, hx⟩ := Dq.tupI hd
      refine iteF ?_
      refine ⟨.ref p, rfl, p, xs, rfl, .inr hp, .int n, rfl, rfl, _, rfl, ite2 (fun e => ?_) (fun e => ?_)⟩
      · -- another length
        have e1 : rowOk n (.tuple ds) = false := by
          have z : ¬ ds.length = n := fun y => by
            rw [← y, ← hx.len] at e
            simp at e
          show (decide (ds.length = n) && ds.all isCountD) = false
          rw [decide_eq_false z, Bool.false_and]
        rw [e1] at q
        exact q H (Same.refl H)
      · have en : ds.length = n := by
          have z : (V.int (xs.length : Nat)) = V.int n := by
            simpa using e
          have z2 := V.int.inj z
          rw [← hx.len]
          omega
        refine ⟨.ref p, rfl, p, rfl, ⟨_, hp⟩, fun D hD => ?_⟩
        have bads : Nat → List V := fun i => ((ds.take i).filter fun d => !isCountD d).map fun _ => V.int 1
        refine lc_it (walk_tup (xs := xs)) (fun i H' => Same H H' ∧ H' D = some (.lst (((ds.take i).filter fun d => !isCountD d).map fun _ => V.int 1))) ⟨same_new hD, by rw [upd_same]; rfl⟩ (fun i H' _ hP => seqT_same hP.1 hp) ?_ ?_
        · rintro i x H1 H2 hi ⟨hS, hL⟩ ⟨rfl, hx2⟩
          have hi' : i < ds.length := by
            rw [← hx.len]
            exact hi
          obtain ⟨x', hx', hdq⟩ := hx.at (i := i) (d := ds[i]) (List.getElem?_eq_getElem hi')
          obtain rfl : x' = x := Option.some.inj (hx'.symm.trans hx2)
          refine ⟨rfl, x', rfl, x', ds[i], rfl, hdq.to hS, _, rfl, ?_⟩
          have et := take_succ (List.getElem?_eq_getElem hi')
          rw [et, List.filter_append, List.map_append]
          cases hc : isCountD ds[i] with
          | true =>
            refine iteF ⟨hS, ?_⟩
            rw [hL]
            simp [hc]
          | false =>
            refine iteT ⟨_, hL, ?_, ?_⟩
            · have z : (((ds.take i).filter fun d => !isCountD d).map fun _ => V.int 1).length ≤ ds.length := by
                rw [List.length_map]
                refine Nat.le_trans (List.length_filter_le _ _) ?_
                rw [List.length_take]
                exact Nat.min_le_right _ _
              have z2 := len_nodes ds
              simp only [nodes] at hz
              exact small1000 (by omega)
            · refine ⟨same_put hS hD, ?_⟩
              rw [upd_same]
              simp [hc]
        · rintro H1 ⟨hS, hL⟩
          rw [hx.len, List.take_length] at hL
          refine ⟨Nat.zero_le _, fun o no => ?_⟩
          have hL' : (upd H1 o (.lst [])) D = some (.lst (((ds.filter fun d => !isCountD d).map fun _ => (1 : Int)).map V.int)) := by
            rw [upd_ne (ne_of_none hL no), hL, List.map_map]
            rfl
          have z2 := lay_ints ((ds.filter fun d => !isCountD d).map fun _ => (1 : Int))
          refine ⟨.list (((ds.filter fun d => !isCountD d).map fun _ => (1 : Int)).map PyData.int), .list [], .lst (.inl (.inl hL')) (dq_ints _), .lst (.inl (.inl upd_same)) .nil, shaped_list z2.1 (by rw [z2.2]; omega), by decide, ?_⟩
          rw [eqv_nilL]
          have e2 : rowOk n (.tuple ds) = (((ds.filter fun d => !isCountD d).map fun _ => (1 : Int)).map PyData.int).isEmpty := by
            show (decide (ds.length = n) && ds.all isCountD) = _
            rw [decide_eq_true en, Bool.true_and, List.isEmpty_map, List.isEmpty_map]
            exact (filter_empty isCountD ds).symm
          rw [← e2]
          exact q _ (same_next hS no)
    · have e1 : (tyName d == "tuple") = false := by
        cases d <;> first | rfl | exact absurd ⟨_, rfl⟩ ht
      have e2 : rowOk n d = false := by
        cases d <;> first | rfl | exact absurd ⟨_, rfl⟩ ht
      rw [e1]
      rw [e2] at q
      exact iteT (iteT (q H (Same.refl H)))
end
end K8

namespace K8
open PySem PySem.Spec PyProof.Rows L2

/-! ## plans and counts in the heap -/
section
variable {K : PySem.W.Frag} {H : Hp}
theorem door_inv {v : V} {d : Door} (h : Dq K H v (doorD d)) : ∃ p, v = .ref p ∧ SqT K H p [.int d.one, .int d.other, .int d.time] := by
  obtain ⟨p, xs, rfl, hp, hx⟩ := Dq.tupI h
  cases hx with
  | cons h1 r1 =>
    cases r1 with
    | cons h2 r2 =>
      cases r2 with
      | cons h3 r3 =>
        cases r3
        cases h1
        cases h2
        cases h3
        exact ⟨p, rfl, hp⟩
theorem row_inv {v : V} {own : List Int} (h : Dq K H v (rowD own)) : ∃ p, v = .ref p ∧ SqT K H p (own.map V.int) := by
  obtain ⟨p, xs, rfl, hp, hx⟩ := Dq.tupI h
  rw [dq_ints_inv hx] at hp
  exact ⟨p, rfl, hp⟩
theorem counts_inv {v : V} {C : List (List Int)} (h : Dq K H v (countsD C)) : ∃ p xs, v = .ref p ∧ SqT K H p xs ∧ DqAll K H xs (C.map rowD) := by
  obtain ⟨p, xs, rfl, hp, hx⟩ := Dq.tupI h
  exact ⟨p, xs, rfl, hp, hx⟩
theorem plan_inv {v : V} {R B : Nat} {ds : List Door} (h : Dq K H v (planD R B ds)) : ∃ p q xs, v = .ref p ∧ SqT K H p [.int R, .int B, .ref q] ∧ SqT K H q xs ∧ DqAll K H xs (ds.map doorD) := by
  obtain ⟨p, xs, rfl, hp, hx⟩ := Dq.tupI h
  cases hx with
  | cons h1 r1 =>
    cases r1 with
    | cons h2 r2 =>
      cases r2 with
      | cons h3 r3 =>
        cases r3
        cases h1
        cases h2
        obtain ⟨q, ys, rfl, hq, hy⟩ := Dq.tupI h3
        exact ⟨p, q, ys, rfl, hp, hq, hy⟩
theorem DqAll.atM {α : Type} {f : α → PyData} {l : List α} {vs : List V} {i : Nat} {v : V} (h : DqAll K H vs (l.map f)) (hv : vs[i]? = some v) : ∃ a, l[i]? = some a ∧ Dq K H v (f a) := by
  have hi : i < vs.length := (List.getElem?_eq_some_iff.mp hv).1
  have hl := h.len
  rw [List.length_map] at hl
  have hi' : i < l.length := by omega
  obtain ⟨v', e, q⟩ := h.at (i := i) (d := f l[i]) (by rw [List.getElem?_map, List.getElem?_eq_getElem hi']; rfl)
  obtain rfl : v' = v := Option.some.inj (e.symm.trans hv)
  exact ⟨l[i], List.getElem?_eq_getElem hi', q⟩
end
theorem zipW_at {α β γ : Type} {f : α → β → γ} {xs : List α} {ys : List β} {i : Nat} {x : α} {y : β} (h1 : xs[i]? = some x) (h2 : ys[i]? = some y) : (List.zipWith f xs ys)[i]? = some (f x y) := by
  rw [List.getElem?_zipWith, h1, h2]
theorem ints_at {own : List Int} {j : Nat} (h : j < own.length) : (own.map V.int)[j]? = some (.int (own.getD j 0)) := by
  rw [List.getElem?_map, List.getElem?_eq_getElem h, List.getD_eq_getElem?_getD, List.getElem?_eq_getElem h]
  rfl

section
variable {P : Program} {w : World} {K : PySem.W.Frag} {mg : Str → Option Value} {base : Heap}
/-! ## come_to -/
abbrev sComeTo : Stmt := topS 12
theorem scComeTo : FnScope ["plan", "counts", "room", "beat", "found", "door", "own", "left"] ["plan", "counts", "room", "beat"] (defScope sComeTo) := ⟨rfl, rfl, rfl, by decide +kernel, rfl, by decide +kernel, by decide +kernel⟩
def spAt (K : PySem.W.Frag) (f : List Door → List (List Int) → Nat → Nat → Int) : Sp := fun vs H Q _ => ∃ (pv cv : V) (R B r b : Nat) (ds : List Door) (C : List (List Int)), vs = [pv, cv, .int r, .int b] ∧ Dq K H pv (planD R B ds) ∧ Dq K H cv (countsD C) ∧
  Good B ds C ∧ b < B ∧ ds.length ≤ 1000 ∧ ∀ H', Same H H' → Q (.int (f ds C r b)) H'
theorem ok_come_to {f : Addr} {fd : FuncData} (F : Fun K "come_to" "come_to" sComeTo f fd) (m1 : mg "zip" = none) :
    FnOk P w K mg base CX0 1 f fd ["plan", "counts", "room", "beat"] (spAt K come) := by
  refine F.ok scComeTo (fun vs H Q E h => ?_) (fun cdv A outer s H vs Q E hr h => ?_)
  · obtain ⟨pv, cv, R, B, r, b, ds, C, rfl, _⟩ := h
    rfl
  · obtain ⟨pv, cv, R, B, r, b, ds, C, rfl, hp, hc, G, hb, _, q⟩ := h
    obtain ⟨p1, p2, xs, rfl, h1, h2, hx⟩ := plan_inv hp
    obtain ⟨p3, ys, rfl, h3, hy⟩ := counts_inv hc
    have lx : xs.length = ds.length := by
      rw [hx.len, List.length_map]
    have ly : ys.length = ds.length := by
      rw [hy.len, List.length_map, G.len]
    refine ⟨_, pss_cons (ps_set (i := 4) scComeTo.nd rfl (.inl rfl) pe_int)
      (pss_cons (ps_for PassesOwn.never rfl (RZ.pi_zipA (by rfl) m1 (pa_cons (pe_ix ix_tup (pv 0) pe_int (fun _ _ => rfl)) (pa_cons (pv 1) pa_nil)))
          (pg_tup rfl (pgs_cons (pg_name (i := 5) scComeTo.nd rfl (.inl rfl)) (pgs_cons (pg_name (i := 6) scComeTo.nd rfl (.inl rfl)) pgs_nil)))
        (pss_cons (ps_set (i := 7) scComeTo.nd rfl (.inl rfl) (pe_op op_sub (pv 3) (pe_ix ix_tup (pv 5) pe_int (fun _ _ => rfl))))
          (pss_one (ps_if (PW.pt (pw_and (pt_cmpR op_eq (pe_ix ix_tup (pv 5) pe_int (fun _ _ => rfl)) (pv 2) (nomark _)) (pw_and1 (pt_cmpR op_ge (pv 7) pe_int (nomark _)))))
            (pss_one (ps_set (i := 4) scComeTo.nd rfl (.inl rfl) (pe_op op_add (pv 4) (pe_ix ix_tup (pv 6) (pv 7) (fun _ _ => rfl))))) pss_nil))))
      (pss_one (ps_ret (pv 4)))), ?_⟩
    refine ⟨.ref p1, rfl, p1, _, 2, _, rfl, rfl, h1, atI_nat (j := 2) rfl, .ref p3, rfl, p2, p3, xs, ys, rfl, .inr ⟨h2, h3, ?_⟩⟩
    refine for_it (walk_zipT (xs := xs) (ys := ys) (n := ds.length) (by omega)) (fun i σ H' => ∃ y5 y6 y7, σ = [some (.ref p1), some (.ref p3), some (.int r), some (.int b), some (.int ((List.zipWith (comeOne r b) ds C).take i).sum), y5, y6, y7] ∧ Same H H')
      ⟨none, none, none, rfl, Same.refl H⟩ (fun i σ H' _ hP => ?_) ?_ ?_
    · obtain ⟨_, _, _, _, hS⟩ := hP
      exact ⟨seqT_same hS h2, seqT_same hS h3⟩
    · rintro i v σ H1 H2 hi ⟨y5, y6, y7, rfl, hS⟩ ⟨T, x, y, rfl, nT, rfl, ex, ey⟩
      obtain ⟨d, ed, hd⟩ := hx.atM ex
      obtain ⟨own, eo, ho⟩ := hy.atM ey
      have S2 := same_next hS nT (o := .tup [x, y])
      obtain ⟨dp, rfl, hdp⟩ := door_inv (hd.to S2)
      obtain ⟨op, rfl, hop⟩ := row_inv (ho.to S2)
      refine ⟨T, _, rfl, .inl (.inl upd_same), rfl, _, _, rfl, _, _, rfl, rfl, ?_⟩
      -- left = beat - door[2]
      refine ⟨_, rfl, _, rfl, dp, _, 2, .int d.time, rfl, rfl, hdp, atI_nat (j := 2) rfl, b, d.time, rfl, rfl, ?_⟩
      have st := sum_take (zipW_at (f := comeOne r b) ed eo)
      refine ⟨_, rfl, dp, _, 1, .int d.other, rfl, rfl, hdp, atI_nat (j := 1) rfl, _, rfl, rfl, _, rfl, ite2 (fun e => ?_) (fun e => ?_)⟩
      · have e1 : d.other = r := V.int.inj (of_decide_eq_true e)
        refine ⟨_, rfl, _, 0, rfl, rfl, _, rfl, ite2 (fun e2 => ?_) (fun e2 => ?_)⟩
        · have e3 : (0 : Int) ≤ (b : Int) - d.time := of_decide_eq_true e2
          have e4 : (b : Int) - d.time = ((b - d.time : Nat) : Int) := by omega
          have e5 : b - d.time < own.length := by
            rw [(G.row i own d eo ed).1]
            unfold nb
            omega
          refine ⟨_, rfl, _, rfl, _, rfl, op, _, _, .int (own.getD (b - d.time) 0), rfl, rfl, hop, at_of e4 (ints_at e5), _, _, rfl, rfl, ?_⟩
          refine ⟨some (.ref dp), some (.ref op), some (.int (b - d.time)), ?_, S2⟩
          rw [st]
          unfold comeOne
          rw [if_pos ⟨e1, by omega⟩]
          rfl
        · have e3 : ¬ (0 : Int) ≤ (b : Int) - d.time := fun z => e2 (decide_eq_true z)
          refine ⟨some (.ref dp), some (.ref op), some (.int (b - d.time)), ?_, S2⟩
          rw [st]
          unfold comeOne
          rw [if_neg (fun z => e3 (by omega)), Int.add_zero]
          rfl
      · have e1 : ¬ d.other = r := fun z => e (decide_eq_true (by rw [z]))
        refine ⟨some (.ref dp), some (.ref op), some (.int (b - d.time)), ?_, S2⟩
        rw [st]
        unfold comeOne
        rw [if_neg (fun z => e1 z.1), Int.add_zero]
        rfl
    · rintro σ H1 ⟨y5, y6, y7, rfl, hS⟩
      refine ⟨_, rfl, ?_⟩
      rw [List.take_of_length_le (by rw [List.length_zipWith]; omega)]
      exact q _ hS
/-! ## rules whose readings name the written part, for the blocks of comprehensions -/
theorem ix_tupK {X : Cx} {K : PySem.W.Frag} (e : X.K = K) : IxR X (rIxT K) := by
  subst e
  exact ix_tup
def rLenK (K : PySem.W.Frag) : List V → Hp → VK → Prop := fun xs H Q => ∃ p ys, xs = [.ref p] ∧ (SqL K H p ys ∨ SqT K H p ys) ∧ Q (.int ys.length) H
theorem call_lenK {X : Cx} {K : PySem.W.Frag} (e : X.K = K) : CallR X (.builtin "len") (rLenK K) := by
  subst e
  exact call_len_seq
theorem pg_tupK {X : Cx} {K : PySem.W.Frag} {es : List Expr} {k : Nat} {t : TGs} {pos : Pos} (n : Nat) (e : X.K = K) (hc : X.calm = true) (h : PGs X es t) (hn : (assignEach es X.env).length = n := by rfl) (hst : (assignEach es X.env).findIdx? (·.1) = none := by rfl) :
    PG X (.Tuple es k pos) (gTup K n t) := by
  subst e
  exact pg_tup hc h hn hst
/-! ## gone_from -/
abbrev sGoneFrom : Stmt := topS 13
theorem scGoneFrom : FnScope ["plan", "counts", "room", "beat", "door", "own"] ["plan", "counts", "room", "beat"] (defScope sGoneFrom) := ⟨rfl, rfl, rfl, by decide +kernel, rfl, by decide +kernel, by decide +kernel⟩
def goneOpt (r b : Nat) (p : Door × List Int) : Option Int := if p.1.one = r ∧ b < p.2.length then some (p.2.getD b 0) else none
theorem gone_opt (r b : Nat) : ∀ (ds : List Door) (C : List (List Int)), ((ds.zip C).filterMap (goneOpt r b)).sum = gone ds C r b
  | [], _ => by simp [gone]
  | _ :: _, [] => by simp [gone]
  | d :: ds, own :: C => by
    have ih := gone_opt r b ds C
    unfold gone at ih ⊢
    rw [List.zip_cons_cons, List.zipWith_cons_cons, List.sum_cons, ← ih]
    by_cases h : d.one = r ∧ b < own.length
    · rw [List.filterMap_cons_some (b := own.getD b 0) (by unfold goneOpt; rw [if_pos h]), List.sum_cons]
      unfold goneOne
      rw [if_pos h]
    · rw [List.filterMap_cons_none (by unfold goneOpt; rw [if_neg h])]
      unfold goneOne
      rw [if_neg h, Int.zero_add]
theorem ok_gone_from {f : Addr} {fd : FuncData} (F : Fun K "gone_from" "gone_from" sGoneFrom f fd) (m1 : mg "zip" = none) (m2 : mg "sum" = none) (m3 : mg "len" = none) :
    FnOk P w K mg base CX0 1 f fd ["plan", "counts", "room", "beat"] (spAt K gone) := by
  refine F.ok scGoneFrom (fun vs H Q E h => ?_) (fun cdv A outer s H vs Q E hr h => ?_)
  · obtain ⟨pv, cv, R, B, r, b, ds, C, rfl, _⟩ := h
    rfl
  · obtain ⟨pv, cv, R, B, r, b, ds, C, rfl, hp, hc, G, hb, hz, q⟩ := h
    obtain ⟨p1, p2, xs, rfl, h1, h2, hx⟩ := plan_inv hp
    obtain ⟨p3, ys, rfl, h3, hy⟩ := counts_inv hc
    have lx : xs.length = ds.length := by
      rw [hx.len, List.length_map]
    have ly : ys.length = ds.length := by
      rw [hy.len, List.length_map, G.len]
    refine ⟨_, pss_one (ps_ret (pe_callB (cr_sum rfl) (by rfl) m2 (by decide +kernel) (pa_cons
      (pe_lc (own := [("door", 4), ("own", 5)]) rfl scGoneFrom.nd (RZ.pi_zipA (by rfl) m1 (pa_cons (pe_ix ix_tup (pv 0) pe_int (fun _ _ => rfl)) (pa_cons (pv 1) pa_nil)))
        (blkOk_by (N := ["plan", "counts", "room", "beat", "door", "own"]) (sc := defScope sGoneFrom) (by decide +kernel))
        (fun _ _ _ _ _ => pg_tupK (K := K) 2 rfl rfl (pgs_cons (pg_name (i := 4) scGoneFrom.nd rfl (.inl rfl) (.inr rfl)) (pgs_cons (pg_name (i := 5) scGoneFrom.nd rfl (.inl rfl) (.inr rfl)) pgs_nil)))
        (fun _ _ _ _ _ => pts_one (PW.pt (pw_and (pt_cmpR op_eq (pe_ix (ix_tupK (K := K) rfl) (pv 4) pe_int (fun _ _ => rfl)) (pv 2) (nomark _)) (pw_and1 (pt_cmpR op_lt (pv 3) (pe_callB (call_lenK (K := K) rfl) (by rfl) m3 PySem.boot_len (pa_cons (pv 5) pa_nil)) (nomark _))))))
        (fun _ _ _ _ _ => pe_ix (ix_tupK (K := K) rfl) (pv 5) (pv 3) (fun _ _ => rfl))) pa_nil))), ?_⟩
    refine ⟨.ref p1, rfl, p1, _, 2, _, rfl, rfl, h1, atI_nat (j := 2) rfl, .ref p3, rfl, p2, p3, xs, ys, rfl, .inr ⟨h2, h3, fun D hD => ?_⟩⟩
    refine lc_it (walk_zipT (xs := xs) (ys := ys) (n := ds.length) (by omega)) (fun i H' => Same H H' ∧ H' D = some (.lst ((((ds.zip C).take i).filterMap (goneOpt r b)).map V.int)))
      ⟨same_new hD, by rw [upd_same]; rfl⟩ (fun i H' _ hP => ⟨seqT_same hP.1 h2, seqT_same hP.1 h3⟩) ?_ ?_
    · rintro i v H1 H2 hi ⟨hS, hL⟩ ⟨T, x, y, rfl, nT, rfl, ex, ey⟩
      obtain ⟨d, ed, hd⟩ := hx.atM ex
      obtain ⟨own, eo, ho⟩ := hy.atM ey
      have S2 := same_next hS nT (o := .tup [x, y])
      have L2' : (upd H1 T (.tup [x, y])) D = some (.lst ((((ds.zip C).take i).filterMap (goneOpt r b)).map V.int)) := by
        rw [upd_ne (ne_of_none hL nT)]
        exact hL
      obtain ⟨dp, rfl, hdp⟩ := door_inv (hd.to S2)
      obtain ⟨op, rfl, hop⟩ := row_inv (ho.to S2)
      have ez : (ds.zip C)[i]? = some (d, own) := by
        rw [List.zip_eq_zipWith]
        exact zipW_at ed eo
      have et : (((ds.zip C).take (i + 1)).filterMap (goneOpt r b)) = (((ds.zip C).take i).filterMap (goneOpt r b)) ++ (goneOpt r b (d, own)).toList := by
        rw [take_succ ez, List.filterMap_append]
        congr 1
      have lt : (((ds.zip C).take i).filterMap (goneOpt r b)).length ≤ ds.length := by
        refine Nat.le_trans (List.length_filterMap_le _ _) ?_
        rw [List.length_take, List.length_zip]
        omega
      refine ⟨T, _, rfl, .inl (.inl upd_same), rfl, _, _, rfl, _, _, rfl, rfl, rfl, ?_⟩
      refine ⟨_, rfl, dp, _, 0, .int d.one, rfl, rfl, hdp, atI_nat (j := 0) rfl, _, rfl, rfl, _, rfl, ite2 (fun e => ?_) (fun e => ?_)⟩
      · have e1 : d.one = r := V.int.inj (of_decide_eq_true e)
        refine ⟨_, rfl, _, rfl, op, _, rfl, .inr hop, _, _, rfl, rfl, _, rfl, ?_⟩
        rw [List.length_map]
        by_cases hlt : b < own.length
        · rw [decide_eq_true (show (b : Int) < ((own.length : Nat) : Int) by omega)]
          refine iteT ⟨_, rfl, _, rfl, op, _, _, .int (own.getD b 0), rfl, rfl, hop, atI_nat (ints_at hlt), ?_⟩
          refine ⟨_, L2', ?_, same_put S2 hD, ?_⟩
          · rw [List.length_map]
            exact small1000 (by omega)
          · rw [upd_same, et, List.map_append]
            unfold goneOpt
            rw [if_pos ⟨e1, hlt⟩]
            rfl
        · rw [decide_eq_false (show ¬ (b : Int) < ((own.length : Nat) : Int) by omega)]
          refine iteF ⟨S2, ?_⟩
          rw [L2', et]
          unfold goneOpt
          rw [if_neg (fun z => hlt z.2)]
          simp
      · have e1 : ¬ d.one = r := fun z => e (decide_eq_true (by rw [z]))
        refine iteF ⟨S2, ?_⟩
        rw [L2', et]
        unfold goneOpt
        rw [if_neg (fun z => e1 z.1)]
        simp
    · rintro H1 ⟨hS, hL⟩
      rw [List.take_of_length_le (by rw [List.length_zip]; omega)] at hL
      refine ⟨D, _, rfl, .inl (.inl hL), ?_⟩
      rw [gone_opt]
      exact q _ hS
end
end K8

namespace K8
open PySem PySem.Spec PyProof.Rows L2

theorem walk_range0 {n : Nat} : Walk (Itr 0 n) n (fun _ => True) (YFn fun i => .int ((i : Nat) : Int)) := by
  have e : (fun i : Nat => V.int (0 + (i : Int))) = fun i : Nat => V.int ((i : Nat) : Int) := by
    funext i
    rw [Int.zero_add]
  rw [← e]
  exact walk_range
theorem cut_last (f : Nat → V) (b : Nat) : cutV ((List.range b).map f) (some (-1)) none = if b = 0 then [] else [f (b - 1)] := by
  cases b with
  | zero => rfl
  | succ b =>
    rw [if_neg (Nat.succ_ne_zero b)]
    unfold cutV
    have e1 : HT.sIx ((List.range (b + 1)).map f).length 0 (some (-1)) = b := by
      simp only [HT.sIx, List.length_map, List.length_range]
      rw [if_pos (by decide)]
      omega
    have e2 : HT.sIx ((List.range (b + 1)).map f).length ((List.range (b + 1)).map f).length none = b + 1 := by
      simp [HT.sIx]
    rw [e1, e2, List.range_succ, List.map_append, List.drop_left' (by simp)]
    simp
def waitsD (R B : Nat) (ds : List Door) (C : List (List Int)) : PyData := .list ((List.range R).map fun r => .list (((List.range B).map (there ds C r)).map PyData.int))
/-- the rows of the waits, so far -/
structure WaitsAt (H0 H : Hp) (W : Addr) (ws : List Addr) (ds : List Door) (C : List (List Int)) (R : Nat) (n : Nat → Nat) : Prop where
  same : Same H0 H
  new : H0 W = none
  lst : H W = some (.lst (ws.map V.ref))
  len : ws.length = R
  nodup : ws.Nodup
  row : ∀ r w, ws[r]? = some w → H0 w = none ∧ w ≠ W ∧ H w = some (.lst ((List.range (n r)).map fun b => V.int (there ds C r b)))
theorem WaitsAt.to {H0 H H' : Hp} {W : Addr} {ws : List Addr} {ds : List Door} {C : List (List Int)} {R : Nat} {n : Nat → Nat} (h : WaitsAt H0 H W ws ds C R n) (e : Same H H') : WaitsAt H0 H' W ws ds C R n :=
  ⟨h.same.trans e, h.new, e _ _ h.lst, h.len, h.nodup, fun r w z => ⟨(h.row r w z).1, (h.row r w z).2.1, e _ _ (h.row r w z).2.2⟩⟩
theorem WaitsAt.cong {H0 H : Hp} {W : Addr} {ws : List Addr} {ds : List Door} {C : List (List Int)} {R : Nat} {n m : Nat → Nat} (h : WaitsAt H0 H W ws ds C R n) (e : ∀ r, r < R → n r = m r) : WaitsAt H0 H W ws ds C R m :=
  ⟨h.same, h.new, h.lst, h.len, h.nodup, fun r w z => by
    have hr : r < R := h.len ▸ (List.getElem?_eq_some_iff.mp z).1
    rw [← e r hr]
    exact h.row r w z⟩
theorem WaitsAt.add {H0 H : Hp} {W : Addr} {ws : List Addr} {ds : List Door} {C : List (List Int)} {R b r : Nat} {w : Addr} (h : WaitsAt H0 H W ws ds C R (fun r' => if r' < r then b + 1 else b)) (hw : ws[r]? = some w) :
    WaitsAt H0 (upd H w (.lst (((List.range b).map fun b => V.int (there ds C r b)) ++ [.int (there ds C r b)]))) W ws ds C R (fun r' => if r' < r + 1 then b + 1 else b) := by
  obtain ⟨n1, n2, n3⟩ := h.row r w hw
  refine ⟨same_put h.same n1, h.new, by rw [upd_ne (Ne.symm n2)]; exact h.lst, h.len, h.nodup, fun r' w' z => ?_⟩
  obtain ⟨m1, m2, m3⟩ := h.row r' w' z
  refine ⟨m1, m2, ?_⟩
  by_cases e : r' = r
  · subst e
    obtain rfl : w' = w := Option.some.inj (z.symm.trans hw)
    rw [upd_same, if_pos (Nat.lt_succ_self _), List.range_succ, List.map_append]
    rfl
  · have ne : w' ≠ w := fun q => by
      subst q
      exact e ((List.getElem?_inj (List.getElem?_eq_some_iff.mp z).1 h.nodup).mp (z.trans hw.symm))
    rw [upd_ne ne, m3]
    have k : (if r' < r then b + 1 else b) = (if r' < r + 1 then b + 1 else b) := by
      split <;> split <;> omega
    rw [k]

section
variable {P : Program} {w : World} {K : PySem.W.Frag} {mg : Str → Option Value} {base : Heap}
theorem WaitsAt.dq {H0 H : Hp} {W : Addr} {ws : List Addr} {ds : List Door} {C : List (List Int)} {R B : Nat} (h : WaitsAt H0 H W ws ds C R (fun _ => B)) : Dq K H (.ref W) (waitsD R B ds C) := by
  refine .lst (.inl (.inl h.lst)) ?_
  have k : ∀ (ws : List Addr) (i : Nat), (∀ r w, ws[r]? = some w → H w = some (.lst ((List.range B).map fun b => V.int (there ds C (i + r) b)))) →
      DqAll K H (ws.map V.ref) ((List.range' i ws.length).map fun r => .list (((List.range B).map (there ds C r)).map PyData.int)) := by
    intro ws
    induction ws with
    | nil => intro i _; exact .nil
    | cons w ws ih =>
      intro i h
      rw [List.length_cons, List.range'_succ, List.map_cons, List.map_cons]
      refine .cons (.lst (.inl (.inl (h 0 w rfl))) ?_) (ih (i + 1) fun r w' z => by
        have := h (r + 1) w' (by simpa using z)
        rw [show i + 1 + r = i + (r + 1) by omega]
        exact this)
      have := dq_ints (K := K) (H := H) ((List.range B).map (there ds C i))
      rw [List.map_map] at this
      exact this
  have := k ws 0 fun r w z => by
    rw [Nat.zero_add]
    exact (h.row r w z).2.2
  rw [h.len, ← List.range_eq_range'] at this
  exact this
/-! ## waits_of -/
abbrev sWaitsOf : Stmt := topS 14
abbrev nWaitsOf : List Str := ["plan", "counts", "rooms", "beats", "doors", "waits", "beat", "room", "there"]
theorem scWaitsOf : FnScope nWaitsOf ["plan", "counts"] (defScope sWaitsOf) := ⟨rfl, rfl, rfl, by decide +kernel, rfl, by decide +kernel, by decide +kernel⟩
def spWaitsOf (K : PySem.W.Frag) : Sp := fun vs H Q _ => ∃ (pv cv : V) (R B : Nat) (ds : List Door) (C : List (List Int)), vs = [pv, cv] ∧ Dq K H pv (planD R B ds) ∧ Dq K H cv (countsD C) ∧ Good B ds C ∧ PlanOk R B ds ∧
  (∀ r b, Lack R B ds C r b → ∀ H' v, Same H H' → Dq K H' v (.tuple [.none, lackD r b]) → Q v H') ∧
  (NoLack R B ds C → ∀ H' v, Same H H' → Dq K H' v (.tuple [waitsD R B ds C, .none]) → Q v H')
theorem ok_waits_of {f : Addr} {fd : FuncData} (F : Fun K "waits_of" "waits_of" sWaitsOf f fd) (C1 : Has P w K mg base CX0 1 "come_to" ["plan", "counts", "room", "beat"] (spAt K come)) (C2 : Has P w K mg base CX0 1 "gone_from" ["plan", "counts", "room", "beat"] (spAt K gone))
    (m1 : mg "range" = none) (m2 : mg "sum" = none) :
    FnOk P w K mg base CX0 2 f fd ["plan", "counts"] (spWaitsOf K) := by
  refine F.ok scWaitsOf (fun vs H Q E h => ?_) (fun cdv A outer s H vs Q E hr h => ?_)
  · obtain ⟨pv, cv, R, B, ds, C, rfl, _⟩ := h
    rfl
  · obtain ⟨pv, cv, R, B, ds, C, rfl, hp, hc, G, pok, qL, qN⟩ := h
    obtain ⟨p1, p2, xs, rfl, h1, h2, hx⟩ := plan_inv hp
    have nd := scWaitsOf.nd
    have b1 := pok.r1
    have b2 := pok.r2
    have b3 := pok.b1
    have b4 := pok.b2
    have b5 := pok.d2
    refine ⟨_, pss_cons (ps_asg (pv 0) (pg_tup rfl (pgs_cons (pg_name (i := 2) nd rfl (.inl rfl)) (pgs_cons (pg_name (i := 3) nd rfl (.inl rfl)) (pgs_cons (pg_name (i := 4) nd rfl (.inl rfl)) pgs_nil)))))
      (pss_cons (ps_setLc (i := 5) (own := [("room", 7)]) (g := gName 7) (tt := tYes) rfl nd rfl rfl (sw_true rfl rfl rfl (by decide +kernel)) (pi_range1 (by rfl) m1 (pa_cons (pv 2) pa_nil)) (blkOk_by (N := nWaitsOf) (sc := defScope sWaitsOf) (by decide +kernel))
        (fun _ _ _ _ _ => pg_name (i := 7) nd rfl (.inl rfl) (.inr rfl)) (fun _ _ _ _ _ => pts_nil) (fun _ _ _ _ _ => pe_lst pa_nil))
      (pss_cons (ps_for PassesOwn.never rfl (pi_range1 (by rfl) m1 (pa_cons (pv 3) pa_nil)) (pg_name (i := 6) nd rfl (.inl rfl))
        (pss_one (ps_for PassesOwn.never rfl (pi_range1 (by rfl) m1 (pa_cons (pv 2) pa_nil)) (pg_name (i := 7) nd rfl (.inl rfl))
          (pss_cons (ps_set (i := 8) nd rfl (.inl rfl) (pe_op op_sub (pe_op op_add (pe_callB (cr_sum rfl) (by rfl) m2 (by decide +kernel) (pa_cons (pe_slice sl_list (pe_ix ix_list (pv 5) (pv 7) (fun _ _ => rfl)) (po_some (pe_un un_neg pe_int)) po_none) pa_nil))
              (pe_fn C1 hr (by rfl) (pa_cons (pv 0) (pa_cons (pv 1) (pa_cons (pv 7) (pa_cons (pv 6) pa_nil))))))
              (pe_fn C2 hr (by rfl) (pa_cons (pv 0) (pa_cons (pv 1) (pa_cons (pv 7) (pa_cons (pv 6) pa_nil)))))))
            (pss_cons (ps_if (pt_cmpR op_lt (pv 8) pe_int (nomark _)) (pss_one (ps_ret (pe_tup (pa_cons pe_non (pa_cons (pe_tup (pa_cons pe_str (pa_cons (pv 7) (pa_cons (pv 6) pa_nil)))) pa_nil))))) pss_nil)
            (pss_one (ps_expr (pe_bm PySem.F.plainAttrs_list PySem.F.slot_list_append PySem.F.type_list_append mt_append (pe_ix ix_list (pv 5) (pv 7) (fun _ _ => rfl)) (pa_cons (pv 8) pa_nil)))))))))
      (pss_one (ps_ret (pe_tup (pa_cons (pv 5) (pa_cons pe_non pa_nil))))))), ?_⟩
    refine ⟨.ref p1, rfl, p1, _, rfl, h1, rfl, _, _, rfl, _, _, rfl, _, _, rfl, rfl, ?_⟩
    refine ⟨_, rfl, (R : Int), rfl, by omega, by omega, fun W hW => ?_⟩
    refine lc_it walk_range (fun i H' => ∃ ws : List Addr, Same H H' ∧ H' W = some (.lst (ws.map V.ref)) ∧ ws.length = i ∧ ws.Nodup ∧ ∀ w ∈ ws, H w = none ∧ w ≠ W ∧ H' w = some (.lst []))
      ⟨[], same_new hW, upd_same, rfl, List.nodup_nil, fun _ z => nomatch z⟩ (fun _ _ _ _ => trivial) ?_ ?_
    · rintro i v H1 H2 hi ⟨ws, hS, hL, hl, hn, hw⟩ ⟨rfl, rfl⟩
      refine ⟨rfl, by decide, fun q nq => ?_⟩
      have qW : q ≠ W := (ne_of_none hL nq).symm
      have nin : q ∉ ws := fun z => by
        have := (hw q z).2.2
        rw [nq] at this
        cases this
      refine ⟨_, (upd_ne qW.symm).trans hL, ?_, ws ++ [q], same_put (same_next hS nq) hW, by rw [upd_same, List.map_append]; rfl, by simp [hl], ?_, fun w' hw' => ?_⟩
      · rw [List.length_map]
        exact small1000 (by omega)
      · rw [List.nodup_append]
        refine ⟨hn, by simp, fun a ha b hb => ?_⟩
        rw [List.mem_singleton.mp hb]
        exact fun z => nin (z ▸ ha)
      · rcases List.mem_append.mp hw' with z | z
        · obtain ⟨k1, k2, k3⟩ := hw w' z
          refine ⟨k1, k2, ?_⟩
          rw [upd_ne k2, upd_ne (show w' ≠ q from fun e => nin (by rw [← e]; exact z))]
          exact k3
        · rw [List.mem_singleton.mp z]
          refine ⟨?_, qW, ?_⟩
          · cases e : H q with
            | none => rfl
            | some o =>
              have := hS _ _ e
              rw [nq] at this
              cases this
          · rw [upd_ne qW, upd_same]
    · rintro H1 ⟨ws, hS, hL, hl, hn, hw⟩
      have hl' : ws.length = R := by simpa using hl
      have W0 : WaitsAt H H1 W ws ds C R (fun _ => 0) := ⟨hS, hW, hL, hl', hn, fun r w' z => hw w' (List.mem_of_getElem? z)⟩
      refine ⟨_, rfl, (B : Int), rfl, by omega, by omega, ?_⟩
      refine for_it walk_range0 (fun b σ H' => ∃ y6 y7 y8, σ = [some (.ref p1), some cv, some (.int R), some (.int B), some (.ref p2), some (.ref W), y6, y7, y8] ∧ WaitsAt H H' W ws ds C R (fun _ => b) ∧ ∀ r' b', r' < R → b' < b → 0 ≤ there ds C r' b')
        ⟨_, _, _, rfl, W0, fun _ _ _ z => nomatch z⟩ (fun _ _ _ _ _ => trivial) ?_ ?_
      · rintro b v σ H2 H3 hb ⟨y6, y7, y8, rfl, WA, pos⟩ ⟨rfl, rfl⟩
        have hb' : b < B := by omega
        refine ⟨_, rfl, (R : Int), rfl, by omega, by omega, ?_⟩
        refine for_it walk_range0 (fun r σ H' => ∃ y7 y8, σ = [some (.ref p1), some cv, some (.int R), some (.int B), some (.ref p2), some (.ref W), some (.int b), y7, y8] ∧ WaitsAt H H' W ws ds C R (fun r' => if r' < r then b + 1 else b) ∧ ∀ r' b', r' < R → (b' < b ∨ (b' = b ∧ r' < r)) → 0 ≤ there ds C r' b')
          ⟨_, _, rfl, WA, fun r' b' a z => pos r' b' a (by omega)⟩ (fun _ _ _ _ _ => trivial) ?_ ?_
        · rintro r v σ H2 H3 hr ⟨y7, y8, rfl, WB, posB⟩ ⟨rfl, rfl⟩
          have hr' : r < R := by omega
          have hlt : r < ws.length := by omega
          have hwr : ws[r]? = some ws[r] := List.getElem?_eq_getElem hlt
          have hwr' : (ws.map V.ref)[r]? = some (.ref ws[r]) := by
            rw [List.getElem?_map, hwr]
            rfl
          obtain ⟨k1, k2, k3⟩ := WB.row r _ hwr
          rw [if_neg (Nat.lt_irrefl r)] at k3
          refine ⟨_, rfl, _, rfl, W, _, _, .ref ws[r], rfl, rfl, .inl (.inl WB.lst), atI_nat hwr', ?_⟩
          refine ⟨_, rfl, _, rfl, ws[r], _, rfl, .inl (.inl k3), fun p np => ?_⟩
          rw [cut_last]
          have W1 := WB.to (same_new (o := .lst (if b = 0 then [] else [V.int (there ds C r (b - 1))])) np)
          refine ⟨p, if b = 0 then [] else [there ds C r (b - 1)], rfl, .inl (.inl (by rw [upd_same]; split <;> rfl)), ?_⟩
          have es : (if b = 0 then [] else [there ds C r (b - 1)]).sum = if b = 0 then 0 else there ds C r (b - 1) := by
            split
            · rfl
            · rw [List.sum_cons, List.sum_nil, Int.add_zero]
          rw [es]
          refine ⟨_, rfl, _, rfl, _, rfl, _, rfl, .ref p1, cv, R, B, r, b, ds, C, rfl, hp.to W1.same, hc.to W1.same, G, hb', by omega, fun H3 S3 => ?_⟩
          have W2 := W1.to S3
          refine ⟨_, _, rfl, rfl, ?_⟩
          refine ⟨_, rfl, _, rfl, _, rfl, _, rfl, .ref p1, cv, R, B, r, b, ds, C, rfl, hp.to W2.same, hc.to W2.same, G, hb', by omega, fun H4 S4 => ?_⟩
          have W3 := W2.to S4
          have et : (if b = 0 then 0 else there ds C r (b - 1)) + come ds C r b - gone ds C r b = there ds C r b := by
            rw [there_eq ds C r b]
            omega
          refine ⟨_, _, rfl, rfl, ?_⟩
          have ev : (some (some (V.int ((if b = 0 then 0 else there ds C r (b - 1)) + come ds C r b - gone ds C r b)))) = some (some (V.int (there ds C r b))) := by
            rw [et]
          refine ⟨_, ev, _, _, rfl, rfl, _, rfl, ite2 (fun e => ?_) (fun e => ?_)⟩
          · have neg : there ds C r b < 0 := of_decide_eq_true e
            have L : Lack R B ds C r b := ⟨hr', hb', neg, posB⟩
            refine ⟨_, rfl, _, rfl, (by show 3 ≤ sizeLine; decide), fun t ht => ⟨(by show 2 ≤ sizeLine; decide), fun u hu => ?_⟩⟩
            refine qL r b L _ _ (same_next (same_next W3.same ht) hu) (.newT (.cons .non (.cons ?_ .nil)) hu)
            exact .newT (.cons (.str _) (.cons (.int _) (.cons (.int _) .nil))) ht
          · have pos' : 0 ≤ there ds C r b := by
              have := mt decide_eq_true e
              omega
            obtain ⟨j1, j2, j3⟩ := W3.row r _ hwr
            rw [if_neg (Nat.lt_irrefl r)] at j3
            refine ⟨_, rfl, _, rfl, W, _, _, .ref ws[r], rfl, rfl, .inl (.inl W3.lst), atI_nat hwr', ?_⟩
            refine ⟨.inl ⟨rfl, _, .inl (.inl j3)⟩, _, ev, ws[r], _, _, rfl, rfl, j3, ?_, ?_⟩
            · rw [List.length_map, List.length_range]
              exact small1000 (by omega)
            · refine ⟨_, _, rfl, W3.add hwr, fun r' b' a z => ?_⟩
              by_cases e : b' = b ∧ r' = r
              · rw [e.1, e.2]
                exact pos'
              · exact posB r' b' a (by omega)
        · rintro σ H3 ⟨y7, y8, rfl, WB, posB⟩
          refine ⟨_, _, _, rfl, WB.cong fun r hr => if_pos (by omega), fun r' b' a z => posB r' b' a ?_⟩
          have : r' < Int.toNat (R : Int) := by omega
          omega
      · rintro σ H3 ⟨y6, y7, y8, rfl, WA, pos⟩
        have WA' : WaitsAt H H3 W ws ds C R (fun _ => B) := WA.cong fun _ _ => Int.toNat_natCast B
        refine ⟨_, rfl, (by show 2 ≤ sizeLine; decide), fun u hu => ?_⟩
        exact qN (fun r b a z => pos r b a (by omega)) _ _ (same_next WA'.same hu) (.newT (.cons WA'.dq (.cons .non .nil)) hu)
end
end K8

namespace K8
open PySem PySem.Spec PyProof.Rows L2

section
variable {P : Program} {w : World} {K : PySem.W.Frag} {mg : Str → Option Value} {base : Heap}
/-! ## counts_error -/
abbrev sCountsError : Stmt := topS 16
theorem scCountsError : FnScope ["plan", "value", "place", "own"] ["plan", "value"] (defScope sCountsError) := ⟨rfl, rfl, rfl, by decide +kernel, rfl, by decide +kernel, by decide +kernel⟩
def spCountsError (K : PySem.W.Frag) : Sp := fun vs H Q _ => ∃ (pv v : V) (R B : Nat) (ds : List Door) (d : PyData), vs = [pv, v] ∧ Dq K H pv (planD R B ds) ∧ Dq K H v d ∧ nodes d ≤ 1000 ∧ PlanOk R B ds ∧
  ∀ f H' u, Fault R B ds d f → Same H H' → Dq K H' u f → Q u H'
/-- what holds for a tuple of the right length, or form is the fault -/
theorem form_or (ds : List Door) (d : PyData) : (∃ rows, d = .tuple rows ∧ rows.length = ds.length) ∨ (∀ rows, d = .tuple rows → rows.length ≠ ds.length) := by
  by_cases h : ∃ rows, d = .tuple rows ∧ rows.length = ds.length
  · exact .inl h
  · exact .inr fun rows e z => h ⟨rows, e, z⟩
theorem ok_counts_error {f : Addr} {fd : FuncData} (F : Fun K "counts_error" "counts_error" sCountsError f fd) (C1 : Has P w K mg base CX0 3 "are_counts" ["value", "many"] (spAreCounts K))
    (C2 : Has P w K mg base CX0 1 "beats_of" ["beats", "door"] (spBeatsOf K)) (C3 : Has P w K mg base CX0 2 "waits_of" ["plan", "counts"] (spWaitsOf K))
    (m1 : mg "isinstance" = none) (m2 : mg "tuple" = none) (m3 : mg "len" = none) (m4 : mg "enumerate" = none) :
    FnOk P w K mg base CX0 4 f fd ["plan", "value"] (spCountsError K) := by
  refine F.ok scCountsError (fun vs H Q E h => ?_) (fun cdv A outer s H vs Q E hr h => ?_)
  · obtain ⟨pv, v, R, B, ds, d, rfl, _⟩ := h
    rfl
  · obtain ⟨pv, v, R, B, ds, d, rfl, hp, hd, hz, pok, q⟩ := h
    obtain ⟨p1, p2, xs, rfl, h1, h2, hx⟩ := plan_inv hp
    have nd := scCountsError.nd
    have lx : xs.length = ds.length := by
      rw [hx.len, List.length_map]
    refine ⟨_, pss_cons (ps_if (PW.pt (pw_or (pt_not (pt_val (pe_callB call_isD (by rfl) m1 (by decide +kernel) (pa_cons (pv 1) (pa_cons (pe_bltn (v := .ty "tuple") (by rfl) m2 (by decide +kernel) rfl) pa_nil)))))
        (pw_or1 (pt_cmpR op_ne (pe_callB call_len_seq (by rfl) m3 PySem.boot_len (pa_cons (pv 1) pa_nil)) (pe_callB call_len_seq (by rfl) m3 PySem.boot_len (pa_cons (pe_ix ix_tup (pv 0) pe_int (fun _ _ => rfl)) pa_nil)) (nomark _))))) (pss_one (ps_ret pe_str)) pss_nil)
      (pss_cons (ps_for PassesOwn.never rfl (pi_enumT (by rfl) m4 (pa_cons (pv 1) pa_nil)) (pg_tup rfl (pgs_cons (pg_name (i := 2) nd rfl (.inl rfl)) (pgs_cons (pg_name (i := 3) nd rfl (.inl rfl)) pgs_nil)))
        (pss_one (ps_if (pt_not (pt_val (pe_fn C1 (hr.mono (by decide)) (by rfl) (pa_cons (pv 3) (pa_cons (pe_fn C2 (hr.mono (by decide)) (by rfl) (pa_cons (pe_ix ix_tup (pv 0) pe_int (fun _ _ => rfl)) (pa_cons (pe_ix ix_tup (pe_ix ix_tup (pv 0) pe_int (fun _ _ => rfl)) (pv 2) (fun _ _ => rfl)) pa_nil))) pa_nil)))))
          (pss_one (ps_ret (pe_tup (pa_cons pe_str (pa_cons (pv 2) pa_nil))))) pss_nil)))
      (pss_one (ps_ret (pe_ix ix_tup (pe_fn C3 (hr.mono (by decide)) (by rfl) (pa_cons (pv 0) (pa_cons (pv 1) pa_nil))) pe_int (fun _ _ => rfl))))), ?_⟩
    refine ⟨v, rfl, v, d, "tuple", rfl, hd, (ty_tuple d).2, _, rfl, ?_⟩
    rw [(ty_tuple d).1]
    rcases form_or ds d with ⟨rows, rfl, hl⟩ | hf
    · obtain ⟨p3, ys, rfl, h3, hy⟩ := Dq.tupI hd
      have ly : ys.length = ds.length := by
        rw [hy.len, hl]
      refine iteF ?_
      refine ⟨_, rfl, p3, _, rfl, .inr h3, .ref p1, rfl, p1, _, 2, _, rfl, rfl, h1, atI_nat (j := 2) rfl, p2, _, rfl, .inr h2, rfl, _, rfl, ?_⟩
      rw [lx, ly]
      rw [show (!decide (V.int (ds.length : Nat) = V.int (ds.length : Nat))) = false by simp]
      refine iteF ?_
      refine ⟨_, rfl, p3, _, rfl, h3, ?_⟩
      refine for_it (walk_enumT (xs := ys)) (fun i σ H' => ∃ y2 y3, σ = [some (.ref p1), some (.ref p3), y2, y3] ∧ Same H H' ∧ ∀ (j : Nat) (row : PyData) (d : Door), j < i → rows[j]? = some row → ds[j]? = some d → rowOk (nb B d) row = true)
        ⟨none, none, rfl, Same.refl H, fun _ _ _ z => nomatch z⟩ (fun i σ H' _ hP => ?_) ?_ ?_
      · obtain ⟨_, _, _, hS, _⟩ := hP
        exact seqT_same hS h3
      · rintro i v σ H1 H2 hi ⟨y2, y3, rfl, hS, ok⟩ ⟨T, x, y, rfl, nT, rfl, ex, ey⟩
        obtain rfl := Option.some.inj ex
        have hi' : i < rows.length := by omega
        have hi2 : i < ds.length := by omega
        have er : rows[i]? = some rows[i] := List.getElem?_eq_getElem hi'
        have ed : ds[i]? = some ds[i] := List.getElem?_eq_getElem hi2
        obtain ⟨y', ey', hrow⟩ := hy.at er
        obtain rfl : y' = y := Option.some.inj (ey'.symm.trans ey)
        obtain ⟨x', ex', hdoor⟩ := hx.at (i := i) (d := doorD ds[i]) (by rw [List.getElem?_map, ed]; rfl)
        have S2 := same_next hS nT (o := .tup [.int (i : Nat), y'])
        refine ⟨T, _, rfl, .inl (.inl upd_same), rfl, _, _, rfl, _, _, rfl, rfl, ?_⟩
        refine ⟨_, rfl, _, rfl, p1, _, 1, _, rfl, rfl, seqT_same S2 h1, atI_nat (j := 1) rfl, _, rfl, p1, _, 2, _, rfl, rfl, seqT_same S2 h1, atI_nat (j := 2) rfl, _, rfl, p2, _, _, _, rfl, rfl, seqT_same S2 h2, atI_nat ex', ?_⟩
        refine ⟨x', B, ds[i], rfl, hdoor.to S2, ?_⟩
        refine ⟨y', rows[i], nb B ds[i], rfl, hrow.to S2, ?_, fun H3 S3 => ?_⟩
        · have := nodes_mem (List.mem_of_getElem? er)
          simp only [nodes] at hz
          omega
        · refine ⟨_, rfl, ?_⟩
          cases hk : rowOk (nb B ds[i]) rows[i] with
          | true =>
            refine iteF ⟨_, _, rfl, S2.trans S3, fun j row d' hj e1 e2 => ?_⟩
            by_cases e : j = i
            · subst e
              obtain rfl := Option.some.inj (e1.symm.trans er)
              obtain rfl := Option.some.inj (e2.symm.trans ed)
              exact hk
            · exact ok j row d' (by omega) e1 e2
          | false =>
            refine iteT ⟨_, rfl, (by show 2 ≤ sizeLine; decide), fun u hu => ?_⟩
            exact q _ _ _ (.door hl er ed hk ok) (same_next (S2.trans S3) hu) (.newT (.cons (.str _) (.cons (.int _) .nil)) hu)
      · rintro σ H3 ⟨y2, y3, rfl, hS, ok⟩
        obtain ⟨C, rfl, G⟩ := good_of hl fun j row d' e1 e2 => ok j row d' (by have := (List.getElem?_eq_some_iff.mp e1).1; omega) e1 e2
        refine ⟨_, rfl, _, rfl, .ref p1, .ref p3, R, B, ds, C, rfl, hp.to hS, hd.to hS, G, pok, fun r b L H4 u S4 hu => ?_, fun N H4 u S4 hu => ?_⟩
        · obtain ⟨t, ts, rfl, ht, hts⟩ := Dq.tupI hu
          obtain ⟨v1, e1, hv1⟩ := hts.at (i := 1) rfl
          exact ⟨t, _, 1, v1, rfl, rfl, ht, atI_nat (j := 1) e1, q _ _ _ (.lack G L) (hS.trans S4) hv1⟩
        · obtain ⟨t, ts, rfl, ht, hts⟩ := Dq.tupI hu
          obtain ⟨v1, e1, hv1⟩ := hts.at (i := 1) rfl
          exact ⟨t, _, 1, v1, rfl, rfl, ht, atI_nat (j := 1) e1, q _ _ _ (.none G N) (hS.trans S4) hv1⟩
    · have Fm : Fault R B ds d formD := .form hf
      by_cases ht : ∃ rows, d = .tuple rows
      · obtain ⟨rows, rfl⟩ := ht
        obtain ⟨p3, ys, rfl, h3, hy⟩ := Dq.tupI hd
        refine iteF ?_
        refine ⟨_, rfl, p3, _, rfl, .inr h3, .ref p1, rfl, p1, _, 2, _, rfl, rfl, h1, atI_nat (j := 2) rfl, p2, _, rfl, .inr h2, rfl, _, rfl, ?_⟩
        rw [lx, hy.len]
        refine ite2 (fun _ => ?_) (fun e => ?_)
        · exact q _ _ _ Fm (Same.refl H) (.str _)
        · exfalso
          refine hf rows rfl ?_
          have z : (V.int (rows.length : Nat)) = V.int (ds.length : Nat) := by
            simpa using e
          have := V.int.inj z
          omega
      · have e : (tyName d == "tuple") = false := by
          cases d <;> first | rfl | exact absurd ⟨_, rfl⟩ ht
        rw [e]
        exact iteT (iteT (q _ _ _ Fm (Same.refl H) (.str _)))
end
end K8

namespace K8
open PySem PySem.Spec PyProof.Rows L2

/-- an own exception class with its __init__ -/
def HasE (P : Program) (w : World) (K : PySem.W.Frag) (mg : Str → Option Value) (base : Heap) (C : Addr) (x fld : Str) : Prop :=
  OexC K C ∧ mg x = some (.ref C) ∧ ∃ (fI : Addr) (fd : FuncData), PySem.W.findIn K (.ref C) "__init__" = some (some (.ref fI)) ∧ PySem.W.typeIn K (.ref fI) = some (.type "function") ∧
    FnOk P w K mg base CX0 1 fI fd ["self", fld] (spInit C fld) ∧ Binds K fd ["self", fld] []
theorem pmk_own1 {X : Cx} {C : Addr} {k : Nat} {x fld : Str} {e : Expr} {ta : TA} {p pos : Pos} (T : HasE X.prog X.w X.K X.mg X.base C x fld) (hr : Room k X.A) (hk : 2 ≤ k) (hg : Gl X x) (ha : PA X [e] ta)
    (hdb : (x == ("__debug__" : Str)) = false := by decide) (he : starEach [e] X.env = (false, eval e X.env) :: starEach [] X.env := by rfl) (hpl : (backTo pos (starEach [] X.env)).any (·.1) = false := by rfl) :
    PMk X (.Call (.Name x p) [e] [] pos) (tMkO C (spInit C fld) [] ta) := by
  obtain ⟨oex, g, fI, fd, iC, tI, ok, b⟩ := T
  exact pmk_oex oex iC tI ok (hr.mono hk) b .nil pass0 hg g ha hdb he hpl

theorem flat_len {m : Nat} : ∀ {L : List (List Int)}, (∀ own ∈ L, own.length ≤ m) → L.flatten.length ≤ m * L.length
  | [], _ => by simp
  | own :: L, h => by
    have h1 := h own List.mem_cons_self
    have h2 := flat_len (L := L) fun o ho => h o (List.mem_cons_of_mem _ ho)
    rw [List.flatten_cons, List.length_append, List.length_cons, Nat.mul_succ]
    omega
theorem flat_take {α : Type} {L : List (List α)} {i : Nat} {own : List α} (h : L[i]? = some own) : (L.take (i + 1)).flatten = (L.take i).flatten ++ own := by
  rw [take_succ h, List.flatten_append]
  simp
section
variable {K : PySem.W.Frag} {H H' : Hp} {F : Addr}
theorem keepL {p : Addr} {xs ys : List V} (hF : H F = some (.lst ys)) (ne : xs ≠ ys) (h : SqL K H p xs) (k : ∀ b o, b ≠ F → H b = some o → H' b = some o) : SqL K H' p xs := by
  have nf : ∀ o, H p = some o → o ≠ .lst ys → p ≠ F := fun o e n z => by
    rw [z, hF] at e
    exact n (Option.some.inj e).symm
  rcases h with (h | ⟨o, h⟩) | h
  · exact .inl (.inl (k p _ (nf _ h fun z => ne (by cases z; rfl)) h))
  · exact .inl (.inr ⟨o, k p _ (nf _ h fun z => by cases z) h⟩)
  · exact .inr h
theorem keepT {p : Addr} {xs ys : List V} (hF : H F = some (.lst ys)) (h : SqT K H p xs) (k : ∀ b o, b ≠ F → H b = some o → H' b = some o) : SqT K H' p xs := by
  have nf : ∀ o, H p = some o → o ≠ .lst ys → p ≠ F := fun o e n z => by
    rw [z, hF] at e
    exact n (Option.some.inj e).symm
  rcases h with (h | ⟨o, h⟩) | h
  · exact .inl (.inl (k p _ (nf _ h fun z => by cases z) h))
  · exact .inl (.inr ⟨o, k p _ (nf _ h fun z => by cases z) h⟩)
  · exact .inr h
/-- a row of ints, a list that isn't empty, or a tuple -/
def RowAt (K : PySem.W.Frag) (H : Hp) (v : V) (own : List Int) : Prop := ∃ p, v = .ref p ∧ ((SqL K H p (own.map V.int) ∧ own ≠ []) ∨ SqT K H p (own.map V.int))
theorem RowAt.keep {v : V} {own : List Int} (h : RowAt K H v own) (hF : H F = some (.lst [])) (k : ∀ b o, b ≠ F → H b = some o → H' b = some o) : ∃ p, v = .ref p ∧ (SqL K H' p (own.map V.int) ∨ SqT K H' p (own.map V.int)) := by
  obtain ⟨p, rfl, ⟨h, ne⟩ | h⟩ := h
  · exact ⟨p, rfl, .inl (keepL hF (fun z => ne (by simpa using z)) h k)⟩
  · exact ⟨p, rfl, .inr (keepT hF h k)⟩
end
def waitsL (R B : Nat) (ds : List Door) (C : List (List Int)) : List (List Int) := (List.range R).map fun r => (List.range B).map (there ds C r)
theorem tally_flat (R B : Nat) (ds : List Door) (C : List (List Int)) : (C ++ waitsL R B ds C).flatten = tallyL R B ds C := by
  unfold tallyL waitsL
  rw [List.flatten_append, List.flatMap_def]
theorem good_len {B : Nat} {ds : List Door} {C : List (List Int)} (G : Good B ds C) : ∀ own ∈ C, own.length ≤ B := by
  intro own h
  obtain ⟨j, hj, e⟩ := List.mem_iff_getElem.mp h
  have hj2 : j < ds.length := G.len ▸ hj
  have := (G.row j own ds[j] (by rw [List.getElem?_eq_getElem hj, e]) (List.getElem?_eq_getElem hj2)).1
  unfold nb at this
  omega
theorem rows_len {R B : Nat} {ds : List Door} {C : List (List Int)} (G : Good B ds C) : ∀ own ∈ C ++ waitsL R B ds C, own.length ≤ B := by
  intro own h
  rcases List.mem_append.mp h with h | h
  · exact good_len G own h
  · obtain ⟨r, _, rfl⟩ := List.mem_map.mp h
    simp
theorem tally_len {R B : Nat} {ds : List Door} {C : List (List Int)} (G : Good B ds C) (pok : PlanOk R B ds) : (tallyL R B ds C).length ≤ 66 ∧ 0 < (tallyL R B ds C).length := by
  have h := flat_len (rows_len (R := R) G)
  rw [tally_flat] at h
  have e : (C ++ waitsL R B ds C).length = ds.length + R := by
    rw [List.length_append, G.len]
    simp [waitsL]
  rw [e] at h
  obtain ⟨r1, r2, b1, b2, d1, d2, _⟩ := pok
  refine ⟨Nat.le_trans h (Nat.le_trans (Nat.mul_le_mul b2 (show ds.length + R ≤ 11 by omega)) (by decide)), ?_⟩
  have m : there ds C 0 0 ∈ tallyL R B ds C := by
    unfold tallyL
    exact List.mem_append_right _ (List.mem_flatMap.mpr ⟨0, List.mem_range.mpr (by omega), List.mem_map.mpr ⟨0, List.mem_range.mpr (by omega), rfl⟩⟩)
  exact List.length_pos_of_mem m

section
variable {P : Program} {w : World} {K : PySem.W.Frag} {mg : Str → Option Value} {base : Heap}
/-! ## tally_of_plan -/
abbrev sTally : Stmt := topS 17
theorem scTally : FnScope ["plan", "counts", "error", "found", "own"] ["plan", "counts"] (defScope sTally) := ⟨rfl, rfl, rfl, by decide +kernel, rfl, by decide +kernel, by decide +kernel⟩
def spTally (K : PySem.W.Frag) (CB CM : Addr) : Sp := fun vs H Q E => ∃ (pv v : V) (R B : Nat) (ds : List Door) (d : PyData), vs = [pv, v] ∧ Dq K H pv (planD R B ds) ∧ Dq K H v d ∧ nodes d ≤ 1000 ∧ PlanOk R B ds ∧
  (∀ f H' u dx, Fault R B ds d f → f ≠ .none → Same H H' → Dq K H' u f → H' dx = none → E (.ref CB) (some dx) (upd H' dx (.xd [("error", u)]))) ∧
  (∀ C H' dx, d = countsD C → Good B ds C → NoLack R B ds C → (∃ m ∈ tallyL R B ds C, big < m) → Same H H' → H' dx = none → E (.ref CM) (some dx) (upd H' dx (.xd [("limit", .int big)]))) ∧
  (∀ C H' u, d = countsD C → Good B ds C → NoLack R B ds C → (∀ m ∈ tallyL R B ds C, m ≤ big) → Same H H' → Dq K H' u (.tuple ((tallyL R B ds C).map PyData.int)) → Q u H')
theorem rows_at {H : Hp} {R B : Nat} {ds : List Door} {C : List (List Int)} (hB : 1 ≤ B) {ys zs : List V} (hy : DqAll K H ys (C.map rowD)) (hz : DqAll K H zs ((List.range R).map fun r => .list (((List.range B).map (there ds C r)).map PyData.int))) :
    ∀ (i : Nat) (v : V), (ys ++ zs)[i]? = some v → ∃ own, (C ++ waitsL R B ds C)[i]? = some own ∧ RowAt K H v own := by
  intro i v h
  have ly : ys.length = C.length := by
    rw [hy.len, List.length_map]
  by_cases hi : i < ys.length
  · rw [List.getElem?_append_left hi] at h
    obtain ⟨own, e, hd⟩ := hy.atM h
    refine ⟨own, ?_, ?_⟩
    · rw [List.getElem?_append_left (by omega)]
      exact e
    · obtain ⟨p, rfl, hp⟩ := row_inv hd
      exact ⟨p, rfl, .inr hp⟩
  · rw [List.getElem?_append_right (by omega)] at h
    obtain ⟨r, e, hd⟩ := hz.atM h
    refine ⟨(List.range B).map (there ds C r), ?_, ?_⟩
    · rw [List.getElem?_append_right (by omega), ← ly]
      unfold waitsL
      rw [List.getElem?_map, e]
      rfl
    · obtain ⟨p, xs, rfl, hp, hx⟩ := Dq.lstI hd
      rw [dq_ints_inv hx] at hp
      refine ⟨p, rfl, .inl ⟨hp, fun z => ?_⟩⟩
      have : ((List.range B).map (there ds C r)).length = 0 := by rw [z]; rfl
      rw [List.length_map, List.length_range] at this
      omega
theorem ok_tally {f : Addr} {fd : FuncData} {tk : Tok} {CB CM : Addr} (F : Fun K "tally_of_plan" "tally_of_plan" sTally f fd) (C1 : Has P w K mg base CX0 4 "counts_error" ["plan", "value"] (spCountsError K))
    (C2 : Has P w K mg base CX0 2 "waits_of" ["plan", "counts"] (spWaitsOf K)) (TB : HasE P w K mg base CB "BadTally" "error") (TM : HasE P w K mg base CM "TooMany" "limit") (mM : mg "MAX_COUNT" = some (.int big tk))
    (m1 : mg "list" = none) (m2 : mg "max" = none) (m3 : mg "tuple" = none) :
    FnOk P w K mg base (L2.CX P w) 5 f fd ["plan", "counts"] (spTally K CB CM) := by
  refine F.okX scTally (fun vs H Q E h => ?_) (fun cdv A outer s H vs Q E hr h => ?_)
  · obtain ⟨pv, v, R, B, ds, d, rfl, _⟩ := h
    rfl
  · obtain ⟨pl, v, R, B, ds, d, rfl, hp, hd, hz, pok, qF, qM, qT⟩ := h
    have nd := scTally.nd
    refine ⟨_, pss_cons (ps_set (i := 2) nd rfl (.inl rfl) (pe_fn C1 hr (by rfl) (pa_cons (pv 0) (pa_cons (pv 1) pa_nil))))
      (pss_cons (ps_if (pt_cmpR op_notN (pv 2) pe_non (nomark _)) (pss_one (ps_raise rfl (takes_of rfl rfl rfl rfl) (pmk_own1 TB hr (by decide) (by rfl) (pa_cons (pv 2) pa_nil)))) pss_nil)
      (pss_cons (ps_set (i := 3) nd rfl (.inl rfl) (pe_lst pa_nil))
      (pss_cons (ps_for (passes_of rfl) rfl (pi_tup (pe_tup (StX.pa_star (pv 1) (StX.pa_star (pe_ix ix_tup (pe_fn C2 (hr.mono (by decide)) (by rfl) (pa_cons (pv 0) (pa_cons (pv 1) pa_nil))) pe_int (fun _ _ => rfl)) pa_nil)))) (pg_name (i := 4) nd rfl (.inl rfl))
        (pss_one (ps_expr (pe_bm PySem.F.plainAttrs_list PySem.F.slot_list_extend PySem.F.type_list_extend mt_extend (pv 3) (pa_cons (pe_callTy call_list_of (by rfl) m1 (by decide +kernel) (pa_cons (pv 4) pa_nil)) pa_nil)))))
      (pss_cons (ps_if (pt_cmpR op_gt (pe_callB (cr_max rfl) (by rfl) m2 (by decide +kernel) (pa_cons (pv 3) pa_nil)) (pe_glob (v := .int big) (by rfl) mM ⟨_, rfl⟩) (nomark _))
          (pss_one (ps_raise rfl (takes_of rfl rfl rfl rfl) (pmk_own1 TM hr (by decide) (by rfl) (pa_cons (pe_glob (v := .int big) (by rfl) mM ⟨_, rfl⟩) pa_nil)))) pss_nil)
      (pss_one (ps_ret (pe_callTy call_tuple_of (by rfl) m3 (by decide +kernel) (pa_cons (pv 3) pa_nil)))))))), ?_⟩
    refine ⟨_, rfl, _, rfl, pl, v, R, B, ds, d, rfl, hp, hd, hz, pok, fun f H1 u Ff S1 hu => ?_⟩
    refine ⟨u, rfl, rfl, _, rfl, ?_⟩
    by_cases hne : f = .none
    · have hn : u = .non := by
        rw [hne] at hu
        cases hu
        rfl
      rw [hn]
      refine iteF ?_
      refine ⟨by decide, fun F nF => ?_⟩
      obtain ⟨C, rfl, G, N⟩ : ∃ C, d = countsD C ∧ Good B ds C ∧ NoLack R B ds C := by
        cases Ff with
        | none G N => exact ⟨_, rfl, G, N⟩
        | form => cases hne
        | door => cases hne
        | lack => cases hne
      have S2 := same_next S1 nF (o := .lst [])
      obtain ⟨p3, ys, rfl, h3, hy⟩ := counts_inv hd
      refine ⟨.ref p3, rfl, p3, ys, rfl, .inl (seqT_same S2 h3), ?_⟩
      refine ⟨_, rfl, _, rfl, pl, .ref p3, R, B, ds, C, rfl, hp.to S2, hd.to S2, G, pok, fun r b L => (L.no N).elim, fun _ H3 u3 S3 hu3 => ?_⟩
      obtain ⟨t, ts, rfl, ht, hts⟩ := Dq.tupI hu3
      cases hts with
      | cons hw _ =>
        obtain ⟨wp, zs, rfl, hwp, hzs⟩ := Dq.lstI hw
        refine ⟨t, _, 0, .ref wp, rfl, rfl, ht, atI_nat (j := 0) rfl, ?_⟩
        refine ⟨wp, zs, rfl, .inr hwp, ?_⟩
        have lz : zs.length = R := by
          rw [hzs.len, List.length_map, List.length_range]
        have ly : ys.length = ds.length := by
          rw [hy.len, List.length_map, G.len]
        obtain ⟨b1, b2, b3, b4, b5, b6, _⟩ := id pok
        have hF3 : H3 F = some (.lst []) := S3 _ _ upd_same
        refine ⟨?_, fun T nT => ?_⟩
        · rw [List.append_nil, List.length_append]
          have := small1000 (n := ys.length + zs.length) (by omega)
          omega
        have S4 : Same H (upd H3 T (.tup (ys ++ (zs ++ [])))) := same_next (S2.trans S3) nT
        have hF4 : (upd H3 T (.tup (ys ++ (zs ++ [])))) F = some (.lst []) := (same_new nT) _ _ hF3
        have nFH : H F = none := by
          cases e : H F with
          | none => rfl
          | some o =>
            have := S1 _ _ e
            rw [nF] at this
            cases this
        have rows := rows_at (K := K) (H := upd H3 T (.tup (ys ++ (zs ++ [])))) b3 (hy.to S4) (hzs.to (same_new nT))
        have tl := tally_len G pok
        refine ⟨T, rfl, ⟨_, .inl (.inl upd_same)⟩, ?_⟩
        refine for_it (walk_tup (xs := ys ++ (zs ++ []))) (fun i σ H' => ∃ y4, σ = [some pl, some (.ref p3), some .non, some (.ref F), y4] ∧ Same H H' ∧ (∀ b o, b ≠ F → (upd H3 T (.tup (ys ++ (zs ++ [])))) b = some o → H' b = some o) ∧
            H' F = some (.lst ((((C ++ waitsL R B ds C).take i).flatten).map V.int)))
          ⟨none, rfl, S4, fun _ _ _ z => z, hF4⟩ (fun i σ H' _ hP => ?_) ?_ ?_
        · obtain ⟨_, _, _, k, _⟩ := hP
          exact keepT hF4 (.inl (.inl upd_same)) k
        · rintro i x σ H5 H6 hi ⟨y4, rfl, hS, k, hL⟩ ⟨rfl, hx⟩
          obtain ⟨own, eo, ra⟩ := rows i x (by rw [List.append_nil] at hx; exact hx)
          obtain ⟨p, rfl, hq⟩ := ra.keep hF4 k
          have eF := flat_take eo
          have lF : (((C ++ waitsL R B ds C).take (i + 1)).flatten).length ≤ 66 := by
            refine Nat.le_trans ?_ tl.1
            rw [← tally_flat]
            conv => rhs; rw [← List.take_append_drop (i + 1) (C ++ waitsL R B ds C), List.flatten_append, List.length_append]
            omega
          rw [eF, List.length_append] at lF
          refine ⟨_, rfl, .inl ⟨rfl, _, .inl (.inl hL)⟩, _, rfl, p, _, rfl, hq, fun l nl => ?_⟩
          refine ⟨F, l, _, _, rfl, rfl, (upd_ne (ne_of_none hL nl)).trans hL, upd_same, ?_, ?_⟩
          · have := small1000 (n := (((C ++ waitsL R B ds C).take i).flatten).length + own.length) (by omega)
            rw [List.length_map, List.length_map]
            omega
          · refine ⟨_, rfl, same_put (same_next hS nl) nFH, fun b o nb z => ?_, ?_⟩
            · rw [upd_ne nb]
              exact same_new nl _ _ (k b o nb z)
            · rw [upd_same, eF, List.map_append]
        · rintro σ H5 ⟨y4, rfl, hS, k, hL⟩
          rw [List.take_of_length_le (by rw [List.length_append, List.length_append, List.append_nil, G.len, ly, lz]; simp [waitsL]), tally_flat] at hL
          refine ⟨_, rfl, F, _, rfl, .inl (.inl hL), tl.2, fun m hm hle => ?_⟩
          refine ⟨_, _, rfl, rfl, _, rfl, ite2 (fun e => ?_) (fun e => ?_)⟩
          · exact ini_read fun dx hdx => qM C _ dx rfl G N ⟨m, hm, of_decide_eq_true e⟩ hS hdx
          · refine ⟨_, rfl, F, _, rfl, .inl ⟨.inl (.inl hL), fun l nl => ?_⟩⟩
            refine qT C _ _ rfl G N (fun y hy => ?_) (same_next hS nl) (.newT (dq_ints _) nl)
            have := hle y hy
            have : ¬ big < m := fun z => e (decide_eq_true z)
            omega
    · have hn : u ≠ .non := fun z => by
        rw [z] at hu
        cases hu
        exact hne rfl
      rw [decide_eq_false hn]
      exact iteT ⟨u, rfl, ini_read fun dx hdx => qF f H1 u dx Ff hne S1 hu hdx⟩
end
end K8

namespace K8
open PySem PySem.Spec PyProof.Rows L2

/-! ## the deck: a dict at d with its list at l; all else stays -/
def hide (H : Hp) (d l : Addr) : Hp := fun b => if b = d ∨ b = l then none else H b
section
variable {H H' : Hp} {d l b : Addr} {o : HO}
theorem hide_eq {b : Addr} (h : b ≠ d) (h' : b ≠ l) : hide H d l b = H b := if_neg (by rintro (z | z); exact h z; exact h' z)
theorem hide_in {b : Addr} {o : HO} (h : hide H d l b = some o) : b ≠ d ∧ b ≠ l ∧ H b = some o := by
  unfold hide at h
  by_cases z : b = d ∨ b = l
  · rw [if_pos z] at h
    cases h
  · rw [if_neg z] at h
    exact ⟨fun y => z (.inl y), fun y => z (.inr y), h⟩
theorem hide_same : Same (hide H d l) H := fun b o h => (hide_in h).2.2
theorem hide_mono (e : Same H H') : Same (hide H d l) (hide H' d l) := fun b o h => by
  obtain ⟨h1, h2, h3⟩ := hide_in h
  rw [hide_eq h1 h2]
  exact e b o h3
theorem hide_put (h : b = d ∨ b = l) : hide (upd H b o) d l = hide H d l := by
  funext c
  unfold hide
  by_cases z : c = d ∨ c = l
  · rw [if_pos z, if_pos z]
  · rw [if_neg z, if_neg z, upd_ne]
    intro y
    exact z (y ▸ h)
theorem hide_new (h : H b = none) : Same (hide H d l) (hide (upd H b o) d l) := hide_mono (same_new h)
theorem hide_upd (h1 : b ≠ d) (h2 : b ≠ l) : hide (upd H b o) d l = upd (hide H d l) b o := by
  funext c
  by_cases z : c = b
  · rw [z, hide_eq h1 h2, upd_same, upd_same]
  · rw [upd_ne z]
    unfold hide
    rw [upd_ne z]
theorem hide_none (h : H b = none) : hide H d l b = none := by
  unfold hide
  split
  · rfl
  · exact h
end
abbrev kG : Key := .inr "great"
abbrev kM : Key := .inr "mixed"
abbrev kT : Key := .inr "turns"
def deckD (l : Addr) (m t : Int) : List (Key × V) := [(kG, .ref l), (kM, .int m), (kT, .int t)]
theorem k_gm : ¬ (("great" : Str) = "mixed") := by decide +kernel
theorem k_gt : ¬ (("great" : Str) = "turns") := by decide +kernel
theorem k_mt : ¬ (("mixed" : Str) = "turns") := by decide +kernel
theorem k_tm : ¬ (("turns" : Str) = "mixed") := by decide +kernel
theorem get_g (l : Addr) (m t : Int) : valV (deckD l m t) kG = some (.ref l) := by simp [valV, deckD]
theorem get_m (l : Addr) (m t : Int) : valV (deckD l m t) kM = some (.int m) := by simp [valV, deckD, k_gm]
theorem get_t (l : Addr) (m t : Int) : valV (deckD l m t) kT = some (.int t) := by simp [valV, deckD, k_gt, k_mt]
theorem put_m (l : Addr) (m t m' : Int) : putK (deckD l m t) kM (.int m') = deckD l m' t := by simp [putK, deckD, k_gm, k_tm]
theorem put_t (l : Addr) (m t t' : Int) : putK (deckD l m t) kT (.int t') = deckD l m t' := by simp [putK, deckD, k_gt, k_mt]
theorem merge_deck (l : Addr) (m t : Int) : mergeK [] [(kG, .ref l), (kM, .int m), (kT, .int t)] = deckD l m t := by
  simp [mergeK, putK, deckD, k_gm, k_gt, k_mt]
theorem cut_ints (ns : List Int) (lo hi : Option Int) : ∃ ms : List Int, cutV (ns.map V.int) lo hi = ms.map V.int ∧ ms.length ≤ ns.length := by
  refine ⟨(ns.drop (HT.sIx (ns.map V.int).length 0 lo)).take (HT.sIx (ns.map V.int).length (ns.map V.int).length hi - HT.sIx (ns.map V.int).length 0 lo), ?_, ?_⟩
  · unfold cutV
    rw [List.map_take, List.map_drop]
  · rw [List.length_take, List.length_drop]
    omega
structure Deck (H : Hp) (d l : Addr) : Prop where
  ne : d ≠ l
  ex : ∃ (gs : List Int) (m t : Int), H d = some (.dK (deckD l m t)) ∧ H l = some (.lst (gs.map V.int)) ∧ gs.length ≤ 63
theorem Deck.same {H H' : Hp} {d l : Addr} (h : Deck H d l) (e : Same H H') : Deck H' d l := by
  obtain ⟨n, gs, m, t, h1, h2, h3⟩ := h
  exact ⟨n, gs, m, t, e _ _ h1, e _ _ h2, h3⟩
theorem Deck.off {H : Hp} {d l b : Addr} (h : Deck H d l) (n : H b = none) : b ≠ d ∧ b ≠ l := by
  obtain ⟨_, gs, m, t, h1, h2, h3⟩ := h
  exact ⟨(ne_of_none h1 n).symm, (ne_of_none h2 n).symm⟩

section
variable {H : Hp} {d l : Addr} {m t : Int}
theorem dget_g (h : H d = some (.dK (deckD l m t))) : DGet H d (.str "great") (some (.ref l)) := by
  have z := DGet.k (k := kG) h
  rw [get_g] at z
  exact z
theorem dget_m (h : H d = some (.dK (deckD l m t))) : DGet H d (.str "mixed") (some (.int m)) := by
  have z := DGet.k (k := kM) h
  rw [get_m] at z
  exact z
theorem dget_t (h : H d = some (.dK (deckD l m t))) : DGet H d (.str "turns") (some (.int t)) := by
  have z := DGet.k (k := kT) h
  rw [get_t] at z
  exact z
theorem dput_m {m' : Int} (h : H d = some (.dK (deckD l m t))) : DPut H d (.str "mixed") (.int m') (upd H d (.dK (deckD l m' t))) := by
  have z := DPut.k (k := kM) (v := .int m') h (by decide : 3 < sizeLine)
  rw [put_m] at z
  exact z
theorem dput_t {t' : Int} (h : H d = some (.dK (deckD l m t))) : DPut H d (.str "turns") (.int t') (upd H d (.dK (deckD l m t'))) := by
  have z := DPut.k (k := kT) (v := .int t') h (by decide : 3 < sizeLine)
  rw [put_t] at z
  exact z
end
section
variable {P : Program} {w : World} {K : PySem.W.Frag} {mg : Str → Option Value} {base : Heap}
/-! ## _law_deck -/
abbrev sDeck : Stmt := topS 19
theorem scDeck : FnScope ["_law_script", "_law_deck_here", "_law_cell", "_law_whole"] ["_law_script"] (defScope sDeck) := ⟨rfl, rfl, rfl, by decide +kernel, rfl, by decide +kernel, by decide +kernel⟩
def spDeck (K : PySem.W.Frag) : Sp := fun vs H Q _ => ∃ (a : Addr) (ns : List Int), vs = [.ref a] ∧ SqL K H a (ns.map V.int) ∧ ns.length ≤ 63 ∧
  ∀ H' d l, Deck H' d l → Q (.ref d) H'
theorem ok_deck {f : Addr} {fd : FuncData} (F : Fun K "_law_deck" "_law_deck" sDeck f fd) (m1 : mg "len" = none) (m2 : mg "abs" = none) (m3 : mg "int" = none) :
    FnOk P w K mg base CX0 1 f fd ["_law_script"] (spDeck K) := by
  refine F.ok scDeck (fun vs H Q E h => ?_) (fun cdv A outer s H vs Q E hr h => ?_)
  · obtain ⟨a, ns, rfl, _⟩ := h
    rfl
  · obtain ⟨a, ns, rfl, ha, hn, q⟩ := h
    have nd := scDeck.nd
    have hu := hu_of hr
    refine ⟨_, pss_cons (ps_set (i := 1) nd rfl (.inl rfl) (pe_disp (pps_cons pe_str (pe_lst pa_nil) (pps_cons pe_str (pe_op op_add pe_int (pe_callB call_len_seq (by rfl) m1 PySem.boot_len (pa_cons (pe_slice sl_list (pv 0) po_none (po_some pe_int)) pa_nil)))
        (pps_cons pe_str pe_int pps_nil))) (by rfl) (by rfl) (fun z => by cases z) (by decide)))
      (pss_cons (ps_for PassesOwn.never rfl (pi_list (pe_slice sl_list (pv 0) po_none (po_some pe_int))) (pg_name (i := 2) nd rfl (.inl rfl))
        (pss_cons (ps_set (i := 3) nd rfl (.inl rfl) (pe_op op_add (pe_op op_mul pe_int (pe_callB call_abs (by rfl) m2 (by decide +kernel) (pa_cons (pv 2) pa_nil))) (pe_callTy call_int1 (by rfl) m3 (by decide +kernel) (pa_cons (pe_cmp (pc_lt (pv 2) pe_int) rfl) pa_nil))))
        (pss_cons (ps_if (pt_cmpR op_ge (pv 3) (pe_op op_pow pe_int pe_int) (nomark _))
            (pss_one (ps_expr (pe_bm PySem.F.plainAttrs_list PySem.F.slot_list_append PySem.F.type_list_append mt_append (pe_dget hu (pv 1) pe_str (fun _ _ => rfl)) (pa_cons (pv 3) pa_nil)))) pss_nil)
        (pss_one (ps_dput hu (pv 1) pe_str (pe_op op_mod (pe_callTy call_int1 (by rfl) m3 (by decide +kernel) (pa_cons (pe_op op_add (pe_op op_add (pe_op op_mul (pe_dget hu (pv 1) pe_str (fun _ _ => rfl)) pe_int) (pv 3)) pe_int) pa_nil)) pe_int) rfl)))))
      (pss_one (ps_ret (pv 1)))), ?_⟩
    intro d nd'
    refine ⟨by decide, fun l nl => ?_⟩
    have S2 : Same H (upd (upd H d (.dK [])) l (.lst [])) := (same_new nd').trans (same_new nl)
    refine ⟨_, rfl, 63, rfl, a, _, rfl, S2.seq ha, fun p np => ?_⟩
    have S3 := S2.trans (same_new (o := .lst (cutV (ns.map V.int) none (some 63))) np)
    refine ⟨p, _, rfl, .inl (.inl (.inl upd_same)), _, _, rfl, rfl, ?_⟩
    have dl : l ≠ d := fun z => by
      rw [z, upd_same] at nl
      cases nl
    have pd : p ≠ d := fun z => by
      rw [z, upd_ne dl.symm, upd_same] at np
      cases np
    have pl : p ≠ l := fun z => by
      rw [z, upd_same] at np
      cases np
    refine ⟨by rw [upd_ne pd.symm, upd_ne dl.symm, upd_same], [(kG, .ref l), (kM, _), (kT, _)], rfl, (show 3 ≤ 15 by decide), ?_⟩
    rw [merge_deck]
    have nHd := nd'
    have S4 := same_put (o := .dK (deckD l (1283 + ((cutV (ns.map V.int) none (some 63)).length : Nat)) 0)) S3 nHd
    obtain ⟨ms, hms, lms⟩ := cut_ints ns none (some 63)
    refine ⟨_, rfl, 63, rfl, a, _, rfl, S4.seq ha, fun p2 np2 => ?_⟩
    have D4 : (upd (upd (upd (upd (upd H d (.dK [])) l (.lst [])) p (.lst (cutV (ns.map V.int) none (some 63)))) d (.dK (deckD l (1283 + ((cutV (ns.map V.int) none (some 63)).length : Nat)) 0))) p2 (.lst (cutV (ns.map V.int) none (some 63)))) d = some (.dK (deckD l (1283 + ((cutV (ns.map V.int) none (some 63)).length : Nat)) 0)) := by
      rw [upd_ne (ne_of_none upd_same np2), upd_same]
    have L4 : (upd (upd (upd (upd (upd H d (.dK [])) l (.lst [])) p (.lst (cutV (ns.map V.int) none (some 63)))) d (.dK (deckD l (1283 + ((cutV (ns.map V.int) none (some 63)).length : Nat)) 0))) p2 (.lst (cutV (ns.map V.int) none (some 63)))) l = some (.lst []) := by
      have e : (upd (upd (upd (upd H d (.dK [])) l (.lst [])) p (.lst (cutV (ns.map V.int) none (some 63)))) d (.dK (deckD l (1283 + ((cutV (ns.map V.int) none (some 63)).length : Nat)) 0))) l = some (.lst []) := by
        rw [upd_ne dl, upd_ne pl.symm, upd_same]
      rw [upd_ne (ne_of_none e np2)]
      exact e
    have p2d : p2 ≠ d := fun z => by
      rw [z, upd_same] at np2
      cases np2
    have p2l : p2 ≠ l := fun z => by
      rw [z, upd_ne dl, upd_ne pl.symm, upd_same] at np2
      cases np2
    refine ⟨p2, rfl, ⟨_, .inl (.inl upd_same)⟩, ?_⟩
    refine for_it (walk_list (xs := ms.map V.int)) (fun i σ H' => ∃ y2 y3, σ = [some (.ref a), some (.ref d), y2, y3] ∧ H' p2 = some (.lst (ms.map V.int)) ∧ ∃ (gs : List Int) (m t : Int), H' d = some (.dK (deckD l m t)) ∧ H' l = some (.lst (gs.map V.int)) ∧ gs.length ≤ i)
      ⟨none, none, rfl, by rw [upd_same, hms], [], _, _, D4, L4, Nat.zero_le _⟩ (fun i σ H' _ hP => ?_) ?_ ?_
    · obtain ⟨_, _, _, h, _⟩ := hP
      exact .inl (.inl h)
    · rintro i x σ H5 H6 hi ⟨y2, y3, rfl, hp2, gs, m, t, hd, hl, hg⟩ ⟨rfl, hx⟩
      obtain ⟨c, hc⟩ : ∃ c, x = .int c := by
        rw [List.getElem?_map] at hx
        cases e : ms[i]? with
        | none => rw [e] at hx; cases hx
        | some c => rw [e] at hx; exact ⟨c, (Option.some.inj hx).symm⟩
      subst hc
      rw [List.length_map] at hi
      refine ⟨_, rfl, c, rfl, 2, _, rfl, rfl, .inl ⟨by decide, by decide⟩, ?_⟩
      refine ⟨_, rfl, c, 0, rfl, rfl, .inr ⟨_, rfl, ?_⟩⟩
      refine ⟨_, _, rfl, rfl, ?_⟩
      have fin : ∀ (wh : Int) (gs : List Int) (H7 : Hp), H7 p2 = some (.lst (ms.map V.int)) → H7 d = some (.dK (deckD l m t)) → H7 l = some (.lst (gs.map V.int)) → gs.length ≤ i + 1 →
          (upd H7 d (.dK (deckD l ((m * 75161 + wh + 11) % 4294967291) t))) p2 = some (.lst (ms.map V.int)) ∧ ∃ (gs : List Int) (m' t' : Int), (upd H7 d (.dK (deckD l ((m * 75161 + wh + 11) % 4294967291) t))) d = some (.dK (deckD l m' t')) ∧
            (upd H7 d (.dK (deckD l ((m * 75161 + wh + 11) % 4294967291) t))) l = some (.lst (gs.map V.int)) ∧ gs.length ≤ i + 1 := by
        intro wh gs H7 a1 a2 a3 a4
        rw [upd_ne p2d, upd_ne dl, upd_same]
        exact ⟨a1, gs, _, _, rfl, a3, a4⟩
      refine ⟨_, rfl, _, _, rfl, rfl, ⟨by decide, by decide, by decide⟩, _, _, rfl, rfl, _, rfl, ite2 (fun e => ?_) (fun e => ?_)⟩
      · refine ⟨_, rfl, d, _, rfl, dget_g hd, .inl ⟨rfl, _, .inl (.inl hl)⟩, _, rfl, l, _, _, rfl, rfl, hl, ?_, ?_⟩
        · rw [List.length_map]
          exact small1000 (by omega)
        · have hd' := (upd_ne (o := .lst (gs.map V.int ++ [V.int (2 * (if c < 0 then -c else c) + if decide (c < 0) = true then 1 else 0)])) dl.symm).trans hd
          refine ⟨_, rfl, d, _, rfl, dget_m hd', _, _, rfl, rfl, .inr ⟨by decide, by decide⟩, ?_⟩
          refine ⟨_, rfl, _, _, rfl, rfl, _, _, rfl, rfl, .inl ⟨_, rfl, _, _, rfl, rfl, (by show (0 : Int) < 4294967291; decide), ?_⟩⟩
          refine ⟨_, rfl, d, _, rfl, dput_m hd', _, _, rfl, ?_⟩
          refine fin _ (gs ++ [_]) _ ((upd_ne p2l).trans hp2) hd' (by rw [upd_same, List.map_append]; rfl) (by rw [List.length_append, List.length_singleton]; omega)
      · refine ⟨_, rfl, d, _, rfl, dget_m hd, _, _, rfl, rfl, .inr ⟨by decide, by decide⟩, ?_⟩
        refine ⟨_, rfl, _, _, rfl, rfl, _, _, rfl, rfl, .inl ⟨_, rfl, _, _, rfl, rfl, (by show (0 : Int) < 4294967291; decide), ?_⟩⟩
        refine ⟨_, rfl, d, _, rfl, dput_m hd, _, _, rfl, ?_⟩
        exact fin _ gs _ hp2 hd hl (by omega)
    · rintro σ H5 ⟨y2, y3, rfl, hp2, gs, m, t, hd, hl, hg⟩
      rw [List.length_map] at hg
      exact ⟨_, rfl, q _ d l ⟨dl.symm, gs, m, t, hd, hl, by omega⟩⟩
end
end K8

namespace K8
open PySem PySem.Spec PyProof.Rows L2

section
variable {P : Program} {w : World} {K : PySem.W.Frag} {mg : Str → Option Value} {base : Heap}
/-! ## _law_draw -/
abbrev sDraw : Stmt := topS 20
theorem scDraw : FnScope ["_law_deck_here", "_law_many", "_law_whole", "_law_number"] ["_law_deck_here", "_law_many"] (defScope sDraw) := ⟨rfl, rfl, rfl, by decide +kernel, rfl, by decide +kernel, by decide +kernel⟩
def spDraw : Sp := fun vs H Q _ => ∃ (d l : Addr) (n : Nat), vs = [.ref d, .int n] ∧ Deck H d l ∧ 1 ≤ n ∧ n ≤ 1000 ∧ ∀ H' (r : Nat), Deck H' d l → Same (hide H d l) (hide H' d l) → r < n → Q (.int r) H'
theorem ok_draw {f : Addr} {fd : FuncData} (F : Fun K "_law_draw" "_law_draw" sDraw f fd) (m3 : mg "int" = none) : FnOk P w K mg base CX0 1 f fd ["_law_deck_here", "_law_many"] spDraw := by
  refine F.ok scDraw (fun vs H Q E h => ?_) (fun cdv A outer s H vs Q E hr h => ?_)
  · obtain ⟨d, l, n, rfl, _⟩ := h
    rfl
  · obtain ⟨d, l, n, rfl, D, hn1, hn2, q⟩ := h
    obtain ⟨dl, gs, m, t, hd, hl, hg⟩ := id D
    have nd := scDraw.nd
    have hu := hu_of hr
    refine ⟨_, pss_cons (ps_if (pt_cmpR op_lt (pv 1) pe_int (nomark _)) (pss_one (ps_ret pe_int)) pss_nil)
      (pss_cons (ps_if (pt_cmpR (op_neX hr.units) (pe_dget hu (pv 0) pe_str (fun _ _ => rfl)) (pe_lst pa_nil) (nomark _))
        (pss_cons (ps_set (i := 2) nd rfl (.inl rfl) (pe_bm0 PySem.F.plainAttrs_list PySem.F.slot_list_pop PySem.F.type_list_pop mt_pop (pe_dget hu (pv 0) pe_str (fun _ _ => rfl))))
        (pss_cons (ps_if (pt_cmpR op_ge (pv 2) (pv 1) (nomark _)) (pss_one (ps_expr (pe_bm PySem.F.plainAttrs_list PySem.F.slot_list_append PySem.F.type_list_append mt_append (pe_dget hu (pv 0) pe_str (fun _ _ => rfl)) (pa_cons (pe_op op_fdiv (pv 2) (pv 1)) pa_nil)))) pss_nil)
        (pss_one (ps_ret (pe_op op_mod (pe_callTy call_int1 (by rfl) m3 (by decide +kernel) (pa_cons (pv 2) pa_nil)) (pv 1)))))) pss_nil)
      (pss_cons (ps_dput hu (pv 0) pe_str (pe_op op_add (pe_dget hu (pv 0) pe_str (fun _ _ => rfl)) pe_int) rfl)
      (pss_cons (ps_set (i := 3) nd rfl (.inl rfl) (pe_op op_mod (pe_callTy call_int1 (by rfl) m3 (by decide +kernel) (pa_cons (pe_op op_add (pe_dget hu (pv 0) pe_str (fun _ _ => rfl)) (pe_op op_mul pe_int (pe_dget hu (pv 0) pe_str (fun _ _ => rfl)))) pa_nil)) pe_int))
      (pss_cons (ps_set (i := 3) nd rfl (.inl rfl) (pe_op op_mod (pe_callTy call_int1 (by rfl) m3 (by decide +kernel) (pa_cons (pe_op op_add (pe_op op_add (pe_op op_mul (pv 3) (pv 3)) (pe_op op_mul pe_int (pe_dget hu (pv 0) pe_str (fun _ _ => rfl)))) pe_int) pa_nil)) pe_int))
      (pss_cons (ps_set (i := 3) nd rfl (.inl rfl) (pe_op op_mod (pe_callTy call_int1 (by rfl) m3 (by decide +kernel) (pa_cons (pe_op op_add (pe_op op_mul (pv 3) (pv 3)) (pe_op op_mul (pe_dget hu (pv 0) pe_str (fun _ _ => rfl)) pe_int)) pa_nil)) pe_int))
      (pss_one (ps_ret (pe_op op_mod (pe_callTy call_int1 (by rfl) m3 (by decide +kernel) (pa_cons (pe_op op_fdiv (pv 3) pe_int) pa_nil)) (pv 1))))))))), ?_⟩
    refine ⟨_, rfl, _, _, rfl, rfl, _, rfl, ite2 (fun e => ?_) (fun e => ?_)⟩
    · have e1 : (n : Int) < 2 := of_decide_eq_true e
      exact q H 0 D (Same.refl _) (by omega)
    have e1 : ¬ (n : Int) < 2 := fun z => e (decide_eq_true z)
    have fin : ∀ (x : Int) (H' : Hp), Deck H' d l → Same (hide H d l) (hide H' d l) → Q (.int (x % (n : Int))) H' := fun x H' h1 h2 => by
      have h3 := Int.emod_nonneg x (show (n : Int) ≠ 0 by omega)
      have h4 := Int.emod_lt_of_pos x (show (0 : Int) < (n : Int) by omega)
      have e : x % (n : Int) = ((x % (n : Int)).toNat : Nat) := by omega
      rw [e]
      exact q H' _ h1 h2 (by omega)
    refine ⟨_, rfl, d, _, rfl, dget_g hd, by decide, fun p np => ?_⟩
    have S1 : Same H (upd H p (.lst [])) := same_new np
    refine ⟨.list (gs.map PyData.int), .list [], .lst (.inl (.inl (S1 _ _ hl))) (dq_ints gs), .lst (.inl (.inl upd_same)) .nil, shaped_list (lay_ints gs).1 (by rw [(lay_ints gs).2]; decide), rfl, _, rfl, ?_⟩
    rw [eqv_nilL]
    rcases List.eq_nil_or_concat gs with rfl | ⟨gs', g, rfl⟩
    · refine iteF ?_
      have hd1 : (upd H p (.lst [])) d = some (.dK (deckD l m t)) := S1 _ _ hd
      refine ⟨_, rfl, d, _, rfl, dget_t hd1, _, _, rfl, rfl, _, rfl, d, _, rfl, dput_t hd1, ?_⟩
      have hd2 : (upd (upd H p (.lst [])) d (.dK (deckD l m (t + 1)))) d = some (.dK (deckD l m (t + 1))) := upd_same
      have D2 : Deck (upd (upd H p (.lst [])) d (.dK (deckD l m (t + 1)))) d l := ⟨dl, [], m, t + 1, hd2, by rw [upd_ne dl.symm]; exact S1 _ _ hl, by decide⟩
      have hS : Same (hide H d l) (hide (upd (upd H p (.lst [])) d (.dK (deckD l m (t + 1)))) d l) := by
        rw [hide_put (.inl rfl)]
        exact hide_new np
      refine ⟨_, rfl, d, _, rfl, dget_m hd2, _, rfl, d, _, rfl, dget_t hd2, _, _, rfl, rfl, .inl ⟨by decide, by decide⟩, _, _, rfl, rfl, .inl ⟨_, rfl, _, _, rfl, rfl, (by show (0 : Int) < 4294967279; decide), ?_⟩⟩
      have bd : ∀ x M : Int, 0 < M → M < 2 ^ 64 → -(2 ^ 64) < x % M ∧ x % M < 2 ^ 64 := fun x M h1 h2 => by
        have := Int.emod_nonneg x (show M ≠ 0 by omega)
        have := Int.emod_lt_of_pos x h1
        omega
      refine ⟨_, rfl, _, rfl, _, _, rfl, rfl, .inl (bd _ _ (by decide) (by decide)), _, rfl, d, _, rfl, dget_t hd2, _, _, rfl, rfl, .inl ⟨by decide, by decide⟩, _, _, rfl, rfl, _, _, rfl, rfl, .inl ⟨_, rfl, _, _, rfl, rfl, (by show (0 : Int) < 4294967231; decide), ?_⟩⟩
      refine ⟨_, rfl, _, rfl, _, _, rfl, rfl, .inl (bd _ _ (by decide) (by decide)), _, rfl, d, _, rfl, dget_m hd2, _, _, rfl, rfl, .inr ⟨by decide, by decide⟩, _, _, rfl, rfl, .inl ⟨_, rfl, _, _, rfl, rfl, (by show (0 : Int) < 4294967197; decide), ?_⟩⟩
      refine ⟨_, rfl, _, _, rfl, rfl, ⟨by decide, by decide⟩, .inl ⟨_, rfl, _, rfl, _, _, rfl, rfl, (by show (0 : Int) < (n : Int); omega), ?_⟩⟩
      exact fin _ _ D2 hS
    · have ne : (List.map PyData.int (gs' ++ [g])).isEmpty = false := by
        rw [List.map_append]
        cases gs'.map PyData.int <;> rfl
      rw [List.concat_eq_append, ne]
      refine iteT ?_
      rw [List.concat_eq_append] at hl hg
      have hl1 : (upd H p (.lst [])) l = some (.lst ((gs' ++ [g]).map V.int)) := S1 _ _ hl
      have hd1 : (upd H p (.lst [])) d = some (.dK (deckD l m t)) := S1 _ _ hd
      refine ⟨_, rfl, d, _, rfl, dget_g hd1, .inl ⟨rfl, _, .inl (.inl hl1)⟩, l, _, .int g, rfl, rfl, hl1, by simp, ?_⟩
      rw [List.map_append, List.map_cons, List.map_nil, List.dropLast_concat]
      have hd2 : (upd (upd H p (.lst [])) l (.lst (gs'.map V.int))) d = some (.dK (deckD l m t)) := by
        rw [upd_ne dl]
        exact hd1
      have hS2 : Same (hide H d l) (hide (upd (upd H p (.lst [])) l (.lst (gs'.map V.int))) d l) := by
        rw [hide_put (.inr rfl)]
        exact hide_new np
      rw [List.length_append, List.length_singleton] at hg
      refine ⟨_, rfl, _, rfl, _, _, rfl, rfl, _, rfl, ite2 (fun e2 => ?_) (fun e2 => ?_)⟩
      · refine ⟨_, rfl, d, _, rfl, dget_g hd2, .inl ⟨rfl, _, .inl (.inl upd_same)⟩, _, rfl, _, rfl, _, _, rfl, rfl, ⟨by omega, by omega⟩, l, _, _, rfl, rfl, upd_same, ?_, ?_⟩
        · rw [List.length_map]
          exact small1000 (by omega)
        · refine ⟨_, rfl, .inl ⟨_, rfl, _, rfl, _, _, rfl, rfl, (by show (0 : Int) < (n : Int); omega), ?_⟩⟩
          refine fin _ _ ⟨dl, gs' ++ [g / n], m, t, ?_, ?_, ?_⟩ ?_
          · rw [upd_ne dl]
            exact hd2
          · rw [upd_same, List.map_append]
            rfl
          · rw [List.length_append, List.length_singleton]
            exact hg
          · rw [hide_put (.inr rfl)]
            exact hS2
      · refine ⟨_, rfl, .inl ⟨_, rfl, _, rfl, _, _, rfl, rfl, (by show (0 : Int) < (n : Int); omega), ?_⟩⟩
        exact fin _ _ ⟨dl, gs', m, t, hd2, upd_same, by omega⟩ hS2
end
end K8

namespace K8
open PySem PySem.Spec PyProof.Rows L2

theorem hide_seqL {K : PySem.W.Frag} {H : Hp} {d l p : Addr} {xs : List V} (h : SqL K (hide H d l) p xs) : SqL K H p xs := hide_same.seq h
theorem Dq.un {K : PySem.W.Frag} {H : Hp} {d l : Addr} {v : V} {x : PyData} (h : Dq K (hide H d l) v x) : Dq K H v x := h.to hide_same
theorem hide_set {H H' : Hp} {d l b : Addr} {o : HO} (e : Same (hide H d l) (hide H' d l)) (n : H b = none) : Same (hide H d l) (hide (upd H' b o) d l) := fun c x h => by
  obtain ⟨h1, h2, h3⟩ := hide_in h
  have h4 := e c x h
  rw [hide_eq h1 h2] at h4 ⊢
  rw [upd_ne (ne_of_none h3 n)]
  exact h4
theorem hide_get {H H' : Hp} {d l b : Addr} {o : HO} (e : Same (hide H d l) (hide H' d l)) (h1 : b ≠ d) (h2 : b ≠ l) (h : H b = some o) : H' b = some o := by
  have := e b o (by rw [hide_eq h1 h2]; exact h)
  rw [hide_eq h1 h2] at this
  exact this
theorem seqIx {r n : Nat} (h : r < n) : seqIndex? (r : Int) n = some r := by
  unfold seqIndex?
  have e : (if (r : Int) < 0 then (r : Int) + n else r) = r := if_neg (by omega)
  simp only [e]
  rw [if_pos (by simp; omega)]
  rfl
theorem Deck.set {H : Hp} {d l b : Addr} {o : HO} (h : Deck H d l) (h1 : b ≠ d) (h2 : b ≠ l) : Deck (upd H b o) d l := by
  obtain ⟨n, gs, m, t, e1, e2, e3⟩ := h
  exact ⟨n, gs, m, t, (upd_ne h1.symm).trans e1, (upd_ne h2.symm).trans e2, e3⟩
/-- doors in the heap, in any order -/
def AllDoors (K : PySem.W.Frag) (H : Hp) (R : Nat) (xs : List V) : Prop := ∀ x ∈ xs, ∃ dr : Door, dr.Ok R ∧ Dq K H x (doorD dr)
theorem AllDoors.list {K : PySem.W.Frag} {H : Hp} {R : Nat} : ∀ {xs : List V}, AllDoors K H R xs → ∃ ds : List Door, DqAll K H xs (ds.map doorD) ∧ ∀ d ∈ ds, d.Ok R
  | [], _ => ⟨[], .nil, fun _ z => nomatch z⟩
  | x :: xs, h => by
    obtain ⟨dr, h1, h2⟩ := h x List.mem_cons_self
    obtain ⟨ds, h3, h4⟩ := AllDoors.list (xs := xs) fun y hy => h y (List.mem_cons_of_mem _ hy)
    refine ⟨dr :: ds, .cons h2 h3, fun d hd => ?_⟩
    rcases List.mem_cons.mp hd with e | e
    · rw [e]
      exact h1
    · exact h4 d e
theorem AllDoors.to {K : PySem.W.Frag} {H H' : Hp} {R : Nat} {xs : List V} (h : AllDoors K H R xs) (e : Same H H') : AllDoors K H' R xs := fun x hx => by
  obtain ⟨dr, h1, h2⟩ := h x hx
  exact ⟨dr, h1, h2.to e⟩
theorem lay_doors : ∀ ds : List Door, PyData.canLayAll0 (ds.map doorD) = true ∧ PyData.depthAll (ds.map doorD) ≤ 1
  | [] => ⟨by simp [PyData.canLayAll0], by simp [PyData.depthAll]⟩
  | d :: r => by
    obtain ⟨h1, h2⟩ := lay_doors r
    refine ⟨by simp [PyData.canLayAll0, PyData.canLay0, h1, doorD], ?_⟩
    have e : (doorD d).depth = 1 := by simp [doorD, PyData.depth, PyData.depthAll]
    simp only [List.map_cons, PyData.depthAll, e]
    omega

section
variable {P : Program} {w : World} {K : PySem.W.Frag} {mg : Str → Option Value} {base : Heap}
/-! ## _law_pick -/
abbrev sPick : Stmt := topS 21
theorem scPick : FnScope ["_law_deck_here", "_law_items"] ["_law_deck_here", "_law_items"] (defScope sPick) := ⟨rfl, rfl, rfl, by decide +kernel, rfl, by decide +kernel, by decide +kernel⟩
def spPick (K : PySem.W.Frag) : Sp := fun vs H Q _ => ∃ (d l p : Addr) (xs : List V), vs = [.ref d, .ref p] ∧ Deck H d l ∧ SqL K (hide H d l) p xs ∧ 1 ≤ xs.length ∧ xs.length ≤ 1000 ∧
  ∀ H' x, Deck H' d l → Same (hide H d l) (hide H' d l) → x ∈ xs → Q x H'
theorem ok_pick {f : Addr} {fd : FuncData} (F : Fun K "_law_pick" "_law_pick" sPick f fd) (C : Has P w K mg base CX0 1 "_law_draw" ["_law_deck_here", "_law_many"] spDraw) (m1 : mg "len" = none) :
    FnOk P w K mg base CX0 2 f fd ["_law_deck_here", "_law_items"] (spPick K) := by
  refine F.ok scPick (fun vs H Q E h => ?_) (fun cdv A outer s H vs Q E hr h => ?_)
  · obtain ⟨d, l, p, xs, rfl, _⟩ := h
    rfl
  · obtain ⟨d, l, p, xs, rfl, D, hp, h1, h2, q⟩ := h
    refine ⟨_, pss_one (ps_ret (pe_ix ix_list (pv 1) (pe_fn C hr (by rfl) (pa_cons (pv 0) (pa_cons (pe_callB call_len_seq (by rfl) m1 PySem.boot_len (pa_cons (pv 1) pa_nil)) pa_nil))) (fun _ _ => rfl))), ?_⟩
    refine ⟨_, rfl, _, rfl, _, rfl, p, _, rfl, .inl (hide_seqL hp), d, l, xs.length, rfl, D, h1, h2, fun H' r D' S' hlt => ?_⟩
    have e : xs[r]? = some xs[r] := List.getElem?_eq_getElem hlt
    exact ⟨p, _, _, xs[r], rfl, rfl, hide_seqL (S'.seq hp), atI_nat e, q H' _ D' S' (List.mem_of_getElem? e)⟩
/-! ## _law_shuffled -/
abbrev sShuf : Stmt := topS 22
theorem scShuf : FnScope ["_law_deck_here", "_law_items", "_law_left", "_law_rest"] ["_law_deck_here", "_law_items"] (defScope sShuf) := ⟨rfl, rfl, rfl, by decide +kernel, rfl, by decide +kernel, by decide +kernel⟩
def spShuf (K : PySem.W.Frag) : Sp := fun vs H Q _ => ∃ (d l p : Addr) (R : Nat) (xs : List V), vs = [.ref d, .ref p] ∧ Deck H d l ∧ SqL K (hide H d l) p xs ∧ AllDoors K (hide H d l) R xs ∧ xs.length ≤ 1000 ∧
  ∀ H' p' ys, Deck H' d l → Same (hide H d l) (hide H' d l) → (hide H' d l) p' = some (.lst ys) → AllDoors K (hide H' d l) R ys → ys.length = xs.length → Q (.ref p') H'
theorem ok_shuf {f : Addr} {fd : FuncData} (F : Fun K "_law_shuffled" "_law_shuffled" sShuf f fd) (C : Has P w K mg base CX0 1 "_law_draw" ["_law_deck_here", "_law_many"] spDraw) (m1 : mg "len" = none) (m2 : mg "list" = none) :
    FnOk P w K mg base CX0 2 f fd ["_law_deck_here", "_law_items"] (spShuf K) := by
  refine F.ok scShuf (fun vs H Q E h => ?_) (fun cdv A outer s H vs Q E hr h => ?_)
  · obtain ⟨d, l, p, R, xs, rfl, _⟩ := h
    rfl
  · obtain ⟨d, l, p, R, xs, rfl, D, hp, hx, hn, q⟩ := h
    have nd := scShuf.nd
    refine ⟨_, pss_cons (ps_par (i := 2) (j := 3) (by rfl) nd rfl rfl (by decide) rfl rfl (pa_cons (pe_callTy call_list_of (by rfl) m2 (by decide +kernel) (pa_cons (pv 1) pa_nil)) (pa_cons (pe_lst pa_nil) pa_nil)) (by rfl))
      (pss_cons (ps_while PassesOwn.never (pt_cmpR (op_neX hr.units) (pv 2) (pe_lst pa_nil) (nomark _))
        (pss_one (ps_expr (pe_bm PySem.F.plainAttrs_list PySem.F.slot_list_append PySem.F.type_list_append mt_append (pv 3) (pa_cons (pe_bm PySem.F.plainAttrs_list PySem.F.slot_list_pop PySem.F.type_list_pop mt_popAt (pv 2)
          (pa_cons (pe_fn C hr (by rfl) (pa_cons (pv 0) (pa_cons (pe_callB call_len_seq (by rfl) m1 PySem.boot_len (pa_cons (pv 2) pa_nil)) pa_nil))) pa_nil)) pa_nil)))))
      (pss_one (ps_ret (pv 3)))), ?_⟩
    refine ⟨_, rfl, p, _, rfl, .inl (hide_seqL hp), fun L nL => ⟨by decide, fun B nB => ?_⟩⟩
    refine ⟨_, _, rfl, ?_⟩
    have LB : B ≠ L := fun z => by
      rw [z, upd_same] at nB
      cases nB
    have nBH : H B = none := (upd_ne LB).symm.trans nB
    obtain ⟨Ld, Ll⟩ := D.off nL
    obtain ⟨Bd, Bl⟩ := D.off nBH
    refine while_by (fun σ H' => ∃ ls rs, σ = [some (.ref d), some (.ref p), some (.ref L), some (.ref B)] ∧ Deck H' d l ∧ Same (hide H d l) (hide H' d l) ∧ H' L = some (.lst ls) ∧ H' B = some (.lst rs) ∧ ls.length + rs.length = xs.length ∧
        AllDoors K (hide H d l) R ls ∧ AllDoors K (hide H d l) R rs) (fun _ H' => match H' L with | some (.lst ls) => ls.length | _ => 0) ?_ ?_ ?_
    · refine ⟨xs, [], rfl, (D.set Ld Ll).set Bd Bl, hide_set (hide_set (Same.refl _) nL) nBH, by rw [upd_ne LB.symm, upd_same], upd_same, rfl, hx, fun _ z => nomatch z⟩
    · rintro σ H1 ⟨ls, rs, rfl, D1, S1, hL, hB, hl, al, ar⟩
      refine ⟨_, rfl, by decide, fun p1 np1 => ?_⟩
      obtain ⟨ds, hds, _⟩ := al.list
      have hds1 : DqAll K (upd H1 p1 (.lst [])) ls (ds.map doorD) := (hds.to S1).to (hide_same.trans (same_new np1))
      have S2 : Same H1 (upd H1 p1 (.lst [])) := same_new np1
      refine ⟨.list (ds.map doorD), .list [], .lst (.inl (.inl (S2 _ _ hL))) hds1, .lst (.inl (.inl upd_same)) .nil, shaped_list (lay_doors ds).1 (Nat.le_trans (lay_doors ds).2 (by decide)), rfl, _, rfl, ?_⟩
      rw [eqv_nilL]
      have D2 := D1.same S2
      have S3 : Same (hide H d l) (hide (upd H1 p1 (.lst [])) d l) := S1.trans (hide_mono S2)
      cases ls with
      | nil =>
        have e : ds = [] := by
          have := hds1.len
          cases ds
          · rfl
          · simp at this
        rw [e]
        refine iteF ⟨_, rfl, ?_⟩
        refine q _ B rs D2 S3 ?_ (ar.to S3) (by simpa using hl)
        rw [hide_eq Bd Bl]
        exact S2 _ _ hB
      | cons x0 ls0 =>
        have e : (ds.map doorD).isEmpty = false := by
          have := hds1.len
          cases ds
          · simp at this
          · rfl
        rw [e]
        refine iteT ?_
        refine ⟨_, rfl, .inl ⟨rfl, _, .inl (.inl (S2 _ _ hB))⟩, _, rfl, .inl ⟨rfl, _, .inl (.inl (S2 _ _ hL))⟩, _, rfl, _, rfl, L, _, rfl, .inl (.inl (.inl (S2 _ _ hL))), d, l, (x0 :: ls0).length, rfl, D2, by simp, by have := hl; omega, fun H3 r D3 S4 hlt => ?_⟩
        have hL3 : H3 L = some (.lst (x0 :: ls0)) := hide_get S4 Ld Ll (S2 _ _ hL)
        have hB3 : H3 B = some (.lst rs) := hide_get S4 Bd Bl (S2 _ _ hB)
        have er : (x0 :: ls0)[r]? = some (x0 :: ls0)[r] := List.getElem?_eq_getElem hlt
        have lr : (x0 :: ls0).length ≤ 1000 := by
          have := hl
          omega
        refine ⟨L, _, (r : Int), r, _, rfl, rfl, hL3, by omega, by omega, seqIx hlt, er, ?_⟩
        refine ⟨B, rs, _, rfl, rfl, (upd_ne LB).trans hB3, small1000 (by omega), ?_⟩
        have le : ((x0 :: ls0).eraseIdx r).length = (x0 :: ls0).length - 1 := List.length_eraseIdx_of_lt hlt
        refine ⟨⟨(x0 :: ls0).eraseIdx r, rs ++ [(x0 :: ls0)[r]], rfl, (D3.set Ld Ll).set Bd Bl, hide_set (hide_set (S3.trans S4) nL) nBH, by rw [upd_ne LB.symm, upd_same], upd_same, ?_, ?_, ?_⟩, ?_⟩
        · rw [le, List.length_append, List.length_singleton]
          have : (x0 :: ls0).length = ls0.length + 1 := rfl
          omega
        · exact fun x hx' => al x ((List.eraseIdx_sublist _ _).subset hx')
        · intro x hx'
          rcases List.mem_append.mp hx' with z | z
          · exact ar x z
          · rw [List.mem_singleton.mp z]
            exact al _ (List.getElem_mem hlt)
        · simp only [upd_ne LB.symm, upd_same, hL, le]
          exact Nat.lt_succ_self _
    · rintro σ H1 Q1 Q2 hq ⟨v, e, hz, h⟩
      refine ⟨v, e, hz, fun p1 np1 => ?_⟩
      obtain ⟨d1, d2, h1, h2, h3, h4, k, hk, h5⟩ := h p1 np1
      exact ⟨d1, d2, h1, h2, h3, h4, k, hk, hq _ _ h5⟩
end
end K8

namespace K8
open PySem PySem.Spec PyProof.Rows L2

def doorV (d : Door) : List V := [.int d.one, .int d.other, .int d.time]
theorem door_dq {K : PySem.W.Frag} {H : Hp} {p : Addr} {d : Door} (h : SqT K H p (doorV d)) : Dq K H (.ref p) (doorD d) := .tup h (.cons (.int _) (.cons (.int _) (.cons (.int _) .nil)))
theorem AllDoors.put {K : PySem.W.Frag} {G : Hp} {R : Nat} {L : Addr} {xs ys zs : List V} (h : AllDoors K G R xs) (hL : G L = some (.lst ys)) : AllDoors K (upd G L (.lst zs)) R xs := fun x hx => by
  obtain ⟨dr, h1, h2⟩ := h x hx
  obtain ⟨p, rfl, hp⟩ := door_inv h2
  exact ⟨dr, h1, door_dq (keepT hL hp fun b o nb e => by rw [upd_ne nb]; exact e)⟩
theorem doors_step {K : PySem.W.Frag} {H H1 : Hp} {d l L t : Addr} {R : Nat} {xs : List V} (D : Deck H1 d l) (S : Same (hide H d l) (hide H1 d l)) (nL : H L = none) (hL : H1 L = some (.lst xs)) (Ld : L ≠ d) (Ll : L ≠ l)
    (al : AllDoors K (hide H1 d l) R xs) (nt : H1 t = none) (dr : Door) (ok : dr.Ok R) :
    Deck (upd (upd H1 t (.tup (doorV dr))) L (.lst (xs ++ [.ref t]))) d l ∧ Same (hide H d l) (hide (upd (upd H1 t (.tup (doorV dr))) L (.lst (xs ++ [.ref t]))) d l) ∧
      (upd (upd H1 t (.tup (doorV dr))) L (.lst (xs ++ [.ref t]))) L = some (.lst (xs ++ [.ref t])) ∧ AllDoors K (hide (upd (upd H1 t (.tup (doorV dr))) L (.lst (xs ++ [.ref t]))) d l) R (xs ++ [.ref t]) := by
  obtain ⟨td, tl⟩ := D.off nt
  refine ⟨(D.set td tl).set Ld Ll, hide_set (S.trans (hide_new nt)) nL, upd_same, ?_⟩
  rw [hide_upd Ld Ll]
  have hL2 : hide (upd H1 t (.tup (doorV dr))) d l L = some (.lst xs) := by
    rw [hide_eq Ld Ll, upd_ne (ne_of_none hL nt)]
    exact hL
  intro x hx
  rcases List.mem_append.mp hx with z | z
  · exact (al.to (hide_new nt)).put hL2 x z
  · rw [List.mem_singleton.mp z]
    refine ⟨dr, ok, door_dq (.inl (.inl ?_))⟩
    have tL : t ≠ L := (ne_of_none hL nt).symm
    rw [upd_ne tL, hide_eq td tl, upd_same]

section
variable {P : Program} {w : World} {K : PySem.W.Frag} {mg : Str → Option Value} {base : Heap}
/-! ## _law_plan -/
abbrev sPlan : Stmt := topS 23
abbrev nPlan : List Str := ["_law_deck_here", "_law_sizes", "_law_rooms", "_law_beats", "_law_doors", "_law_turn", "_law_room", "_law_way", "_law_other"]
theorem scPlan : FnScope nPlan ["_law_deck_here", "_law_sizes"] (defScope sPlan) := ⟨rfl, rfl, rfl, by decide +kernel, rfl, by decide +kernel, by decide +kernel⟩
def spPlan (K : PySem.W.Frag) : Sp := fun vs H Q _ => ∃ (d l z : Addr) (R B : Nat), vs = [.ref d, .ref z] ∧ Deck H d l ∧ SqT K (hide H d l) z [.int R, .int B] ∧ 1 ≤ R ∧ R ≤ 6 ∧ 1 ≤ B ∧ B ≤ 6 ∧
  ∀ H' v ds, Deck H' d l → Same (hide H d l) (hide H' d l) → PlanOk R B ds → Dq K (hide H' d l) v (planD R B ds) → Q v H'
theorem ok_plan {f : Addr} {fd : FuncData} (F : Fun K "_law_plan" "_law_plan" sPlan f fd) (C : Has P w K mg base CX0 1 "_law_draw" ["_law_deck_here", "_law_many"] spDraw) (C2 : Has P w K mg base CX0 2 "_law_pick" ["_law_deck_here", "_law_items"] (spPick K))
    (C3 : Has P w K mg base CX0 2 "_law_shuffled" ["_law_deck_here", "_law_items"] (spShuf K)) (m1 : mg "range" = none) (m2 : mg "tuple" = none) :
    FnOk P w K mg base CX0 3 f fd ["_law_deck_here", "_law_sizes"] (spPlan K) := by
  refine F.ok scPlan (fun vs H Q E h => ?_) (fun cdv A outer s H vs Q E hr h => ?_)
  · obtain ⟨d, l, z, R, B, rfl, _⟩ := h
    rfl
  · obtain ⟨d, l, z, R, B, rfl, D, hz, r1, r2, b1, b2, q⟩ := h
    have nd := scPlan.nd
    have hr1 := hr.mono (show 1 ≤ 2 by decide)
    refine ⟨_, pss_cons (ps_asg (pv 1) (pg_tup rfl (pgs_cons (pg_name (i := 2) nd rfl (.inl rfl)) (pgs_cons (pg_name (i := 3) nd rfl (.inl rfl)) pgs_nil))))
      (pss_cons (ps_set (i := 4) nd rfl (.inl rfl) (pe_lst (pa_cons (pe_tup (pa_cons (pe_un un_neg pe_int) (pa_cons (pe_fn C hr1 (by rfl) (pa_cons (pv 0) (pa_cons (pv 2) pa_nil))) (pa_cons pe_int pa_nil)))) pa_nil)))
      (pss_cons (ps_for PassesOwn.never rfl (pi_range1 (by rfl) m1 (pa_cons (pe_fn C hr1 (by rfl) (pa_cons (pv 0) (pa_cons pe_int pa_nil))) pa_nil)) (pg_name (i := 5) nd rfl (.inl rfl))
        (pss_cons (ps_par (i := 6) (j := 7) (by rfl) nd rfl rfl (by decide) rfl rfl (pa_cons (pe_fn C hr1 (by rfl) (pa_cons (pv 0) (pa_cons (pv 2) pa_nil))) (pa_cons (pe_fn C hr1 (by rfl) (pa_cons (pv 0) (pa_cons pe_int pa_nil))) pa_nil)) (by rfl))
        (pss_one (ps_if (pt_cmpR op_eq (pv 7) pe_int (nomark _))
          (pss_one (ps_expr (pe_bm PySem.F.plainAttrs_list PySem.F.slot_list_append PySem.F.type_list_append mt_append (pv 4) (pa_cons (pe_tup (pa_cons (pe_un un_neg pe_int) (pa_cons (pv 6) (pa_cons pe_int pa_nil)))) pa_nil))))
          (pss_one (ps_if (PW.pt (pw_or (pt_cmpR op_eq (pv 7) pe_int (nomark _)) (pw_or1 (pt_cmpR op_eq (pv 2) pe_int (nomark _)))))
            (pss_one (ps_expr (pe_bm PySem.F.plainAttrs_list PySem.F.slot_list_append PySem.F.type_list_append mt_append (pv 4) (pa_cons (pe_tup (pa_cons (pv 6) (pa_cons (pe_un un_neg pe_int) (pa_cons pe_int pa_nil)))) pa_nil))))
            (pss_cons (ps_set (i := 8) nd rfl (.inl rfl) (pe_op op_mod (pe_op op_add (pe_op op_add (pv 6) pe_int) (pe_fn C hr1 (by rfl) (pa_cons (pv 0) (pa_cons (pe_op op_sub (pv 2) pe_int) pa_nil)))) (pv 2)))
            (pss_one (ps_expr (pe_bm PySem.F.plainAttrs_list PySem.F.slot_list_append PySem.F.type_list_append mt_append (pv 4) (pa_cons (pe_tup (pa_cons (pv 6) (pa_cons (pv 8) (pa_cons
              (pe_fn C2 hr (by rfl) (pa_cons (pv 0) (pa_cons (pe_lst (pa_cons pe_int (pa_cons pe_int (pa_cons pe_int (pa_cons pe_int (pa_cons pe_int (pa_cons pe_int pa_nil))))))) pa_nil))) pa_nil)))) pa_nil)))))))))))
      (pss_one (ps_ret (pe_tup (pa_cons (pv 2) (pa_cons (pv 3) (pa_cons (pe_callTy call_tuple_of (by rfl) m2 (by decide +kernel) (pa_cons (pe_fn C3 hr (by rfl) (pa_cons (pv 0) (pa_cons (pv 4) pa_nil))) pa_nil)) pa_nil)))))))), ?_⟩
    refine ⟨_, rfl, z, _, rfl, seqT_same hide_same hz, rfl, _, _, rfl, _, _, rfl, rfl, ?_⟩
    refine ⟨1, rfl, _, rfl, _, rfl, d, l, R, rfl, D, r1, by omega, fun H1 r D1 S1 hr0 => ?_⟩
    refine ⟨(by show 3 ≤ sizeLine; decide), fun t nt => ⟨(by show 1 ≤ sizeLine; decide), fun L nL => ?_⟩⟩
    obtain ⟨td, tl⟩ := D1.off nt
    have nH1 : ∀ {b : Addr}, b ≠ d → b ≠ l → H1 b = none → H b = none := fun {b} h1 h2 h3 => by
      cases e : H b with
      | none => rfl
      | some o =>
        have := hide_get S1 h1 h2 e
        rw [h3] at this
        cases this
    have tL : L ≠ t := fun z => by
      rw [z, upd_same] at nL
      cases nL
    have nL1 : H1 L = none := (upd_ne tL).symm.trans nL
    obtain ⟨Ld, Ll⟩ := D1.off nL1
    have nLH := nH1 Ld Ll nL1
    have ok0 : Door.Ok R ⟨-1, r, 0⟩ := .inl ⟨rfl, (by show (0 : Int) ≤ (r : Int); omega), (by show (r : Int) < R; omega), rfl⟩
    have D2 := (D1.set (o := .tup [.int (-1), .int r, .int 0]) td tl).set (o := .lst [.ref t]) Ld Ll
    have S2 : Same (hide H d l) (hide (upd (upd H1 t (.tup [.int (-1), .int r, .int 0])) L (.lst [.ref t])) d l) := hide_set (S1.trans (hide_new nt)) nLH
    have A2 : AllDoors K (hide (upd (upd H1 t (.tup [.int (-1), .int r, .int 0])) L (.lst [.ref t])) d l) R [.ref t] := fun x hx => by
      rw [List.mem_singleton.mp hx]
      refine ⟨⟨-1, r, 0⟩, ok0, door_dq (.inl (.inl ?_))⟩
      rw [hide_eq td tl, upd_ne tL.symm, upd_same]
      rfl
    refine ⟨_, rfl, d, l, 5, rfl, D2, by decide, by decide, fun H3 n D3 S3 hn => ?_⟩
    refine ⟨(n : Int), rfl, by omega, by omega, ?_⟩
    refine for_it walk_range0 (fun i σ H' => ∃ y5 y6 y7 y8 xs, σ = [some (.ref d), some (.ref z), some (.int R), some (.int B), some (.ref L), y5, y6, y7, y8] ∧ Deck H' d l ∧ Same (hide H d l) (hide H' d l) ∧ H' L = some (.lst xs) ∧ AllDoors K (hide H' d l) R xs ∧ xs.length = i + 1)
      ⟨_, _, _, _, [.ref t], rfl, D3, S2.trans S3, hide_get S3 Ld Ll upd_same, A2.to S3, rfl⟩ (fun _ _ _ _ _ => trivial) ?_ ?_
    · rintro i v σ H4 H5 hi ⟨y5, y6, y7, y8, xs, rfl, D4, S4, hL, al, lx⟩ ⟨rfl, rfl⟩
      refine ⟨_, rfl, _, rfl, d, l, R, rfl, D4, r1, by omega, fun H5 r0 D5 S5 hr5 => ?_⟩
      refine ⟨_, rfl, d, l, 4, rfl, D5, by decide, by decide, fun H6 way D6 S6 hw => ?_⟩
      refine ⟨_, _, rfl, ?_⟩
      have hL6 := hide_get S6 Ld Ll (hide_get S5 Ld Ll hL)
      have al6 := al.to (S5.trans S6)
      have S46 := S4.trans (S5.trans S6)
      refine ⟨_, rfl, rfl, _, rfl, ite2 (fun e => ?_) (fun e => ?_)⟩
      · refine ⟨_, rfl, .inl ⟨rfl, _, .inl (.inl hL6)⟩, 1, rfl, _, rfl, (by show 3 ≤ sizeLine; decide), fun t2 nt2 => ?_⟩
        obtain ⟨a1, a2, a3, a4⟩ := doors_step D6 S46 nLH hL6 Ld Ll al6 nt2 ⟨-1, r0, 0⟩ (.inl ⟨rfl, (by show (0 : Int) ≤ (r0 : Int); omega), (by show (r0 : Int) < R; omega), rfl⟩)
        refine ⟨L, xs, .ref t2, rfl, rfl, (upd_ne (ne_of_none hL6 nt2)).trans hL6, small1000 (by omega), ?_⟩
        exact ⟨_, _, _, _, (xs ++ [V.ref t2] : List V), rfl, a1, a2, a3, a4, by rw [List.length_append, List.length_singleton, lx]⟩
      · refine ⟨_, rfl, rfl, _, rfl, ite2 (fun e2 => ?_) (fun e2 => ?_)⟩
        · refine ⟨_, rfl, .inl ⟨rfl, _, .inl (.inl hL6)⟩, _, rfl, 1, rfl, (by show 3 ≤ sizeLine; decide), fun t2 nt2 => ?_⟩
          obtain ⟨a1, a2, a3, a4⟩ := doors_step D6 S46 nLH hL6 Ld Ll al6 nt2 ⟨r0, -1, 0⟩ (.inr (.inl ⟨(by show (0 : Int) ≤ (r0 : Int); omega), (by show (r0 : Int) < R; omega), rfl, rfl⟩))
          refine ⟨L, xs, .ref t2, rfl, rfl, (upd_ne (ne_of_none hL6 nt2)).trans hL6, small1000 (by omega), ?_⟩
          exact ⟨_, _, _, _, (xs ++ [V.ref t2] : List V), rfl, a1, a2, a3, a4, by rw [List.length_append, List.length_singleton, lx]⟩
        · refine ⟨_, rfl, rfl, _, rfl, ite2 (fun e3 => ?_) (fun e3 => ?_)⟩
          · refine ⟨_, rfl, .inl ⟨rfl, _, .inl (.inl hL6)⟩, _, rfl, 1, rfl, (by show 3 ≤ sizeLine; decide), fun t2 nt2 => ?_⟩
            obtain ⟨a1, a2, a3, a4⟩ := doors_step D6 S46 nLH hL6 Ld Ll al6 nt2 ⟨r0, -1, 0⟩ (.inr (.inl ⟨(by show (0 : Int) ≤ (r0 : Int); omega), (by show (r0 : Int) < R; omega), rfl, rfl⟩))
            refine ⟨L, xs, .ref t2, rfl, rfl, (upd_ne (ne_of_none hL6 nt2)).trans hL6, small1000 (by omega), ?_⟩
            exact ⟨_, _, _, _, (xs ++ [V.ref t2] : List V), rfl, a1, a2, a3, a4, by rw [List.length_append, List.length_singleton, lx]⟩
          · have ne1 : R ≠ 1 := fun z => e3 (decide_eq_true (by rw [z]; rfl))
            refine ⟨_, rfl, _, _, rfl, rfl, _, rfl, _, rfl, _, _, rfl, rfl, d, l, R - 1, ?_, D6, by omega, by omega, fun H7 r2' D7 S7 hr7 => ?_⟩
            · show [V.ref d, V.int ((R : Int) - 1)] = _
              rw [show (R : Int) - 1 = ((R - 1 : Nat) : Int) by omega]
            · refine ⟨_, _, rfl, rfl, _, rfl, _, _, rfl, rfl, (by show (0 : Int) < (R : Int); omega), ?_⟩
              have hL7 := hide_get S7 Ld Ll hL6
              refine ⟨_, rfl, .inl ⟨rfl, _, .inl (.inl hL7)⟩, _, rfl, _, rfl, _, rfl, by decide, fun p np => ?_⟩
              obtain ⟨pd, pl⟩ := D7.off np
              refine ⟨d, l, p, _, rfl, D7.set pd pl, .inl (.inl (by rw [hide_eq pd pl, upd_same])), by decide, by decide, fun H8 x D8 S8 hx => ?_⟩
              have pL : p ≠ L := (ne_of_none hL7 np).symm
              have S78 : Same (hide H7 d l) (hide H8 d l) := (hide_new np).trans S8
              have hL8 := hide_get S78 Ld Ll hL7
              obtain ⟨tm, rfl, t1, t6⟩ : ∃ tm : Nat, x = .int tm ∧ 1 ≤ tm ∧ tm ≤ 6 := by
                simp only [List.mem_cons, List.not_mem_nil, or_false] at hx
                rcases hx with e | e | e | e | e | e
                · exact ⟨1, e, by decide, by decide⟩
                · exact ⟨1, e, by decide, by decide⟩
                · exact ⟨1, e, by decide, by decide⟩
                · exact ⟨2, e, by decide, by decide⟩
                · exact ⟨3, e, by decide, by decide⟩
                · exact ⟨6, e, by decide, by decide⟩
              refine ⟨(by show 3 ≤ sizeLine; decide), fun t2 nt2 => ?_⟩
              have o1 := Int.emod_nonneg ((r0 : Int) + 1 + r2') (show (R : Int) ≠ 0 by omega)
              have o2 := Int.emod_lt_of_pos ((r0 : Int) + 1 + r2') (show (0 : Int) < (R : Int) by omega)
              obtain ⟨a1, a2, a3, a4⟩ := doors_step D8 (S46.trans (S7.trans S78)) nLH hL8 Ld Ll (al6.to (S7.trans S78)) nt2 ⟨r0, ((r0 : Int) + 1 + r2') % R, tm⟩ (.inr (.inr ⟨(by show (0 : Int) ≤ (r0 : Int); omega), (by show (r0 : Int) < R; omega), o1, o2, t1, t6⟩))
              refine ⟨L, xs, .ref t2, rfl, rfl, (upd_ne (ne_of_none hL8 nt2)).trans hL8, small1000 (by omega), ?_⟩
              exact ⟨_, _, _, _, (xs ++ [V.ref t2] : List V), rfl, a1, a2, a3, a4, by rw [List.length_append, List.length_singleton, lx]⟩
    · rintro σ H4 ⟨y5, y6, y7, y8, xs, rfl, D4, S4, hL, al, lx⟩
      have ln : xs.length ≤ 5 := by
        have : Int.toNat (n : Int) = n := Int.toNat_natCast n
        omega
      refine ⟨_, rfl, _, rfl, _, rfl, _, rfl, d, l, L, R, xs, rfl, D4, .inl (.inl (by rw [hide_eq Ld Ll]; exact hL)), al, by omega, fun H5 p' ys D5 S5 hp' ay ly => ?_⟩
      obtain ⟨n1, n2, n3⟩ := hide_in hp'
      refine ⟨p', ys, rfl, .inl ⟨.inl (.inl n3), fun u nu => ?_⟩⟩
      refine ⟨(by show 3 ≤ sizeLine; decide), fun v nv => ?_⟩
      obtain ⟨ds, hds, okd⟩ := ay.list
      have lds : ds.length = ys.length := by
        have := hds.len
        rw [List.length_map] at this
        exact this.symm
      obtain ⟨ud, ul⟩ := D5.off nu
      have D6 := D5.set (o := .tup ys) ud ul
      obtain ⟨vd, vl⟩ := D6.off nv
      refine q _ (.ref v) ds (D6.set vd vl) (((S4.trans S5).trans (hide_new nu)).trans (hide_new nv)) ⟨r1, r2, b1, b2, by omega, by omega, okd⟩ ?_
      rw [hide_upd vd vl]
      refine .newT (.cons (.int _) (.cons (.int _) (.cons ?_ .nil))) (hide_none nv)
      rw [hide_upd ud ul]
      exact .newT hds (hide_none nu)
end
end K8

namespace K8
open PySem PySem.Spec PyProof.Rows L2

/-! ## roads in the heap -/
def toldV : Told → List V
  | .door n b => [.str "door", .int n, .int b]
  | .wait r b => [.str "wait", .int r, .int b]
  | .stay r b => [.str "stay", .int r, .int b]
theorem told_dq {K : PySem.W.Frag} {H : Hp} {p : Addr} {T : Told} (h : SqT K H p (toldV T)) : Dq K H (.ref p) (toldD T) := by
  cases T <;> exact .tup h (.cons (.str _) (.cons (.int _) (.cons (.int _) .nil)))
theorem told_inv {K : PySem.W.Frag} {H : Hp} {v : V} {T : Told} (h : Dq K H v (toldD T)) : ∃ p, v = .ref p ∧ SqT K H p (toldV T) := by
  cases T <;>
  · obtain ⟨p, xs, rfl, hp, hx⟩ := Dq.tupI h
    cases hx with
    | cons h1 r1 =>
      cases r1 with
      | cons h2 r2 =>
        cases r2 with
        | cons h3 r3 =>
          cases r3
          cases h1
          cases h2
          cases h3
          exact ⟨p, rfl, hp⟩
def OneRoad (K : PySem.W.Frag) (H : Hp) (x : V) (T : Told) : Prop := ∃ q y t, x = .ref q ∧ SqT K H q [y, .ref t] ∧ SqT K H t (toldV T)
inductive RoadsAre (K : PySem.W.Frag) (H : Hp) : List V → List Told → Prop
  | nil : RoadsAre K H [] []
  | cons {x : V} {T : Told} {xs : List V} {ts : List Told} (h : OneRoad K H x T) (r : RoadsAre K H xs ts) : RoadsAre K H (x :: xs) (T :: ts)
section
variable {K : PySem.W.Frag} {H H' : Hp}
theorem OneRoad.to {x : V} {T : Told} (h : OneRoad K H x T) (e : Same H H') : OneRoad K H' x T := by
  obtain ⟨q, y, t, rfl, h1, h2⟩ := h
  exact ⟨q, y, t, rfl, seqT_same e h1, seqT_same e h2⟩
theorem OneRoad.put {x : V} {T : Told} {L : Addr} {ys zs : List V} (h : OneRoad K H x T) (hL : H L = some (.lst ys)) : OneRoad K (upd H L (.lst zs)) x T := by
  obtain ⟨q, y, t, rfl, h1, h2⟩ := h
  have k : ∀ b o, b ≠ L → H b = some o → (upd H L (.lst zs)) b = some o := fun b o nb e => by
    rw [upd_ne nb]
    exact e
  exact ⟨q, y, t, rfl, keepT hL h1 k, keepT hL h2 k⟩
theorem RoadsAre.to (e : Same H H') : ∀ {xs : List V} {ts : List Told}, RoadsAre K H xs ts → RoadsAre K H' xs ts
  | _, _, .nil => .nil
  | _, _, .cons h r => .cons (h.to e) (r.to e)
theorem RoadsAre.put {L : Addr} {ys zs : List V} (hL : H L = some (.lst ys)) : ∀ {xs : List V} {ts : List Told}, RoadsAre K H xs ts → RoadsAre K (upd H L (.lst zs)) xs ts
  | _, _, .nil => .nil
  | _, _, .cons h r => .cons (h.put hL) (r.put hL)
theorem RoadsAre.app {x : V} {T : Told} (h : OneRoad K H x T) : ∀ {xs : List V} {ts : List Told}, RoadsAre K H xs ts → RoadsAre K H (xs ++ [x]) (ts ++ [T])
  | _, _, .nil => .cons h .nil
  | _, _, .cons h' r => .cons h' (r.app h)
theorem RoadsAre.len : ∀ {xs : List V} {ts : List Told}, RoadsAre K H xs ts → xs.length = ts.length
  | _, _, .nil => rfl
  | _, _, .cons _ r => by simp [r.len]
theorem RoadsAre.at : ∀ {xs : List V} {ts : List Told} {i : Nat} {x : V}, RoadsAre K H xs ts → xs[i]? = some x → ∃ T, ts[i]? = some T ∧ OneRoad K H x T
  | _, _, i, x, .nil, e => by simp at e
  | _, _, 0, x, .cons h r, e => by
    obtain rfl := Option.some.inj e
    exact ⟨_, rfl, h⟩
  | _, _, i + 1, x, .cons h r, e => r.at (i := i) e
end
theorem roads_step {K : PySem.W.Frag} {H H1 : Hp} {L t q1 q2 : Addr} {xs ys : List V} {ts : List Told} {T : Told} (S : Same H H1) (nL : H L = none) (hL : H1 L = some (.lst xs)) (rd : RoadsAre K H1 xs ts) (ht : SqT K H1 t (toldV T))
    (n1 : H1 q1 = none) (n2 : (upd H1 q1 (.tup ys)) q2 = none) :
    Same H (upd (upd (upd H1 q1 (.tup ys)) q2 (.tup [.ref q1, .ref t])) L (.lst (xs ++ [.ref q2]))) ∧
    (upd (upd (upd H1 q1 (.tup ys)) q2 (.tup [.ref q1, .ref t])) L (.lst (xs ++ [.ref q2]))) L = some (.lst (xs ++ [.ref q2])) ∧
    RoadsAre K (upd (upd (upd H1 q1 (.tup ys)) q2 (.tup [.ref q1, .ref t])) L (.lst (xs ++ [.ref q2]))) (xs ++ [.ref q2]) (ts ++ [T]) := by
  have S2 : Same H1 (upd (upd H1 q1 (.tup ys)) q2 (.tup [.ref q1, .ref t])) := same_next (same_new n1) n2
  have hL2 := S2 _ _ hL
  refine ⟨same_put (S.trans S2) nL, upd_same, ?_⟩
  refine RoadsAre.app ?_ ((rd.to S2).put hL2)
  have o : OneRoad K (upd (upd H1 q1 (.tup ys)) q2 (.tup [.ref q1, .ref t])) (.ref q2) T := ⟨q2, .ref q1, t, rfl, .inl (.inl upd_same), seqT_same S2 ht⟩
  exact o.put hL2
theorem told_app (B : Nat) : ∀ (xs ys : List Door) (k : Nat), toldDoors B k (xs ++ ys) = toldDoors B k xs ++ toldDoors B (k + xs.length) ys
  | [], ys, k => by simp [toldDoors]
  | x :: xs, ys, k => by
    rw [List.cons_append, toldDoors, toldDoors, told_app B xs ys (k + 1), List.append_assoc, List.length_cons, show k + 1 + xs.length = k + (xs.length + 1) by omega]
theorem told_take {B : Nat} {ds : List Door} {i : Nat} {d : Door} (h : ds[i]? = some d) : toldDoors B 0 (ds.take (i + 1)) = toldDoors B 0 (ds.take i) ++ (List.range (nb B d)).map (Told.door i) := by
  have hi := (List.getElem?_eq_some_iff.mp h).1
  rw [take_succ h, told_app, List.length_take, Nat.min_eq_left (by omega), Nat.zero_add]
  simp [toldDoors]
theorem range_min {b n : Nat} (f : Nat → Told) : (List.range (min (b + 1) n)).map f = (List.range (min b n)).map f ++ if b < n then [f b] else [] := by
  by_cases h : b < n
  · rw [if_pos h, Nat.min_eq_left (show b + 1 ≤ n by omega), Nat.min_eq_left (show b ≤ n by omega), List.range_succ, List.map_append]
    rfl
  · rw [if_neg h, Nat.min_eq_right (show n ≤ b + 1 by omega), Nat.min_eq_right (show n ≤ b by omega), List.append_nil]
theorem doors_len (B : Nat) : ∀ (ds : List Door) (k : Nat), (toldDoors B k ds).length ≤ B * ds.length
  | [], _ => by simp [toldDoors]
  | d :: ds, k => by
    have := doors_len B ds (k + 1)
    rw [toldDoors, List.length_append, List.length_map, List.length_range, List.length_cons, Nat.mul_succ]
    unfold nb
    omega
theorem rooms_len (R B : Nat) : (toldRooms R B).length = R * B := by
  unfold toldRooms
  induction R with
  | zero => simp
  | succ R ih => 
    rw [List.range_succ, List.flatMap_append, List.length_append, ih]
    simp [Nat.succ_mul]

section
variable {P : Program} {w : World} {K : PySem.W.Frag} {mg : Str → Option Value} {base : Heap}
/-! ## _law_place -/
abbrev sPlace : Stmt := topS 24
theorem scPlace : FnScope ["_law_plan_here", "_law_room", "_law_beat"] ["_law_plan_here", "_law_room", "_law_beat"] (defScope sPlace) := ⟨rfl, rfl, rfl, by decide +kernel, rfl, by decide +kernel, by decide +kernel⟩
def spPlace (K : PySem.W.Frag) : Sp := fun vs H Q _ => ∃ (p : Addr) (R : Nat) (x y : V) (i j : Int), vs = [.ref p, .int i, .int j] ∧ SqT K H p [.int R, x, y] ∧ R ≤ 6 ∧ ∀ k : Int, Q (.int k) H
theorem ok_place {f : Addr} {fd : FuncData} (F : Fun K "_law_place" "_law_place" sPlace f fd) : FnOk P w K mg base CX0 1 f fd ["_law_plan_here", "_law_room", "_law_beat"] (spPlace K) := by
  refine F.ok scPlace (fun vs H Q E h => ?_) (fun cdv A outer s H vs Q E hr h => ?_)
  · obtain ⟨p, R, x, y, i, j, rfl, _⟩ := h
    rfl
  · obtain ⟨p, R, x, y, i, j, rfl, hp, hR, q⟩ := h
    refine ⟨_, pss_one (ps_ret (pe_op op_add (pe_op op_add pe_int (pe_op op_mul (pv 2) (pe_ix ix_tup (pv 0) pe_int (fun _ _ => rfl)))) (pv 1))), ?_⟩
    exact ⟨_, rfl, _, rfl, p, _, 0, _, rfl, rfl, hp, atI_nat (j := 0) rfl, _, _, rfl, rfl, .inr ⟨by omega, by omega⟩, _, _, rfl, rfl, _, rfl, _, _, rfl, rfl, q _⟩
/-! ## _law_roads -/
abbrev sRoads : Stmt := topS 25
abbrev nRoads : List Str := ["_law_plan_here", "_law_rooms", "_law_beats", "_law_doors", "_law_gate", "_law_found", "_law_number", "_law_room", "_law_other", "_law_time", "_law_beat", "_law_told", "_law_after"]
theorem scRoads : FnScope nRoads ["_law_plan_here"] (defScope sRoads) := ⟨rfl, rfl, rfl, by decide +kernel, rfl, by decide +kernel, by decide +kernel⟩
def spRoads (K : PySem.W.Frag) : Sp := fun vs H Q _ => ∃ (v : V) (R B : Nat) (ds : List Door), vs = [v] ∧ Dq K H v (planD R B ds) ∧ PlanOk R B ds ∧
  ∀ H' p xs, Same H H' → H' p = some (.lst xs) → RoadsAre K H' xs (toldL R B ds) → Q (.ref p) H'
theorem ok_roads {f : Addr} {fd : FuncData} (F : Fun K "_law_roads" "_law_roads" sRoads f fd) (C : Has P w K mg base CX0 1 "_law_place" ["_law_plan_here", "_law_room", "_law_beat"] (spPlace K)) (m1 : mg "range" = none) (m2 : mg "enumerate" = none) :
    FnOk P w K mg base CX0 2 f fd ["_law_plan_here"] (spRoads K) := by
  refine F.ok scRoads (fun vs H Q E h => ?_) (fun cdv A outer s H vs Q E hr h => ?_)
  · obtain ⟨v, R, B, ds, rfl, _⟩ := h
    rfl
  · obtain ⟨v, R, B, ds, rfl, hp, pok, q⟩ := h
    obtain ⟨p1, p2, xs, rfl, h1, h2, hx⟩ := plan_inv hp
    have nd := scRoads.nd
    obtain ⟨r1, r2, b1, b2, d1, d2, okd⟩ := id pok
    refine ⟨_, (pss_cons 
     (ps_asg (pv 0) (pg_tup rfl (pgs_cons (pg_name (i := 1) nd rfl (.inl rfl)) (pgs_cons (pg_name (i := 2) nd rfl (.inl rfl)) (pgs_cons (pg_name (i := 3) nd rfl (.inl rfl)) pgs_nil))))) 
    (pss_cons 
     (ps_par (i := 4) (j := 5) (by rfl) nd rfl rfl (by decide) rfl rfl (pa_cons (pe_op op_add (pe_op op_mul (pv 1) (pv 2)) pe_int) (pa_cons (pe_lst pa_nil) pa_nil)) (by rfl)) 
    (pss_cons 
     (ps_for PassesOwn.never rfl (pi_enumT (by rfl) m2 (pa_cons (pv 3) pa_nil)) (pg_tup rfl (pgs_cons (pg_name (i := 6) nd rfl (.inl rfl)) (pgs_cons (pg_tup rfl (pgs_cons (pg_name (i := 7) nd rfl (.inl rfl)) (pgs_cons (pg_name (i := 8) nd rfl (.inl rfl)) (pgs_cons (pg_name (i := 9) nd rfl (.inl rfl)) pgs_nil)))) pgs_nil)))
       (pss_one 
        (ps_for PassesOwn.never rfl (pi_range1 (by rfl) m1 (pa_cons (pv 2) pa_nil)) (pg_name (i := 10) nd rfl (.inl rfl))
          (pss_cons 
           (ps_set (i := 11) nd rfl (.inl rfl) (pe_tup (pa_cons pe_str (pa_cons (pv 6) (pa_cons (pv 10) pa_nil))))) 
          (pss_one 
           (ps_if (pt_cmpR op_eq (pv 7) (pe_un un_neg pe_int) (nomark _))
             (pss_one 
              (ps_expr (pe_bm PySem.F.plainAttrs_list PySem.F.slot_list_append PySem.F.type_list_append mt_append (pv 5) (pa_cons (pe_tup (pa_cons (pe_tup (pa_cons pe_int (pa_cons (pe_fn C (hr.mono (by decide)) (by rfl) (pa_cons (pv 0) (pa_cons (pv 8) (pa_cons (pv 10) pa_nil)))) pa_nil))) (pa_cons (pv 11) pa_nil))) pa_nil))))
             (pss_one 
              (ps_if (pt_cmpR op_eq (pv 8) (pe_un un_neg pe_int) (nomark _))
                (pss_one 
                 (ps_expr (pe_bm PySem.F.plainAttrs_list PySem.F.slot_list_append PySem.F.type_list_append mt_append (pv 5) (pa_cons (pe_tup (pa_cons (pe_tup (pa_cons (pe_fn C (hr.mono (by decide)) (by rfl) (pa_cons (pv 0) (pa_cons (pv 7) (pa_cons (pv 10) pa_nil)))) (pa_cons (pv 4) pa_nil))) (pa_cons (pv 11) pa_nil))) pa_nil))))
                (pss_one 
                 (ps_if (pt_cmpR op_lt (pe_op op_add (pv 10) (pv 9)) (pv 2) (nomark _))
                   (pss_one 
                    (ps_expr (pe_bm PySem.F.plainAttrs_list PySem.F.slot_list_append PySem.F.type_list_append mt_append (pv 5) (pa_cons (pe_tup (pa_cons (pe_tup (pa_cons (pe_fn C (hr.mono (by decide)) (by rfl) (pa_cons (pv 0) (pa_cons (pv 7) (pa_cons (pv 10) pa_nil)))) (pa_cons (pe_fn C (hr.mono (by decide)) (by rfl) (pa_cons (pv 0) (pa_cons (pv 8) (pa_cons (pe_op op_add (pv 10) (pv 9)) pa_nil)))) pa_nil))) (pa_cons (pv 11) pa_nil))) pa_nil)))) pss_nil)))))))))) 
    (pss_cons 
     (ps_for PassesOwn.never rfl (pi_range1 (by rfl) m1 (pa_cons (pv 1) pa_nil)) (pg_name (i := 7) nd rfl (.inl rfl))
       (pss_one 
        (ps_for PassesOwn.never rfl (pi_range1 (by rfl) m1 (pa_cons (pv 2) pa_nil)) (pg_name (i := 10) nd rfl (.inl rfl))
          (pss_cons 
           (ps_set (i := 12) nd rfl (.inl rfl) (pe_ifExp (pt_cmpR op_eq (pv 10) (pe_op op_sub (pv 2) pe_int) (nomark _)) (pv 4) (pe_fn C (hr.mono (by decide)) (by rfl) (pa_cons (pv 0) (pa_cons (pv 7) (pa_cons (pe_op op_add (pv 10) pe_int) pa_nil)))))) 
          (pss_cons 
           (ps_set (i := 11) nd rfl (.inl rfl) (pe_tup (pa_cons (pe_ifExp (pt_cmpR op_eq (pv 10) (pe_op op_sub (pv 2) pe_int) (nomark _)) pe_str pe_str) (pa_cons (pv 7) (pa_cons (pv 10) pa_nil))))) 
          (pss_one 
           (ps_expr (pe_bm PySem.F.plainAttrs_list PySem.F.slot_list_append PySem.F.type_list_append mt_append (pv 5) (pa_cons (pe_tup (pa_cons (pe_tup (pa_cons (pe_fn C (hr.mono (by decide)) (by rfl) (pa_cons (pv 0) (pa_cons (pv 7) (pa_cons (pv 10) pa_nil)))) (pa_cons (pv 12) pa_nil))) (pa_cons (pv 11) pa_nil))) pa_nil))))))))) 
    (pss_one 
     (ps_ret (pv 5))))))), ?_⟩
    refine ⟨_, rfl, p1, _, rfl, h1, rfl, _, _, rfl, _, _, rfl, _, _, rfl, rfl, ?_⟩
    refine ⟨_, rfl, _, rfl, _, _, rfl, rfl, .inl ⟨by omega, by omega⟩, _, _, rfl, rfl, by decide, fun L nL => ⟨_, _, rfl, ?_⟩⟩
    have lx : xs.length = ds.length := by
      rw [hx.len, List.length_map]
    have S0 : Same H (upd H L (.lst [])) := same_new nL
    have szB : ∀ n : Nat, n ≤ 66 → n < sizeLine := fun n h => small1000 (by omega)
    have tl : (toldDoors B 0 ds).length ≤ 30 := Nat.le_trans (doors_len B ds 0) (Nat.le_trans (Nat.mul_le_mul b2 d2) (by decide))
    refine ⟨_, rfl, p2, _, rfl, (seqT_same S0 h2), ?_⟩
    refine for_it (walk_enumT (xs := xs)) (fun i σ H' => ∃ y6 y7 y8 y9 y10 y11 ys, σ = [some (.ref p1), some (.int R), some (.int B), some (.ref p2), some (.int ((R : Int) * B + 1)), some (.ref L), y6, y7, y8, y9, y10, y11, none] ∧ Same H H' ∧ H' L = some (.lst ys) ∧ RoadsAre K H' ys (toldDoors B 0 (ds.take i)))
      ⟨_, _, _, _, _, _, [], rfl, S0, upd_same, by rw [List.take_zero]; exact .nil⟩ (fun i σ H' _ hP => ?_) ?_ ?_
    · obtain ⟨_, _, _, _, _, _, _, _, hS, _⟩ := hP
      exact seqT_same hS h2
    · rintro i v σ H1 H2 hi ⟨y6, y7, y8, y9, y10, y11, ys, rfl, hS, hL, rd⟩ ⟨T, x, y, rfl, nT, rfl, ex, ey⟩
      obtain rfl := Option.some.inj ex
      obtain ⟨dr, edr, hdr⟩ := hx.atM ey
      have okdr := okd dr (List.mem_of_getElem? edr)
      have S2 := same_next hS nT (o := .tup [.int (i : Nat), y])
      obtain ⟨dp, rfl, hdp⟩ := door_inv (hdr.to S2)
      refine ⟨T, _, rfl, .inl (.inl upd_same), rfl, _, _, rfl, _, _, rfl, dp, _, rfl, hdp, rfl, _, _, rfl, _, _, rfl, _, _, rfl, rfl, rfl, ?_⟩
      refine ⟨_, rfl, (B : Int), rfl, by omega, by omega, ?_⟩
      have tle : (toldDoors B 0 (ds.take (i + 1))).length ≤ 30 := Nat.le_trans (doors_len B _ 0) (Nat.le_trans (Nat.mul_le_mul b2 (Nat.le_trans (List.length_take_le _ _) (show i + 1 ≤ 5 by omega))) (by decide))
      refine for_it walk_range0 (fun b σ H' => ∃ y10 y11 ys, σ = [some (.ref p1), some (.int R), some (.int B), some (.ref p2), some (.int ((R : Int) * B + 1)), some (.ref L), some (.int i), some (.int dr.one), some (.int dr.other), some (.int dr.time), y10, y11, none] ∧ Same H H' ∧ H' L = some (.lst ys) ∧ RoadsAre K H' ys (toldDoors B 0 (ds.take i) ++ (List.range (min b (nb B dr))).map (Told.door i)))
        ⟨_, _, ys, rfl, S2, same_new nT _ _ hL, by rw [Nat.zero_min]; simpa using rd.to (same_new nT)⟩ (fun _ _ _ _ _ => trivial) ?_ ?_
      · rintro b v σ H3 H4 hb ⟨y10, y11, ys, rfl, S3, hL3, rd3⟩ ⟨rfl, rfl⟩
        have hb' : b < B := by omega
        rw [range_min, ← List.append_assoc]
        refine ⟨_, rfl, _, rfl, (by show 3 ≤ sizeLine; decide), fun t nt => ?_⟩
        have S4 := same_next S3 nt (o := .tup [.str "door", .int i, .int b])
        have hL4 := same_new (o := .tup [.str "door", .int i, .int b]) nt _ _ hL3
        have rd4 := rd3.to (same_new (o := .tup [.str "door", .int i, .int b]) nt)
        have ht : SqT K (upd H4 t (.tup [.str "door", .int i, .int b])) t (toldV (.door i b)) := .inl (.inl upd_same)
        have sz : ys.length ≤ 1000 := by
          have e1 := rd3.len
          rw [List.length_append, List.length_map, List.length_range] at e1
          have e2 := doors_len B (ds.take i) 0
          have e3 : B * (ds.take i).length ≤ 6 * 5 := Nat.mul_le_mul b2 (Nat.le_trans (List.length_take_le _ _) (show i ≤ 5 by omega))
          have e4 : min b (nb B dr) ≤ 6 := Nat.le_trans (Nat.min_le_left _ _) (by omega)
          omega
        refine ⟨_, rfl, 1, rfl, rfl, _, rfl, ite2 (fun e1 => ?_) (fun e1 => ?_)⟩
        · have o1 : dr.one = -1 := V.int.inj (of_decide_eq_true e1)
          have lt : b < nb B dr := by
            unfold nb
            rcases okdr with o | o | o <;> omega
          rw [if_pos lt]
          refine ⟨_, rfl, .inl ⟨rfl, _, .inl (.inl hL4)⟩, _, rfl, _, rfl, _, rfl, p1, R, _, _, _, _, rfl, seqT_same S4 h1, r2, fun k => ?_⟩
          refine ⟨(by show 2 ≤ sizeLine; decide), fun q1 n1 => ⟨_, rfl, (by show 2 ≤ sizeLine; decide), fun q2 n2 => ?_⟩⟩
          obtain ⟨a1, a2, a3⟩ := roads_step S4 nL hL4 rd4 ht n1 n2
          refine ⟨L, ys, .ref q2, rfl, rfl, (same_next (same_new n1) n2) _ _ hL4, small1000 sz, ?_⟩
          exact ⟨_, _, (ys ++ [V.ref q2] : List V), rfl, a1, a2, a3⟩
        · have o1 : ¬ dr.one = -1 := fun z => e1 (decide_eq_true (by rw [z]))
          refine ⟨_, rfl, 1, rfl, rfl, _, rfl, ite2 (fun e2 => ?_) (fun e2 => ?_)⟩
          · have o2 : dr.other = -1 := V.int.inj (of_decide_eq_true e2)
            have lt : b < nb B dr := by
              unfold nb
              rcases okdr with o | o | o <;> omega
            rw [if_pos lt]
            refine ⟨_, rfl, .inl ⟨rfl, _, .inl (.inl hL4)⟩, _, rfl, _, rfl, _, rfl, p1, R, _, _, _, _, rfl, seqT_same S4 h1, r2, fun k => ?_⟩
            refine ⟨_, rfl, (by show 2 ≤ sizeLine; decide), fun q1 n1 => ⟨_, rfl, (by show 2 ≤ sizeLine; decide), fun q2 n2 => ?_⟩⟩
            obtain ⟨a1, a2, a3⟩ := roads_step S4 nL hL4 rd4 ht n1 n2
            refine ⟨L, ys, .ref q2, rfl, rfl, (same_next (same_new n1) n2) _ _ hL4, small1000 sz, ?_⟩
            exact ⟨_, _, (ys ++ [V.ref q2] : List V), rfl, a1, a2, a3⟩
          · refine ⟨_, rfl, _, rfl, _, _, rfl, rfl, _, rfl, _, _, rfl, rfl, _, rfl, ite2 (fun e3 => ?_) (fun e3 => ?_)⟩
            · have o3 : (b : Int) + dr.time < B := of_decide_eq_true e3
              have lt : b < nb B dr := by
                unfold nb
                omega
              rw [if_pos lt]
              refine ⟨_, rfl, .inl ⟨rfl, _, .inl (.inl hL4)⟩, _, rfl, _, rfl, _, rfl, p1, R, _, _, _, _, rfl, seqT_same S4 h1, r2, fun k => ?_⟩
              refine ⟨_, rfl, _, rfl, _, rfl, _, rfl, _, _, rfl, rfl, p1, R, _, _, _, _, rfl, seqT_same S4 h1, r2, fun k2 => ?_⟩
              refine ⟨(by show 2 ≤ sizeLine; decide), fun q1 n1 => ⟨_, rfl, (by show 2 ≤ sizeLine; decide), fun q2 n2 => ?_⟩⟩
              obtain ⟨a1, a2, a3⟩ := roads_step S4 nL hL4 rd4 ht n1 n2
              refine ⟨L, ys, .ref q2, rfl, rfl, (same_next (same_new n1) n2) _ _ hL4, small1000 sz, ?_⟩
              exact ⟨_, _, (ys ++ [V.ref q2] : List V), rfl, a1, a2, a3⟩
            · have o3 : ¬ (b : Int) + dr.time < B := fun z => e3 (decide_eq_true z)
              have lt : ¬ b < nb B dr := by
                unfold nb
                omega
              rw [if_neg lt, List.append_nil]
              exact ⟨_, _, ys, rfl, S4, hL4, rd4⟩
      · rintro σ H3 ⟨y10, y11, ys, rfl, S3, hL3, rd3⟩
        refine ⟨_, _, _, _, _, _, ys, rfl, S3, hL3, ?_⟩
        rw [told_take edr]
        have : min (Int.toNat (B : Int)) (nb B dr) = nb B dr := by
          unfold nb
          omega
        rw [this] at rd3
        exact rd3
    · rintro σ H1 ⟨y6, y7, y8, y9, y10, y11, ys, rfl, hS, hL, rd⟩
      rw [List.take_of_length_le (by omega)] at rd
      refine ⟨_, rfl, (R : Int), rfl, by omega, by omega, ?_⟩
      refine for_it walk_range0 (fun r σ H' => ∃ y6 y7 y8 y9 y10 y11 y12 ys, σ = [some (.ref p1), some (.int R), some (.int B), some (.ref p2), some (.int ((R : Int) * B + 1)), some (.ref L), y6, y7, y8, y9, y10, y11, y12] ∧ Same H H' ∧ H' L = some (.lst ys) ∧ RoadsAre K H' ys (toldDoors B 0 ds ++ toldRooms r B))
        ⟨_, _, _, _, _, _, _, ys, rfl, hS, hL, by rw [show toldRooms 0 B = [] from rfl, List.append_nil]; exact rd⟩ (fun _ _ _ _ _ => trivial) ?_ ?_
      · rintro r v σ H2 H3 hr' ⟨y6, y7, y8, y9, y10, y11, y12, ys, rfl, S3, hL3, rd3⟩ ⟨rfl, rfl⟩
        refine ⟨_, rfl, (B : Int), rfl, by omega, by omega, ?_⟩
        have eR : toldRooms (r + 1) B = toldRooms r B ++ (List.range B).map (lastT B r) := by
          unfold toldRooms
          rw [List.range_succ, List.flatMap_append]
          simp
        refine for_it walk_range0 (fun b σ H' => ∃ y10 y11 y12 ys, σ = [some (.ref p1), some (.int R), some (.int B), some (.ref p2), some (.int ((R : Int) * B + 1)), some (.ref L), y6, some (.int r), y8, y9, y10, y11, y12] ∧ Same H H' ∧ H' L = some (.lst ys) ∧ RoadsAre K H' ys (toldDoors B 0 ds ++ toldRooms r B ++ (List.range b).map (lastT B r)))
          ⟨_, _, _, ys, rfl, S3, hL3, by simpa using rd3⟩ (fun _ _ _ _ _ => trivial) ?_ ?_
        · rintro b v σ H2 H3 hb ⟨y10, y11, y12, ys, rfl, S3, hL3, rd3⟩ ⟨rfl, rfl⟩
          have hb' : b < B := by omega
          have sz : ys.length ≤ 1000 := by
            have e1 := rd3.len
            rw [List.length_append, List.length_append, List.length_map, List.length_range, rooms_len] at e1
            have : r * B ≤ 6 * 6 := Nat.mul_le_mul (by omega) b2
            omega
          have eb : (List.range (b + 1)).map (lastT B r) = (List.range b).map (lastT B r) ++ [lastT B r b] := by
            rw [List.range_succ, List.map_append]
            rfl
          rw [eb, ← List.append_assoc]
          refine ⟨_, rfl, _, rfl, _, _, rfl, rfl, rfl, _, rfl, ite2 (fun e1 => ?_) (fun e1 => ?_)⟩
          · have o1 : (b : Int) = (B : Int) - 1 := V.int.inj (of_decide_eq_true e1)
            refine ⟨_, rfl, ?_⟩
            refine ⟨_, rfl, _, rfl, _, _, rfl, rfl, rfl, _, rfl, ite2 (fun e2 => ?_) (fun e2 => absurd e1 e2)⟩
            refine ⟨_, rfl, _, rfl, (by show 3 ≤ sizeLine; decide), fun t nt => ?_⟩
            have S4 := same_next S3 nt (o := .tup [.str "stay", .int r, .int b])
            have hL4 := same_new (o := .tup [.str "stay", .int r, .int b]) nt _ _ hL3
            have rd4 := rd3.to (same_new (o := .tup [.str "stay", .int r, .int b]) nt)
            have ht : SqT K (upd H3 t (.tup [.str "stay", .int r, .int b])) t (toldV (lastT B r b)) := by
              unfold lastT
              rw [if_pos (by omega)]
              exact .inl (.inl upd_same)
            refine ⟨_, rfl, .inl ⟨rfl, _, .inl (.inl hL4)⟩, _, rfl, _, rfl, _, rfl, p1, R, _, _, _, _, rfl, seqT_same S4 h1, r2, fun k => ?_⟩
            refine ⟨_, rfl, (by show 2 ≤ sizeLine; decide), fun q1 n1 => ⟨_, rfl, (by show 2 ≤ sizeLine; decide), fun q2 n2 => ?_⟩⟩
            obtain ⟨a1, a2, a3⟩ := roads_step S4 nL hL4 rd4 ht n1 n2
            refine ⟨L, ys, .ref q2, rfl, rfl, (same_next (same_new n1) n2) _ _ hL4, small1000 sz, ?_⟩
            exact ⟨_, _, _, (ys ++ [V.ref q2] : List V), rfl, a1, a2, a3⟩
          · have o1 : ¬ (b : Int) = (B : Int) - 1 := fun z => e1 (decide_eq_true (congrArg V.int z))
            refine ⟨_, rfl, _, rfl, _, rfl, _, _, rfl, rfl, p1, R, _, _, _, _, rfl, seqT_same S3 h1, r2, fun k1 => ?_⟩
            refine ⟨_, rfl, _, rfl, _, _, rfl, rfl, rfl, _, rfl, ite2 (fun e2 => absurd e2 e1) (fun e2 => ?_)⟩
            refine ⟨_, rfl, _, rfl, (by show 3 ≤ sizeLine; decide), fun t nt => ?_⟩
            have S4 := same_next S3 nt (o := .tup [.str "wait", .int r, .int b])
            have hL4 := same_new (o := .tup [.str "wait", .int r, .int b]) nt _ _ hL3
            have rd4 := rd3.to (same_new (o := .tup [.str "wait", .int r, .int b]) nt)
            have ht : SqT K (upd H3 t (.tup [.str "wait", .int r, .int b])) t (toldV (lastT B r b)) := by
              unfold lastT
              rw [if_neg (by omega)]
              exact .inl (.inl upd_same)
            refine ⟨_, rfl, .inl ⟨rfl, _, .inl (.inl hL4)⟩, _, rfl, _, rfl, _, rfl, p1, R, _, _, _, _, rfl, seqT_same S4 h1, r2, fun k => ?_⟩
            refine ⟨_, rfl, (by show 2 ≤ sizeLine; decide), fun q1 n1 => ⟨_, rfl, (by show 2 ≤ sizeLine; decide), fun q2 n2 => ?_⟩⟩
            obtain ⟨a1, a2, a3⟩ := roads_step S4 nL hL4 rd4 ht n1 n2
            refine ⟨L, ys, .ref q2, rfl, rfl, (same_next (same_new n1) n2) _ _ hL4, small1000 sz, ?_⟩
            exact ⟨_, _, _, (ys ++ [V.ref q2] : List V), rfl, a1, a2, a3⟩
        · rintro σ H4 ⟨y10, y11, y12, ys, rfl, S3, hL3, rd3⟩
          refine ⟨_, _, _, _, _, _, _, ys, rfl, S3, hL3, ?_⟩
          rw [eR, ← List.append_assoc]
          exact rd3
      · rintro σ H4 ⟨y6, y7, y8, y9, y10, y11, y12, ys, rfl, S3, hL3, rd3⟩
        exact ⟨_, rfl, q _ L ys S3 hL3 rd3⟩
end
end K8

namespace K8
open PySem PySem.Spec PyProof.Rows L2

section
variable {P : Program} {w : World} {K : PySem.W.Frag} {mg : Str → Option Value} {base : Heap}
/-! ## _law_moved -/
abbrev sMoved : Stmt := topS 28
abbrev pMoved : List Str := ["_law_plan_here", "_law_own", "_law_count", "_law_room", "_law_beat"]
theorem scMoved : FnScope ["_law_plan_here", "_law_own", "_law_count", "_law_room", "_law_beat", "_law_one", "_law_other", "_law_time"] pMoved (defScope sMoved) := ⟨rfl, rfl, rfl, by decide +kernel, rfl, by decide +kernel, by decide +kernel⟩
def spMoved (K : PySem.W.Frag) : Sp := fun vs H Q _ => ∃ (pl ov : V) (R B : Nat) (ds : List Door) (n b' r b : Nat) (c : Int), vs = [pl, ov, .int c, .int r, .int b] ∧ Dq K H pl (planD R B ds) ∧ Dq K H ov (toldD (.door n b')) ∧ n < ds.length ∧
  Q (.int (movedOne (ds.getD n default) c b' r b)) H
theorem ok_moved {f : Addr} {fd : FuncData} (F : Fun K "_law_moved" "_law_moved" sMoved f fd) : FnOk P w K mg base CX0 1 f fd pMoved (spMoved K) := by
  refine F.ok scMoved (fun vs H Q E h => ?_) (fun cdv A outer s H vs Q E hr h => ?_)
  · obtain ⟨pl, ov, R, B, ds, n, b', r, b, c, rfl, _⟩ := h
    rfl
  · obtain ⟨pl, ov, R, B, ds, n, b', r, b, c, rfl, hp, ho, hn, q⟩ := h
    obtain ⟨p1, p2, xs, rfl, h1, h2, hx⟩ := plan_inv hp
    obtain ⟨op, rfl, hop⟩ := told_inv ho
    have nd := scMoved.nd
    refine ⟨_, (pss_cons 
     (ps_asg (pe_ix ix_tup (pe_ix ix_tup (pv 0) pe_int (fun _ _ => rfl)) (pe_ix ix_tup (pv 1) pe_int (fun _ _ => rfl)) (fun _ _ => rfl)) (pg_tup rfl (pgs_cons (pg_name (i := 5) nd rfl (.inl rfl)) (pgs_cons (pg_name (i := 6) nd rfl (.inl rfl)) (pgs_cons (pg_name (i := 7) nd rfl (.inl rfl)) pgs_nil))))) 
    (pss_cons 
     (ps_if (PW.pt (pw_and (pt_cmpR op_eq (pv 5) (pv 3) (nomark _)) (pw_and1 (pt_cmpR op_eq (pe_ix ix_tup (pv 1) pe_int (fun _ _ => rfl)) (pv 4) (nomark _)))))
       (pss_one 
        (ps_ret (pe_op op_sub pe_int (pv 2)))) pss_nil) 
    (pss_one 
     (ps_ret (pe_ifExp (PW.pt (pw_and (pt_cmpR op_eq (pv 6) (pv 3) (nomark _)) (pw_and1 (pt_cmpR op_eq (pe_op op_add (pe_ix ix_tup (pv 1) pe_int (fun _ _ => rfl)) (pv 7)) (pv 4) (nomark _))))) (pv 2) pe_int))))), ?_⟩
    have ed : ds[n]? = some ds[n] := List.getElem?_eq_getElem hn
    have eD : ds.getD n default = ds[n] := by
      rw [List.getD_eq_getElem?_getD, ed]
      rfl
    rw [eD] at q
    obtain ⟨x, ex, hd⟩ := hx.at (i := n) (d := doorD ds[n]) (by rw [List.getElem?_map, ed]; rfl)
    obtain ⟨dp, rfl, hdp⟩ := door_inv hd
    unfold movedOne at q
    refine ⟨_, rfl, p1, _, 2, _, rfl, rfl, h1, atI_nat (j := 2) rfl, _, rfl, op, _, 1, .int n, rfl, rfl, hop, atI_nat (j := 1) rfl, p2, _, _, _, rfl, rfl, h2, atI_nat ex, ?_⟩
    refine ⟨dp, _, rfl, hdp, rfl, _, _, rfl, _, _, rfl, _, _, rfl, rfl, ?_⟩
    have fin2 : ¬ (ds[n].one = (r : Int) ∧ b' = b) → Q (.int (if ds[n].other = (r : Int) ∧ b' + ds[n].time = b then c else 0)) H := fun z => by
      rw [if_neg z] at q
      exact q
    have two : ¬ (ds[n].one = (r : Int) ∧ b' = b) → (if decide (V.int ds[n].other = V.int (r : Int)) = true then (if decide (V.int ((b' : Int) + ds[n].time) = V.int (b : Int)) = true then Q (.int c) H else Q (.int 0) H) else Q (.int 0) H) := fun z => by
      have q2 := fin2 z
      refine ite2 (fun e3 => ite2 (fun e4 => ?_) (fun e4 => ?_)) (fun e3 => ?_)
      · rw [if_pos ⟨V.int.inj (of_decide_eq_true e3), by have := V.int.inj (of_decide_eq_true e4); omega⟩] at q2
        exact q2
      · rw [if_neg (fun y => e4 (decide_eq_true (congrArg V.int (by have := y.2; omega))))] at q2
        exact q2
      · rw [if_neg (fun y => e3 (decide_eq_true (congrArg V.int y.1)))] at q2
        exact q2
    refine ⟨_, rfl, _, rfl, rfl, _, rfl, ite2 (fun e1 => ?_) (fun e1 => ?_)⟩
    · refine ⟨_, rfl, op, _, 2, .int b', rfl, rfl, hop, atI_nat (j := 2) rfl, _, rfl, rfl, _, rfl, ite2 (fun e2 => ?_) (fun e2 => ?_)⟩
      · rw [if_pos ⟨V.int.inj (of_decide_eq_true e1), by have := V.int.inj (of_decide_eq_true e2); omega⟩] at q
        exact ⟨_, rfl, _, _, rfl, rfl, q⟩
      · have z := two (fun y => e2 (decide_eq_true (congrArg V.int (by have := y.2; omega))))
        refine ⟨_, rfl, _, rfl, rfl, _, rfl, ite2 (fun e3 => ?_) (fun e3 => ?_)⟩
        · rw [if_pos e3] at z
          refine ⟨_, rfl, op, _, 2, .int b', rfl, rfl, hop, atI_nat (j := 2) rfl, _, rfl, _, _, rfl, rfl, _, rfl, rfl, _, rfl, ite2 (fun e4 => ?_) (fun e4 => ?_)⟩
          · rw [if_pos e4] at z
            exact ⟨_, rfl, z⟩
          · rw [if_neg e4] at z
            exact z
        · rw [if_neg e3] at z
          exact z
    · have z := two (fun y => e1 (decide_eq_true (congrArg V.int y.1)))
      refine ⟨_, rfl, _, rfl, rfl, _, rfl, ite2 (fun e3 => ?_) (fun e3 => ?_)⟩
      · rw [if_pos e3] at z
        refine ⟨_, rfl, op, _, 2, .int b', rfl, rfl, hop, atI_nat (j := 2) rfl, _, rfl, _, _, rfl, rfl, _, rfl, rfl, _, rfl, ite2 (fun e4 => ?_) (fun e4 => ?_)⟩
        · rw [if_pos e4] at z
          exact ⟨_, rfl, z⟩
        · rw [if_neg e4] at z
          exact z
      · rw [if_neg e3] at z
        exact z
/-! ## _law_is_count -/
abbrev sLCount : Stmt := topS 29
theorem scLCount : FnScope ["_law_value"] ["_law_value"] (defScope sLCount) := ⟨rfl, rfl, rfl, by decide +kernel, rfl, by decide +kernel, by decide +kernel⟩
theorem ok_lcount {f : Addr} {fd : FuncData} (F : Fun K "_law_is_count" "_law_is_count" sLCount f fd) (m_isinstance : mg "isinstance" = none) (m_int : mg "int" = none) (m_bool : mg "bool" = none) : FnOk P w K mg base CX0 1 f fd ["_law_value"] (spIsCount K) := by
  refine F.ok scLCount (fun vs H Q E h => ?_) (fun cdv A outer s H vs Q E hr h => ?_)
  · obtain ⟨v, d, rfl, _⟩ := h
    rfl
  · obtain ⟨v, d, rfl, hd, q⟩ := h
    have nd := scLCount.nd
    refine ⟨_, (pss_one 
     (ps_ret (pe_and (pe_callB call_isD (by rfl) m_isinstance (by decide +kernel) (pa_cons (pv 0) (pa_cons (pe_bltn (v := .ty "int") (by rfl) m_int (by decide +kernel) rfl) pa_nil))) (pe_and (pe_not (pe_callB call_isD (by rfl) m_isinstance (by decide +kernel) (pa_cons (pv 0) (pa_cons (pe_bltn (v := .ty "bool") (by rfl) m_bool (by decide +kernel) rfl) pa_nil)))) (pe_one (pe_chain op_le op_le pe_int (pv 0) (pe_op op_pow pe_int pe_int))))))), ?_⟩
    have e30 : (10 : Int) ^ (30 : Int).toNat = big := by decide
    refine ⟨v, rfl, v, d, "int", rfl, hd, (ty_int d).2, _, rfl, ite2 (fun e => ?_) (fun e => ?_)⟩
    · rw [(ty_int d).1] at e
      refine ⟨v, rfl, v, d, "bool", rfl, hd, (ty_bool d).2, _, rfl, _, rfl, ?_⟩
      rw [(ty_bool d).1]
      cases d with
      | int i =>
        cases hd
        refine iteT ?_
        refine ⟨.int i, rfl, 0, i, rfl, rfl, _, rfl, ite2 (fun e1 => ?_) (fun e1 => ?_)⟩
        · refine ⟨_, _, rfl, rfl, ⟨by decide, by decide, by decide⟩, i, _, rfl, rfl, ?_⟩
          have z : isCountD (.int i) = decide (i ≤ big) := by
            show (decide (0 ≤ i) && decide (i ≤ big)) = _
            rw [e1, Bool.true_and]
          rw [z, ← e30] at q
          exact q
        · have z : isCountD (.int i) = false := by
            show (decide (0 ≤ i) && decide (i ≤ big)) = _
            rw [Bool.eq_false_iff.mpr e1, Bool.false_and]
          rw [z] at q
          exact q
      | bool b => exact iteF q
      | _ => simp [tyName] at e
    · rw [(ty_int d).1] at e
      have z : isCountD d = false := by
        cases d <;> first | rfl | simp [tyName] at e
      rw [z] at q
      exact q
end
end K8

namespace K8
open PySem PySem.Spec PyProof.Rows L2

/-! ## plain facts for the law's reckoning -/
def mid {α : Type} (f g : α → Int) (i : Nat) (L : List α) : List Int := (L.take i).map f ++ (L.drop i).map g
theorem mid_zero {α : Type} (f g : α → Int) (L : List α) : mid f g 0 L = L.map g := by simp [mid]
theorem mid_all {α : Type} (f g : α → Int) (L : List α) : mid f g L.length L = L.map f := by simp [mid]
theorem mid_len {α : Type} (f g : α → Int) (i : Nat) (L : List α) : (mid f g i L).length = L.length := by
  rw [mid, List.length_append, List.length_map, List.length_map, List.length_take, List.length_drop]
  omega
theorem mid_set {α : Type} {f g : α → Int} {L : List α} {i : Nat} {T : α} (h : L[i]? = some T) : (mid f g i L).set i (f T) = mid f g (i + 1) L := by
  have hi := (List.getElem?_eq_some_iff.mp h).1
  have hT := (List.getElem?_eq_some_iff.mp h).2
  unfold mid
  have e1 : ((L.take i).map f).length = i := by
    rw [List.length_map, List.length_take]
    omega
  rw [List.set_append_right _ _ (by omega), e1, Nat.sub_self, List.drop_eq_getElem_cons hi, List.map_cons, List.set_cons_zero, take_succ h, List.map_append]
  simp
theorem mid_keep {α : Type} {f g : α → Int} {L : List α} {i : Nat} {T : α} (h : L[i]? = some T) (e : f T = g T) : mid f g i L = mid f g (i + 1) L := by
  have hi := (List.getElem?_eq_some_iff.mp h).1
  have hT := (List.getElem?_eq_some_iff.mp h).2
  unfold mid
  rw [List.drop_eq_getElem_cons hi, List.map_cons, hT, ← e, take_succ h, List.map_append]
  simp
theorem set_ints {ns : List Int} {i : Nat} {k : Int} : (ns.map V.int).set i (.int k) = (ns.set i k).map V.int := by
  rw [List.map_set]
def atDoor (n : Nat) : Told → Option Nat
  | .door n' b' => if n' = n then some b' else none
  | _ => none
theorem at_none (B n : Nat) : ∀ (ds : List Door) (k : Nat), n < k → (toldDoors B k ds).filterMap (atDoor n) = []
  | [], _, _ => rfl
  | d :: ds, k, h => by
    rw [toldDoors, List.filterMap_append, at_none B n ds (k + 1) (by omega), List.append_nil, List.filterMap_map]
    refine List.filterMap_eq_nil_iff.mpr fun b _ => ?_
    show atDoor n (.door k b) = none
    exact if_neg (by omega)
theorem at_doors {B : Nat} : ∀ {ds : List Door} {j k : Nat} {d : Door}, ds[j]? = some d → (toldDoors B k ds).filterMap (atDoor (k + j)) = List.range (nb B d)
  | [], _, _, _, h => by simp at h
  | x :: ds, 0, k, d, h => by
    obtain rfl : x = d := by simpa using h
    rw [toldDoors, List.filterMap_append, Nat.add_zero, at_none B k ds (k + 1) (by omega), List.append_nil, List.filterMap_map]
    have e : (atDoor k ∘ Told.door k) = some := by
      funext b
      exact if_pos rfl
    rw [e, List.filterMap_some]
  | x :: ds, j + 1, k, d, h => by
    rw [toldDoors, List.filterMap_append, show k + (j + 1) = (k + 1) + j by omega, at_doors (ds := ds) (j := j) (k := k + 1) (by simpa using h), List.filterMap_map]
    have e : (List.range (nb B x)).filterMap (atDoor (k + 1 + j) ∘ Told.door k) = [] := by
      refine List.filterMap_eq_nil_iff.mpr fun b _ => ?_
      show atDoor (k + 1 + j) (.door k b) = none
      exact if_neg (by omega)
    rw [e]
    rfl
theorem at_told {R B : Nat} {ds : List Door} {n : Nat} {d : Door} (h : ds[n]? = some d) : (toldL R B ds).filterMap (atDoor n) = List.range (nb B d) := by
  have e := at_doors (B := B) (k := 0) h
  rw [Nat.zero_add] at e
  unfold toldL
  rw [List.filterMap_append, e]
  have e2 : (toldRooms R B).filterMap (atDoor n) = [] := by
    refine List.filterMap_eq_nil_iff.mpr fun T hT => ?_
    obtain ⟨r, b, _, _, rfl⟩ := mem_rooms hT
    unfold lastT
    split <;> rfl
  rw [e2, List.append_nil]
theorem door_mem {B : Nat} : ∀ {ds : List Door} {k n b : Nat}, Told.door n b ∈ toldDoors B k ds → ∃ d, k ≤ n ∧ ds[n - k]? = some d ∧ b < nb B d
  | [], _, _, _, h => by simp [toldDoors] at h
  | d :: ds, k, n, b, h => by
    unfold toldDoors at h
    rcases List.mem_append.mp h with h | h
    · obtain ⟨x, hx, e⟩ := List.mem_map.mp h
      injection e with e1 e2
      subst e1 e2
      exact ⟨d, Nat.le_refl _, by simp, List.mem_range.mp hx⟩
    · obtain ⟨d', h1, h2, h3⟩ := door_mem h
      refine ⟨d', by omega, ?_, h3⟩
      rw [show n - k = (n - (k + 1)) + 1 by omega]
      simpa using h2
theorem door_told {R B : Nat} {ds : List Door} {n b : Nat} (h : Told.door n b ∈ toldL R B ds) : ∃ d, ds[n]? = some d ∧ b < nb B d := by
  unfold toldL at h
  rcases List.mem_append.mp h with h | h
  · obtain ⟨d, _, h2, h3⟩ := door_mem h
    exact ⟨d, by simpa using h2, h3⟩
  · obtain ⟨r, b', _, _, e⟩ := mem_rooms h
    unfold lastT at e
    split at e <;> cases e
theorem s_dw : (("door" : Str) == "wait") = false := by decide +kernel
theorem s_ds : (("door" : Str) == "stay") = false := by decide +kernel
theorem s_ws : (("wait" : Str) == "stay") = false := by decide +kernel
theorem s_wd : (("wait" : Str) == "door") = false := by decide +kernel
theorem s_sd : (("stay" : Str) == "door") = false := by decide +kernel
theorem s_sw : (("stay" : Str) == "wait") = false := by decide +kernel
theorem ok_d : PyData.strOk "door" = true := by decide +kernel
theorem ok_w : PyData.strOk "wait" = true := by decide +kernel
theorem ok_s : PyData.strOk "stay" = true := by decide +kernel
theorem nat_beq (a b : Nat) : ((a : Int) == (b : Int)) = decide (a = b) := by
  by_cases h : a = b
  · subst h
    simp
  · rw [decide_eq_false h]
    exact beq_false_of_ne (by omega)
theorem eqv_told (T T' : Told) : PyData.eqv (toldD T) (toldD T') = decide (T = T') := by
  cases T <;> cases T' <;> simp [toldD, PyData.eqv, PyData.eqvAll, s_dw, s_ds, s_ws, s_wd, s_sd, s_sw, nat_beq]
theorem lay_told (T : Told) : (toldD T).canLay0 = true ∧ (toldD T).depth = 1 := by
  cases T <;> simp [toldD, PyData.canLay0, PyData.canLayAll0, PyData.depth, PyData.depthAll, ok_d, ok_w, ok_s]
theorem lay_tolds : ∀ ts : List Told, PyData.canLayAll0 (ts.map toldD) = true ∧ PyData.depthAll (ts.map toldD) ≤ 1
  | [] => ⟨by simp [PyData.canLayAll0], by simp [PyData.depthAll]⟩
  | T :: r => by
    obtain ⟨h1, h2⟩ := lay_tolds r
    obtain ⟨h3, h4⟩ := lay_told T
    refine ⟨by simp [PyData.canLayAll0, h1, h3], ?_⟩
    simp only [List.map_cons, PyData.depthAll, h4]
    omega
theorem shaped_told (T : Told) : SeqAt.shaped (toldD T) = true := by
  cases T <;> exact shaped_tuple (by simp [PyData.canLayAll0, PyData.canLay0, ok_d, ok_w, ok_s]) (by simp [PyData.depthAll, PyData.depth])
theorem told_len {R B : Nat} {ds : List Door} (pok : PlanOk R B ds) : (toldL R B ds).length ≤ 66 := by
  have e1 := doors_len B ds 0
  have e2 : B * ds.length ≤ 6 * 5 := Nat.mul_le_mul pok.b2 pok.d2
  have e3 : R * B ≤ 6 * 6 := Nat.mul_le_mul pok.r2 pok.b2
  unfold toldL
  rw [List.length_append, rooms_len]
  omega
theorem first_told {R B : Nat} {ds : List Door} {r b : Nat} (hr : r < R) (hb : b < B) : ∃ j, (toldL R B ds)[j]? = some (lastT B r b) ∧ ∀ (m : Nat) (T : Told), m < j → (toldL R B ds)[m]? = some T → T ≠ lastT B r b := by
  obtain ⟨j, hj, e⟩ := List.mem_iff_getElem.mp (last_mem (ds := ds) hr hb)
  refine ⟨j, by rw [List.getElem?_eq_getElem hj, e], fun m T hm hT z => ?_⟩
  have nd := nodup_told R B ds
  have h1 : (toldL R B ds)[m]? = (toldL R B ds)[j]? := by rw [hT, z, List.getElem?_eq_getElem hj, e]
  have := (List.getElem?_inj (List.getElem?_eq_some_iff.mp hT).1 nd).mp h1
  omega
end K8

namespace K8
open PySem PySem.Spec PyProof.Rows L2

/-- the law's dict of who is there, before beat b, room r -/
def ThereAt (kvs : List (List Key × V)) (ds : List Door) (C : List (List Int)) (R b r : Nat) : Prop := kvs.length ≤ b * R + r ∧
  ∀ r' b' : Nat, r' < R → valV kvs [.inl (r' : Int), .inl (b' : Int)] = if b' = 0 then none else if b' - 1 < b ∨ (b' - 1 = b ∧ r' < r) then some (.int (there ds C r' (b' - 1))) else none
theorem ThereAt.start {ds : List Door} {C : List (List Int)} {R : Nat} : ThereAt [] ds C R 0 0 := ⟨Nat.zero_le _, fun r' b' h => by
  rw [valV_nil]
  by_cases e : b' = 0
  · rw [if_pos e]
  · rw [if_neg e, if_neg (by omega)]⟩
theorem ThereAt.next {kvs : List (List Key × V)} {ds : List Door} {C : List (List Int)} {R b : Nat} (h : ThereAt kvs ds C R b R) : ThereAt kvs ds C R (b + 1) 0 := ⟨by
  have := h.1
  rw [Nat.succ_mul]
  omega, fun r' b' h' => by
  rw [h.2 r' b' h']
  have e : (b' - 1 < b ∨ (b' - 1 = b ∧ r' < R)) ↔ (b' - 1 < b + 1 ∨ (b' - 1 = b + 1 ∧ r' < 0)) := by omega
  simp only [e]⟩
theorem ThereAt.put {kvs : List (List Key × V)} {ds : List Door} {C : List (List Int)} {R b r : Nat} (h : ThereAt kvs ds C R b r) (hr : r < R) : ThereAt (putK kvs [.inl (r : Int), .inl ((b : Int) + 1)] (.int (there ds C r b))) ds C R b (r + 1) := ⟨by
  have := h.1
  have := DSub.putK_len kvs [.inl (r : Int), .inl ((b : Int) + 1)] (.int (there ds C r b))
  omega, fun r' b' h' => by
  rw [valV_put, h.2 r' b' h']
  by_cases e : r' = r ∧ b' = b + 1
  · obtain ⟨rfl, rfl⟩ := e
    rw [if_pos (by simp), if_neg (by omega), if_pos (by omega)]
    rfl
  · have ne : ¬ ([.inl (r' : Int), .inl (b' : Int)] : List Key) = [.inl (r : Int), .inl ((b : Int) + 1)] := fun z => by
      injection z with z1 z2
      injection z2 with z2 _
      injection z1 with z1
      injection z2 with z2
      exact e ⟨by omega, by omega⟩
    rw [if_neg ne]
    by_cases e0 : b' = 0
    · rw [if_pos e0, if_pos e0]
    · rw [if_neg e0, if_neg e0]
      have e' : (b' - 1 < b ∨ (b' - 1 = b ∧ r' < r)) ↔ (b' - 1 < b ∨ (b' - 1 = b ∧ r' < r + 1)) := by omega
      simp only [e']⟩
section
variable {P : Program} {w : World} {K : PySem.W.Frag} {mg : Str → Option Value} {base : Heap}
/-! ## _law_tally_due -/
abbrev sDue0 : Stmt := topS 27
abbrev nDue0 : List Str := ["_law_plan_here", "_law_told", "_law_counts", "_law_tally", "_law_there", "_law_spot", "_law_own", "_law_beats_of", "_law_beat", "_law_room", "_law_here", "_law_other"]
abbrev pDue0 : List Str := ["_law_plan_here", "_law_told", "_law_counts"]
theorem scDue0 : FnScope nDue0 pDue0 (defScope sDue0) := ⟨rfl, rfl, rfl, by decide +kernel, rfl, by decide +kernel, by decide +kernel⟩
def spDue0 (K : PySem.W.Frag) : Sp := fun vs H Q _ => ∃ (pl tv cv : V) (R B : Nat) (ds : List Door) (C : List (List Int)), vs = [pl, tv, cv] ∧ Dq K H pl (planD R B ds) ∧ Dq K H tv (.list ((toldL R B ds).map toldD)) ∧ Dq K H cv (countsD C) ∧ Good B ds C ∧ PlanOk R B ds ∧
  (∀ r b, Lack R B ds C r b → ∀ H' v, Same H H' → Dq K H' v (.tuple [.str "lack", lackD r b]) → Q v H') ∧
  (NoLack R B ds C → ∀ H' v, Same H H' → Dq K H' v (.tuple [.str "told", .tuple ((tallyL R B ds C).map PyData.int)]) → Q v H')
theorem ok_due0 {f : Addr} {fd : FuncData} (F : Fun K "_law_tally_due" "_law_tally_due" sDue0 f fd) (C_moved : Has P w K mg base CX0 1 "_law_moved" pMoved (spMoved K))
    (m_range : mg "range" = none) (m_enumerate : mg "enumerate" = none) (m_len : mg "len" = none) (m_tuple : mg "tuple" = none) :
    FnOk P w K mg base CX0 2 f fd pDue0 (spDue0 K) := by
  refine F.ok scDue0 (fun vs H Q E h => ?_) (fun cdv A outer s H vs Q E hr h => ?_)
  · obtain ⟨pl, tv, cv, R, B, ds, C, rfl, _⟩ := h
    rfl
  · obtain ⟨pl, tv, cv, R, B, ds, C, rfl, hp, ht, hc, G, pok, qL, qN⟩ := h
    have nd := scDue0.nd
    have hu := hu_of hr
    have hu2 : (A.deeper (envOfC "_law_tally_due" (defScope sDue0) s.heap.objs.size f cdv)).units + 65 < cLine := by
      have := hr.un
      omega
    refine ⟨_, (pss_cons 
     (ps_par (i := 3) (j := 4) (by rfl) nd rfl rfl (by decide) rfl rfl (pa_cons (pe_op op_rep (pe_lst (pa_cons pe_int pa_nil)) (pe_callB call_len_seq (by rfl) m_len PySem.boot_len (pa_cons (pv 1) pa_nil))) (pa_cons pe_dnewT pa_nil)) (by rfl)) 
    (pss_cons 
     (ps_for PassesOwn.never rfl (pi_enum (by rfl) m_enumerate (pa_cons (pv 1) pa_nil)) (pg_tup rfl (pgs_cons (pg_name (i := 5) nd rfl (.inl rfl)) (pgs_cons (pg_name (i := 6) nd rfl (.inr rfl)) pgs_nil)))
       (pss_one 
        (ps_if (pt_cmpR op_eq (pe_ix ix_tup (pv 6) pe_int (fun _ _ => rfl)) pe_str (nomark _))
          (pss_cons 
           (ps_setLc (i := 7) (own := [("_law_other", 11)]) (g := gName 11) rfl nd rfl rfl (sw_true rfl rfl rfl (by decide +kernel)) (pi_list (pv 1)) (blkOk_by (N := nDue0) (sc := defScope sDue0) (by decide +kernel))
          (fun _ _ _ _ _ => pg_name (i := 11) nd rfl (.inl rfl) (.inr rfl))
          (fun _ _ _ _ _ => pts_one (PW.pt (pw_and (pt_cmpR op_eq (pe_ix (ix_tupK (K := K) rfl) (pv 11) pe_int (fun _ _ => rfl)) pe_str (nomark _)) (pw_and1 (pt_cmpR op_eq (pe_ix (ix_tupK (K := K) rfl) (pv 11) pe_int (fun _ _ => rfl)) (pe_ix (ix_tupK (K := K) rfl) (pv 6) pe_int (fun _ _ => rfl)) (nomark _))))))
          (fun _ _ _ _ _ => pe_ix (ix_tupK (K := K) rfl) (pv 11) pe_int (fun _ _ => rfl))) 
          (pss_one 
           (ps_asg (pe_ix ix_tup (pe_ix ix_tup (pv 2) (pe_ix ix_tup (pv 6) pe_int (fun _ _ => rfl)) (fun _ _ => rfl)) (pe_bm PySem.F.plainAttrs_list PySem.F.slot_list_index PySem.F.type_list_index mt_index (pv 7) (pa_cons (pe_ix ix_tup (pv 6) pe_int (fun _ _ => rfl)) pa_nil)) (fun _ _ => rfl)) (pg_sub (pv 3) (pv 5) set_list)))) pss_nil))) 
    (pss_cons 
     (ps_for PassesOwn.never rfl (pi_range1 (by rfl) m_range (pa_cons (pe_ix ix_tup (pv 0) pe_int (fun _ _ => rfl)) pa_nil)) (pg_name (i := 8) nd rfl (.inl rfl))
       (pss_one 
        (ps_for PassesOwn.never rfl (pi_range1 (by rfl) m_range (pa_cons (pe_ix ix_tup (pv 0) pe_int (fun _ _ => rfl)) pa_nil)) (pg_name (i := 9) nd rfl (.inl rfl))
          (pss_cons 
           (ps_set (i := 10) nd rfl (.inl rfl) (pe_dget2 hu (pv 4) (pe_tup (pa_cons (pv 9) (pa_cons (pv 8) pa_nil))) pe_int ⟨rfl, rfl, rfl, rfl⟩)) 
          (pss_cons 
           (ps_for PassesOwn.never rfl (pi_enum (by rfl) m_enumerate (pa_cons (pv 1) pa_nil)) (pg_tup rfl (pgs_cons (pg_name (i := 5) nd rfl (.inl rfl)) (pgs_cons (pg_name (i := 6) nd rfl (.inr rfl)) pgs_nil)))
             (pss_one 
              (ps_if (pt_cmpR op_eq (pe_ix ix_tup (pv 6) pe_int (fun _ _ => rfl)) pe_str (nomark _))
                (pss_one 
                 (ps_set (i := 10) nd rfl (.inl rfl) (pe_op op_add (pv 10) (pe_fn C_moved (hr.mono (by decide)) (by rfl) (pa_cons (pv 0) (pa_cons (pv 6) (pa_cons (pe_ix ix_list (pv 3) (pv 5) (fun _ _ => rfl)) (pa_cons (pv 9) (pa_cons (pv 8) pa_nil))))))))) pss_nil))) 
          (pss_cons 
           (ps_if (pt_cmpR op_lt (pv 10) pe_int (nomark _))
             (pss_one 
              (ps_ret (pe_tup (pa_cons pe_str (pa_cons (pe_tup (pa_cons pe_str (pa_cons (pv 9) (pa_cons (pv 8) pa_nil)))) pa_nil))))) pss_nil) 
          (pss_cons 
           (ps_asg (pv 10) (pg_sub (pv 3) (pe_bm PySem.F.plainAttrs_list PySem.F.slot_list_index PySem.F.type_list_index (mt_indexD hu2) (pv 1) (pa_cons (pe_tup (pa_cons (pe_ifExp (pt_cmpR op_eq (pv 8) (pe_op op_sub (pe_ix ix_tup (pv 0) pe_int (fun _ _ => rfl)) pe_int) (nomark _)) pe_str pe_str) (pa_cons (pv 9) (pa_cons (pv 8) pa_nil)))) pa_nil)) set_list)) 
          (pss_one 
           (ps_dput hu (pv 4) (pe_tup (pa_cons (pv 9) (pa_cons (pe_op op_add (pv 8) pe_int) pa_nil))) (pv 10) rfl))))))))) 
    (pss_one 
     (ps_ret (pe_tup (pa_cons pe_str (pa_cons (pe_callTy call_tuple_of (by rfl) m_tuple (by decide +kernel) (pa_cons (pv 3) pa_nil)) pa_nil)))))))), ?_⟩
    obtain ⟨p1, p2, xs, rfl, h1, h2, hx⟩ := plan_inv hp
    obtain ⟨tp, tvs, rfl, htp, htv⟩ := Dq.lstI ht
    obtain ⟨p3, ys, rfl, h3, hy⟩ := counts_inv hc
    have lt : tvs.length = (toldL R B ds).length := by
      rw [htv.len, List.length_map]
    have l66 := told_len pok
    obtain ⟨r1, r2, b1, b2, d1, d2, okd⟩ := id pok
    have ixn : ∀ (f : Told → Int) (g : Told → Int) (i k : Nat), k < (toldL R B ds).length → ixN ((mid f g i (toldL R B ds)).map V.int).length (k : Int) = some k := fun f g i k h => by
      rw [List.length_map, mid_len]
      unfold ixN
      rw [if_pos (by omega), if_pos (by omega)]
      rfl
    refine ⟨by decide, fun z nz => ?_⟩
    have S1 : Same H (upd H z (.lst [.int 0])) := same_new nz
    refine ⟨_, rfl, tp, _, rfl, .inl (S1.seq htp), z, _, _, rfl, rfl, upd_same, by omega, by omega, ?_, fun Y nY Dt nD => ⟨_, _, rfl, ?_⟩⟩
    · have e : [V.int 0].length * (Int.toNat (tvs.length : Nat)) ≤ 1000 := by
        show 1 * _ ≤ 1000
        omega
      exact Nat.le_of_lt (small1000 e)
    have S2 := same_next S1 nY (o := .lst (List.replicate (Int.toNat (tvs.length : Nat)) [V.int 0]).flatten)
    have S3 := same_next S2 nD (o := .dT [])
    have nYH : H Y = none := by
      cases e : H Y with
      | none => rfl
      | some o =>
        have := S1 _ _ e
        rw [nY] at this
        cases this
    have nDH : H Dt = none := by
      cases e : H Dt with
      | none => rfl
      | some o =>
        have := S2 _ _ e
        rw [nD] at this
        cases this
    have YD : Y ≠ Dt := fun e => by
      rw [← e, upd_same] at nD
      cases nD
    have eY : (List.replicate (Int.toNat (tvs.length : Nat)) [V.int 0]).flatten = (mid (cnt C) (fun _ => 0) 0 (toldL R B ds)).map V.int := by
      rw [List.flatten_replicate_singleton, mid_zero, List.map_const', Int.toNat_natCast, lt, List.map_replicate]
    refine ⟨_, rfl, tp, _, rfl, S3.seq htp, ?_⟩
    refine for_it (walk_enum (xs := tvs)) (fun i σ H' => ∃ y5 y6 y7, σ = [some (.ref p1), some (.ref tp), some (.ref p3), some (.ref Y), some (.ref Dt), y5, y6, y7, none, none, none, none] ∧ Same H H' ∧
        H' Y = some (.lst ((mid (cnt C) (fun _ => 0) i (toldL R B ds)).map V.int)) ∧ H' Dt = some (.dT []))
      ⟨_, _, _, rfl, S3, by rw [upd_ne YD, upd_same, eY], upd_same⟩ (fun i σ H' _ hP => ?_) ?_ ?_
    · obtain ⟨_, _, _, _, hS, _⟩ := hP
      exact hS.seq htp
    · rintro i0 v σ H4 H5 hi ⟨y5, y6, y7, rfl, hS, hY, hD⟩ ⟨T2, x, y, rfl, nT, rfl, ex, ey⟩
      obtain rfl := Option.some.inj ex
      obtain ⟨T, eT, hT⟩ := htv.atM ey
      obtain ⟨op, rfl, hop⟩ := told_inv hT
      have S4 := same_next hS nT (o := .tup [.int (i0 : Nat), .ref op])
      have hY4 := same_new (o := .tup [.int (i0 : Nat), .ref op]) nT _ _ hY
      have hD4 := same_new (o := .tup [.int (i0 : Nat), .ref op]) nT _ _ hD
      have hop4 := seqT_same S4 hop
      refine ⟨T2, _, rfl, .inl (.inl upd_same), rfl, _, _, rfl, _, _, rfl, rfl, ?_⟩
      cases T with
      | wait r b =>
        refine ⟨_, rfl, op, _, 0, .str "wait", rfl, rfl, hop4, atI_nat (j := 0) rfl, rfl, _, rfl, ite2 (fun e => absurd e (by decide +kernel)) (fun _ => ?_)⟩
        exact ⟨_, _, _, rfl, S4, by rw [← mid_keep (f := cnt C) (g := fun _ => 0) eT rfl]; exact hY4, hD4⟩
      | stay r b =>
        refine ⟨_, rfl, op, _, 0, .str "stay", rfl, rfl, hop4, atI_nat (j := 0) rfl, rfl, _, rfl, ite2 (fun e => absurd e (by decide +kernel)) (fun _ => ?_)⟩
        exact ⟨_, _, _, rfl, S4, by rw [← mid_keep (f := cnt C) (g := fun _ => 0) eT rfl]; exact hY4, hD4⟩
      | door n b =>
        obtain ⟨dr, edr, hb⟩ := door_told (List.mem_of_getElem? eT)
        refine ⟨_, rfl, op, _, 0, .str "door", rfl, rfl, hop4, atI_nat (j := 0) rfl, rfl, _, rfl, ite2 (fun _ => ?_) (fun e => absurd (decide_eq_true rfl) e)⟩
        refine ⟨_, rfl, tp, rfl, ⟨_, S4.seq htp⟩, fun D nD4 => ?_⟩
        have hn : n < ds.length := (List.getElem?_eq_some_iff.mp edr).1
        have hnC : n < C.length := by
          rw [G.len]
          exact hn
        have eC : C[n]? = some C[n] := List.getElem?_eq_getElem hnC
        have lC := (G.row n _ dr eC edr).1
        refine lc_it (walk_list (xs := tvs)) (fun i H' => Same (upd H4 T2 (.tup [.int (i0 : Nat), .ref op])) H' ∧ H' D = some (.lst ((((toldL R B ds).take i).filterMap (atDoor n)).map fun b => V.int (b : Nat))))
          ⟨same_new nD4, by rw [upd_same]; rfl⟩ (fun i H' _ hP => (S4.trans hP.1).seq htp) ?_ ?_
        · rintro i1 x1 H6 H7 hi1 ⟨hS6, hL6⟩ ⟨rfl, hx1⟩
          obtain ⟨T1, eT1, hT1⟩ := htv.atM hx1
          obtain ⟨op1, rfl, hop1⟩ := told_inv hT1
          have S7 := S4.trans hS6
          have hop7 := seqT_same S7 hop1
          have sz : ((((toldL R B ds).take i1).filterMap (atDoor n)).map fun b => V.int (b : Nat)).length ≤ 1000 := by
            rw [List.length_map]
            refine Nat.le_trans (List.length_filterMap_le _ _) ?_
            rw [List.length_take]
            omega
          have et : ((toldL R B ds).take (i1 + 1)).filterMap (atDoor n) = ((toldL R B ds).take i1).filterMap (atDoor n) ++ (atDoor n T1).toList := by
            rw [take_succ eT1, List.filterMap_append]
            congr 1
          refine ⟨rfl, ?_⟩
          cases T1 with
          | wait r1' b1' =>
            refine ⟨_, rfl, op1, _, 0, .str "wait", rfl, rfl, hop7, atI_nat (j := 0) rfl, rfl, _, rfl, ite2 (fun e => absurd e (by decide +kernel)) (fun _ => iteF ⟨hS6, ?_⟩)⟩
            rw [et]
            simpa [atDoor] using hL6
          | stay r1' b1' =>
            refine ⟨_, rfl, op1, _, 0, .str "stay", rfl, rfl, hop7, atI_nat (j := 0) rfl, rfl, _, rfl, ite2 (fun e => absurd e (by decide +kernel)) (fun _ => iteF ⟨hS6, ?_⟩)⟩
            rw [et]
            simpa [atDoor] using hL6
          | door n1 b1' =>
            refine ⟨_, rfl, op1, _, 0, .str "door", rfl, rfl, hop7, atI_nat (j := 0) rfl, rfl, _, rfl, ite2 (fun _ => ?_) (fun e => absurd (decide_eq_true rfl) e)⟩
            refine ⟨_, rfl, op1, _, 1, .int n1, rfl, rfl, hop7, atI_nat (j := 1) rfl, _, rfl, op, _, 1, .int n, rfl, rfl, seqT_same S7 hop, atI_nat (j := 1) rfl, rfl, _, rfl, ite2 (fun e => ?_) (fun e => ?_)⟩
            · have en : n1 = n := by
                have := V.int.inj (of_decide_eq_true e)
                omega
              refine ⟨_, rfl, op1, _, 2, .int b1', rfl, rfl, hop7, atI_nat (j := 2) rfl, _, hL6, small1000 sz, same_put hS6 nD4, ?_⟩
              rw [upd_same, et]
              simp [atDoor, en]
            · have en : ¬ n1 = n := fun y => e (decide_eq_true (by rw [y]))
              refine ⟨hS6, ?_⟩
              rw [et]
              simpa [atDoor, en] using hL6
        · rintro H6 ⟨hS6, hL6⟩
          rw [List.take_of_length_le (by omega), at_told edr] at hL6
          have S7 := S4.trans hS6
          have hop7 := seqT_same S7 hop
          obtain ⟨rv, erv, hrv⟩ := hy.at (i := n) (d := rowD C[n]) (by rw [List.getElem?_map, eC]; rfl)
          obtain ⟨rp, rfl, hrp⟩ := row_inv (hrv.to S7)
          have hY6 := hS6 _ _ hY4
          have eb : ((List.range (nb B dr)).map fun b => V.int (b : Nat))[b]? = some (.int b) := by
            rw [List.getElem?_map, List.getElem?_range hb]
            rfl
          refine ⟨_, rfl, _, rfl, op, _, 1, .int n, rfl, rfl, hop7, atI_nat (j := 1) rfl, p3, _, _, _, rfl, rfl, seqT_same S7 h3, atI_nat erv, ?_⟩
          refine ⟨_, rfl, .inl ⟨rfl, _, .inl (.inl hL6)⟩, _, rfl, op, _, 2, .int b, rfl, rfl, hop7, atI_nat (j := 2) rfl, D, _, .int b, b, .int b, rfl, rfl, .inl (.inl hL6), rfl, ?_, eb, by simp [eqV], fun m z' hm hz' => ?_, ?_⟩
          · rw [List.all_map, List.all_eq_true]
            exact fun _ _ => rfl
          · rw [List.getElem?_map, List.getElem?_range (by omega)] at hz'
            obtain rfl := Option.some.inj hz'
            show ((m : Int) == (b : Int)) = false
            rw [nat_beq]
            exact decide_eq_false (by omega)
          · have ev : (C[n]).getD b 0 = cnt C (.door n b) := by
              show _ = (C.getD n []).getD b 0
              rw [List.getD_eq_getElem?_getD (l := C), eC]
              rfl
            refine ⟨rp, _, _, .int ((C[n]).getD b 0), rfl, rfl, hrp, atI_nat (ints_at (by omega)), ?_⟩
            refine ⟨_, rfl, _, rfl, Y, _, _, i0, rfl, rfl, hY6, ixn _ _ _ _ (by omega), ?_⟩
            refine ⟨_, _, _, rfl, same_put S7 nYH, ?_, (upd_ne YD.symm).trans (hS6 _ _ hD4)⟩
            rw [upd_same, set_ints, ev, mid_set eT]
    · rintro σ H4 ⟨y5, y6, y7, rfl, hS, hY, hD⟩
      rw [lt, mid_all, val_first] at hY
      refine ⟨_, rfl, p1, _, 1, .int B, rfl, rfl, seqT_same hS h1, atI_nat (j := 1) rfl, (B : Int), rfl, by omega, by omega, ?_⟩
      refine for_it walk_range0 (fun b σ H' => ∃ y5 y6 y7 y8 y9 y10, σ = [some (.ref p1), some (.ref tp), some (.ref p3), some (.ref Y), some (.ref Dt), y5, y6, y7, y8, y9, y10, none] ∧ Same H H' ∧
          H' Y = some (.lst (((toldL R B ds).map (val ds C 0 b)).map V.int)) ∧ (∃ kvs, H' Dt = some (.dT kvs) ∧ ThereAt kvs ds C R b 0) ∧ ∀ r' b', r' < R → b' < b → 0 ≤ there ds C r' b')
        ⟨_, _, _, _, _, _, rfl, hS, hY, ⟨_, hD, ThereAt.start⟩, fun _ _ _ z => nomatch z⟩ (fun _ _ _ _ _ => trivial) ?_ ?_
      · rintro b v σ H5 H6 hb ⟨y5, y6, y7, y8, y9, y10, rfl, hS, hY, ⟨kvs, hD, th⟩, pos⟩ ⟨rfl, rfl⟩
        have hb' : b < B := by omega
        refine ⟨_, rfl, p1, _, 0, .int R, rfl, rfl, seqT_same hS h1, atI_nat (j := 0) rfl, (R : Int), rfl, by omega, by omega, ?_⟩
        refine for_it walk_range0 (fun r σ H' => ∃ y5 y6 y7 y9 y10, σ = [some (.ref p1), some (.ref tp), some (.ref p3), some (.ref Y), some (.ref Dt), y5, y6, y7, some (.int b), y9, y10, none] ∧ Same H H' ∧
            H' Y = some (.lst (((toldL R B ds).map (val ds C r b)).map V.int)) ∧ (∃ kvs, H' Dt = some (.dT kvs) ∧ ThereAt kvs ds C R b r) ∧ ∀ r' b', r' < R → (b' < b ∨ (b' = b ∧ r' < r)) → 0 ≤ there ds C r' b')
          ⟨_, _, _, _, _, rfl, hS, hY, ⟨kvs, hD, th⟩, fun r' b' a z => pos r' b' a (by omega)⟩ (fun _ _ _ _ _ => trivial) ?_ ?_
        · rintro r v σ H5 H6 hr0 ⟨y5, y6, y7, y9, y10, rfl, hS, hY, ⟨kvs, hD, th⟩, pos⟩ ⟨rfl, rfl⟩
          have hr' : r < R := by omega
          refine ⟨_, rfl, Dt, rfl, .inr ⟨kvs, .inl hD⟩, _, rfl, _, rfl, (by show 2 ≤ sizeLine; decide), fun kg nkg => ?_⟩
          have Sg := same_new (o := .tup [.int r, .int b]) nkg
          refine ⟨_, DGet.t (k := [.inl (r : Int), .inl (b : Int)]) (Sg _ _ hD) upd_same, ?_⟩
          have eh : (valV kvs [.inl (r : Int), .inl (b : Int)]).getD (.int 0) = .int (if b = 0 then 0 else there ds C r (b - 1)) := by
            rw [th.2 r b hr']
            by_cases e : b = 0
            · rw [if_pos e, if_pos e]
              rfl
            · rw [if_neg e, if_neg e, if_pos (.inl (by omega))]
              rfl
          have S6 := hS.trans Sg
          have hY6 := Sg _ _ hY
          have hD6 := Sg _ _ hD
          refine ⟨_, rfl, tp, _, rfl, S6.seq htp, ?_⟩
          refine for_it (walk_enum (xs := tvs)) (fun i σ H' => ∃ y5 y6, σ = [some (.ref p1), some (.ref tp), some (.ref p3), some (.ref Y), some (.ref Dt), y5, y6, y7, some (.int b), some (.int r),
              some (.int ((if b = 0 then 0 else there ds C r (b - 1)) + (((toldL R B ds).map fun t => mv ds r b t (val ds C r b t)).take i).sum)), none] ∧ Same H H' ∧ H' Y = some (.lst (((toldL R B ds).map (val ds C r b)).map V.int)) ∧ H' Dt = some (.dT kvs))
            ⟨y5, y6, ?_, S6, hY6, hD6⟩ (fun i σ H' _ hP => ?_) ?_ ?_
          · rw [List.take_zero, List.sum_nil, Int.add_zero]
            exact congrArg (fun hh => [some (V.ref p1), some (.ref tp), some (.ref p3), some (.ref Y), some (.ref Dt), y5, y6, y7, some (.int b), some (.int r), some hh, none]) eh
          · obtain ⟨_, _, _, hS, _⟩ := hP
            exact hS.seq htp
          · rintro i v σ H7 H8 hi ⟨y5, y6, rfl, hS7, hY7, hD7⟩ ⟨T2, x, y, rfl, nT, rfl, ex, ey⟩
            obtain rfl := Option.some.inj ex
            obtain ⟨T, eT, hT⟩ := htv.atM ey
            obtain ⟨op, rfl, hop⟩ := told_inv hT
            have S8 := same_next hS7 nT (o := .tup [.int (i : Nat), .ref op])
            have hY8 := same_new (o := .tup [.int (i : Nat), .ref op]) nT _ _ hY7
            have hD8 := same_new (o := .tup [.int (i : Nat), .ref op]) nT _ _ hD7
            have hop8 := seqT_same S8 hop
            have st := L2.sum_take (l := (toldL R B ds).map fun t => mv ds r b t (val ds C r b t)) (i := i) (z := mv ds r b T (val ds C r b T)) (by rw [List.getElem?_map, eT]; rfl)
            refine ⟨T2, _, rfl, .inl (.inl upd_same), rfl, _, _, rfl, _, _, rfl, rfl, ?_⟩
            cases T with
            | wait r1 b1' =>
              refine ⟨_, rfl, op, _, 0, .str "wait", rfl, rfl, hop8, atI_nat (j := 0) rfl, rfl, _, rfl, ite2 (fun e => absurd e (by decide +kernel)) (fun _ => ?_)⟩
              exact ⟨_, _, by rw [st]; show _ = [_, _, _, _, _, _, _, _, _, _, some (V.int (_ + (_ + 0))), _]; rw [Int.add_zero]; rfl, S8, hY8, hD8⟩
            | stay r1 b1' =>
              refine ⟨_, rfl, op, _, 0, .str "stay", rfl, rfl, hop8, atI_nat (j := 0) rfl, rfl, _, rfl, ite2 (fun e => absurd e (by decide +kernel)) (fun _ => ?_)⟩
              exact ⟨_, _, by rw [st]; show _ = [_, _, _, _, _, _, _, _, _, _, some (V.int (_ + (_ + 0))), _]; rw [Int.add_zero]; rfl, S8, hY8, hD8⟩
            | door n b1' =>
              obtain ⟨dr, edr, hb1⟩ := door_told (List.mem_of_getElem? eT)
              have hn : n < ds.length := (List.getElem?_eq_some_iff.mp edr).1
              refine ⟨_, rfl, op, _, 0, .str "door", rfl, rfl, hop8, atI_nat (j := 0) rfl, rfl, _, rfl, ite2 (fun _ => ?_) (fun e => absurd (decide_eq_true rfl) e)⟩
              have ev : (((toldL R B ds).map (val ds C r b)).map V.int)[i]? = some (.int (val ds C r b (.door n b1'))) := by
                rw [List.getElem?_map, List.getElem?_map, eT]
                rfl
              refine ⟨_, rfl, _, rfl, _, rfl, _, rfl, _, rfl, Y, _, _, _, rfl, rfl, .inl (.inl hY8), atI_nat ev, _, rfl, _, rfl, .ref p1, .ref op, R, B, ds, n, b1', r, b, _, rfl, hp.to S8, hT.to S8, hn, ?_⟩
              refine ⟨_, _, rfl, rfl, ?_⟩
              exact ⟨_, _, by rw [st, ← Int.add_assoc]; rfl, S8, hY8, hD8⟩
          · rintro σ H8 ⟨y5, y6, rfl, S8, hY8, hD8⟩
            have et : (if b = 0 then 0 else there ds C r (b - 1)) + (((toldL R B ds).map fun t => mv ds r b t (val ds C r b t)).take tvs.length).sum = there ds C r b := by
              rw [List.take_of_length_le (by rw [List.length_map]; omega), law_sum G okd (val ds C r b) (fun _ _ => rfl) r b hb' hr', there_eq ds C r b]
            rw [et]
            refine ⟨_, rfl, _, _, rfl, rfl, _, rfl, ite2 (fun e => ?_) (fun e => ?_)⟩
            · have neg : there ds C r b < 0 := of_decide_eq_true e
              refine ⟨_, rfl, _, rfl, (by show 3 ≤ sizeLine; decide), fun t nt => ⟨(by show 2 ≤ sizeLine; decide), fun u nu => ?_⟩⟩
              exact qL r b ⟨hr', hb', neg, pos⟩ _ _ (same_next (same_next S8 nt) nu) (.newT (.cons (.str _) (.cons (.newT (.cons (.str _) (.cons (.int _) (.cons (.int _) .nil))) nt) .nil)) nu)
            · have pos' : 0 ≤ there ds C r b := by
                have := mt decide_eq_true e
                omega
              obtain ⟨j, ej, fj⟩ := first_told (ds := ds) hr' hb'
              have hj := (List.getElem?_eq_some_iff.mp ej).1
              refine ⟨_, rfl, _, rfl, _, rfl, .inl ⟨rfl, _, S8.seq htp⟩, _, rfl, _, rfl, p1, _, 1, .int B, rfl, rfl, seqT_same S8 h1, atI_nat (j := 1) rfl, _, _, rfl, rfl, rfl, _, rfl, ite2 (fun e1 => ?_) (fun e1 => ?_)⟩
              · have o1 : (b : Int) = (B : Int) - 1 := V.int.inj (of_decide_eq_true e1)
                refine ⟨_, rfl, _, rfl, (by show 3 ≤ sizeLine; decide), fun kt nkt => ?_⟩
                have S9 := same_new (o := .tup [.str "stay", .int r, .int b]) nkt
                have ek : Dq K (upd H8 kt (.tup [.str "stay", .int r, .int b])) (.ref kt) (toldD (lastT B r b)) := by
                  unfold lastT
                  rw [if_pos (by omega)]
                  exact told_dq (.inl (.inl upd_same))
                refine ⟨tp, .ref kt, toldD (lastT B r b), (toldL R B ds).map toldD, j, toldD (lastT B r b), rfl, rfl, Dq.dp _ _ (SeqAt.canLay_of_shaped (shaped_list (lay_tolds _).1 (Nat.le_trans (lay_tolds _).2 (by decide)))) (.lst ((S8.trans S9).seq htp) (htv.to (S8.trans S9))), Dq.dp _ _ (lay_told _).1 ek,
                  shaped_list (lay_tolds _).1 (Nat.le_trans (lay_tolds _).2 (by decide)), shaped_told _, by rw [List.getElem?_map, ej]; rfl, by rw [eqv_told]; exact decide_eq_true rfl, fun m z' hm hz' => ?_, ?_⟩
                · rw [List.getElem?_map] at hz'
                  cases em : (toldL R B ds)[m]? with
                  | none => rw [em] at hz'; cases hz'
                  | some T' =>
                    rw [em] at hz'
                    obtain rfl := Option.some.inj hz'
                    rw [eqv_told]
                    exact decide_eq_false (fj m T' hm em)
                · have hY9 := S9 _ _ hY8
                  have hD9 := S9 _ _ hD8
                  refine ⟨Y, _, _, j, rfl, rfl, hY9, ?_, ?_⟩
                  · rw [List.length_map, List.length_map]
                    unfold ixN
                    rw [if_pos (by omega), if_pos (by omega)]
                    rfl
                  · rw [set_ints, val_set ej]
                    refine ⟨_, rfl, _, rfl, _, rfl, _, rfl, _, _, rfl, rfl, (by show 2 ≤ sizeLine; decide), fun k2 nk2 => ?_⟩
                    have hD10 : (upd (upd (upd H8 kt (.tup [.str "stay", .int r, .int b])) Y (.lst (((toldL R B ds).map (val ds C (r + 1) b)).map V.int))) k2 (.tup [.int r, .int ((b : Int) + 1)])) Dt = some (.dT kvs) := by
                      rw [upd_ne (ne_of_none ((upd_ne YD.symm).trans hD9) nk2), upd_ne YD.symm]
                      exact hD9
                    have hY10 : (upd (upd (upd H8 kt (.tup [.str "stay", .int r, .int b])) Y (.lst (((toldL R B ds).map (val ds C (r + 1) b)).map V.int))) k2 (.tup [.int r, .int ((b : Int) + 1)])) Y = some (.lst (((toldL R B ds).map (val ds C (r + 1) b)).map V.int)) := by
                      rw [upd_ne (ne_of_none upd_same nk2), upd_same]
                    refine ⟨Dt, _, rfl, DPut.t (k := [.inl (r : Int), .inl ((b : Int) + 1)]) hD10 upd_same (small1000 (by have := th.1; have := Nat.mul_le_mul (show b ≤ 6 by omega) r2; omega)), ?_⟩
                    refine ⟨_, _, _, _, _, rfl, same_put (same_next (same_put (S8.trans S9) nYH) nk2) nDH, by rw [upd_ne YD]; exact hY10, ⟨_, upd_same, th.put hr'⟩, fun r' b' a1 a2 => ?_⟩
                    by_cases e : b' = b ∧ r' = r
                    · rw [e.1, e.2]
                      exact pos'
                    · exact pos r' b' a1 (by omega)
              · have o1 : ¬ (b : Int) = (B : Int) - 1 := fun z => e1 (decide_eq_true (congrArg V.int z))
                refine ⟨_, rfl, _, rfl, (by show 3 ≤ sizeLine; decide), fun kt nkt => ?_⟩
                have S9 := same_new (o := .tup [.str "wait", .int r, .int b]) nkt
                have ek : Dq K (upd H8 kt (.tup [.str "wait", .int r, .int b])) (.ref kt) (toldD (lastT B r b)) := by
                  unfold lastT
                  rw [if_neg (by omega)]
                  exact told_dq (.inl (.inl upd_same))
                refine ⟨tp, .ref kt, toldD (lastT B r b), (toldL R B ds).map toldD, j, toldD (lastT B r b), rfl, rfl, Dq.dp _ _ (SeqAt.canLay_of_shaped (shaped_list (lay_tolds _).1 (Nat.le_trans (lay_tolds _).2 (by decide)))) (.lst ((S8.trans S9).seq htp) (htv.to (S8.trans S9))), Dq.dp _ _ (lay_told _).1 ek,
                  shaped_list (lay_tolds _).1 (Nat.le_trans (lay_tolds _).2 (by decide)), shaped_told _, by rw [List.getElem?_map, ej]; rfl, by rw [eqv_told]; exact decide_eq_true rfl, fun m z' hm hz' => ?_, ?_⟩
                · rw [List.getElem?_map] at hz'
                  cases em : (toldL R B ds)[m]? with
                  | none => rw [em] at hz'; cases hz'
                  | some T' =>
                    rw [em] at hz'
                    obtain rfl := Option.some.inj hz'
                    rw [eqv_told]
                    exact decide_eq_false (fj m T' hm em)
                · have hY9 := S9 _ _ hY8
                  have hD9 := S9 _ _ hD8
                  refine ⟨Y, _, _, j, rfl, rfl, hY9, ?_, ?_⟩
                  · rw [List.length_map, List.length_map]
                    unfold ixN
                    rw [if_pos (by omega), if_pos (by omega)]
                    rfl
                  · rw [set_ints, val_set ej]
                    refine ⟨_, rfl, _, rfl, _, rfl, _, rfl, _, _, rfl, rfl, (by show 2 ≤ sizeLine; decide), fun k2 nk2 => ?_⟩
                    have hD10 : (upd (upd (upd H8 kt (.tup [.str "wait", .int r, .int b])) Y (.lst (((toldL R B ds).map (val ds C (r + 1) b)).map V.int))) k2 (.tup [.int r, .int ((b : Int) + 1)])) Dt = some (.dT kvs) := by
                      rw [upd_ne (ne_of_none ((upd_ne YD.symm).trans hD9) nk2), upd_ne YD.symm]
                      exact hD9
                    have hY10 : (upd (upd (upd H8 kt (.tup [.str "wait", .int r, .int b])) Y (.lst (((toldL R B ds).map (val ds C (r + 1) b)).map V.int))) k2 (.tup [.int r, .int ((b : Int) + 1)])) Y = some (.lst (((toldL R B ds).map (val ds C (r + 1) b)).map V.int)) := by
                      rw [upd_ne (ne_of_none upd_same nk2), upd_same]
                    refine ⟨Dt, _, rfl, DPut.t (k := [.inl (r : Int), .inl ((b : Int) + 1)]) hD10 upd_same (small1000 (by have := th.1; have := Nat.mul_le_mul (show b ≤ 6 by omega) r2; omega)), ?_⟩
                    refine ⟨_, _, _, _, _, rfl, same_put (same_next (same_put (S8.trans S9) nYH) nk2) nDH, by rw [upd_ne YD]; exact hY10, ⟨_, upd_same, th.put hr'⟩, fun r' b' a1 a2 => ?_⟩
                    by_cases e : b' = b ∧ r' = r
                    · rw [e.1, e.2]
                      exact pos'
                    · exact pos r' b' a1 (by omega)
        · rintro σ H5 ⟨y5, y6, y7, y9, y10, rfl, hS, hY, ⟨kvs, hD, th⟩, pos⟩
          have eR : Int.toNat (R : Int) = R := Int.toNat_natCast R
          rw [eR] at hY th pos
          rw [val_next] at hY
          exact ⟨_, _, _, _, _, _, rfl, hS, hY, ⟨kvs, hD, th.next⟩, fun r' b' a z => pos r' b' a (by omega)⟩
      · rintro σ H5 ⟨y5, y6, y7, y8, y9, y10, rfl, hS, hY, _, pos⟩
        have eB : Int.toNat (B : Int) = B := Int.toNat_natCast B
        rw [eB] at hY pos
        rw [val_last G] at hY
        refine ⟨_, rfl, Y, _, rfl, .inl ⟨.inl (.inl hY), fun u nu => ⟨(by show 2 ≤ sizeLine; decide), fun v nv => ?_⟩⟩⟩
        exact qN (fun r b a z => pos r b a z) _ _ (same_next (same_next hS nu) nv) (.newT (.cons (.str _) (.cons (.newT (dq_ints _) nu) .nil)) nv)
end
end K8

namespace K8
open PySem PySem.Spec PyProof.Rows L2

section
variable {P : Program} {w : World} {K : PySem.W.Frag} {mg : Str → Option Value} {base : Heap}
/-! ## _law_due -/
abbrev sDue : Stmt := topS 30
abbrev nDue : List Str := ["_law_plan_here", "_law_told", "_law_value", "_law_door", "_law_item", "_law_many", "_law_word", "_law_tally", "_law_own", "_law_count"]
abbrev pDue : List Str := ["_law_plan_here", "_law_told", "_law_value"]
theorem scDue : FnScope nDue pDue (defScope sDue) := ⟨rfl, rfl, rfl, by decide +kernel, rfl, by decide +kernel, by decide +kernel⟩
/-- what is due: the fault, the tally -/
inductive DueIs (R B : Nat) (ds : List Door) (d : PyData) : PyData → PyData → Prop
  | fault {f : PyData} (F : Fault R B ds d f) (ne : f ≠ .none) : DueIs R B ds d f .none
  | none {C : List (List Int)} (e : d = countsD C) (G : Good B ds C) (N : NoLack R B ds C) : DueIs R B ds d .none (.tuple ((tallyL R B ds C).map PyData.int))
def spDue (K : PySem.W.Frag) : Sp := fun vs H Q _ => ∃ (pl tv v : V) (R B : Nat) (ds : List Door) (d : PyData), vs = [pl, tv, v] ∧ Dq K H pl (planD R B ds) ∧ Dq K H tv (.list ((toldL R B ds).map toldD)) ∧ Dq K H v d ∧ nodes d ≤ 1000 ∧ PlanOk R B ds ∧
  ∀ f t H' u, DueIs R B ds d f t → Same H H' → Dq K H' u (.tuple [f, t]) → Q u H'
theorem ok_due {f : Addr} {fd : FuncData} (F : Fun K "_law_due" "_law_due" sDue f fd) (C_is_count : Has P w K mg base CX0 1 "_law_is_count" ["_law_value"] (spIsCount K)) (C_tally_due : Has P w K mg base CX0 2 "_law_tally_due" pDue0 (spDue0 K))
    (m_enumerate : mg "enumerate" = none) (m_len : mg "len" = none) (m_tuple : mg "tuple" = none) (m_isinstance : mg "isinstance" = none) (m_all : mg "all" = none) :
    FnOk P w K mg base CX0 3 f fd pDue (spDue K) := by
  refine F.ok scDue (fun vs H Q E h => ?_) (fun cdv A outer s H vs Q E hr h => ?_)
  · obtain ⟨pl, tv, v, R, B, ds, d, rfl, _⟩ := h
    rfl
  · obtain ⟨pl, tv, v, R, B, ds, d, rfl, hp, ht, hd, hz, pok, q⟩ := h
    have qF : ∀ f H' u, Fault R B ds d f → f ≠ .none → Same H H' → Dq K H' u (.tuple [f, .none]) → Q u H' := fun f H' u Ff ne S hu => q _ _ _ _ (.fault Ff ne) S hu
    have qN : ∀ C H' u, d = countsD C → Good B ds C → NoLack R B ds C → Same H H' → Dq K H' u (.tuple [.none, .tuple ((tallyL R B ds C).map PyData.int)]) → Q u H' := fun C H' u e G N S hu => q _ _ _ _ (.none e G N) S hu
    have nd := scDue.nd
    have hu := hu_of hr
    refine ⟨_, (pss_cons 
     (ps_if (PW.pt (pw_or (pt_not (pt_val (pe_callB call_isD (by rfl) m_isinstance (by decide +kernel) (pa_cons (pv 2) (pa_cons (pe_bltn (v := .ty "tuple") (by rfl) m_tuple (by decide +kernel) rfl) pa_nil))))) (pw_or1 (pt_cmpR op_ne (pe_callB call_len_seq (by rfl) m_len PySem.boot_len (pa_cons (pv 2) pa_nil)) (pe_callB call_len_seq (by rfl) m_len PySem.boot_len (pa_cons (pe_ix ix_tup (pv 0) pe_int (fun _ _ => rfl)) pa_nil)) (nomark _)))))
       (pss_one 
        (ps_ret (pe_tup (pa_cons pe_str (pa_cons pe_non pa_nil))))) pss_nil) 
    (pss_cons 
     (ps_for PassesOwn.never rfl (pi_enumT (by rfl) m_enumerate (pa_cons (pv 2) pa_nil)) (pg_tup rfl (pgs_cons (pg_name (i := 3) nd rfl (.inr rfl)) (pgs_cons (pg_name (i := 4) nd rfl (.inl rfl)) pgs_nil)))
       (pss_cons 
        (ps_set (i := 5) nd rfl (.inl rfl) (pe_callB call_len_seq (by rfl) m_len PySem.boot_len (pa_cons (pe_lc (own := [("_law_own", 8)]) (g := gName 8) rfl nd (pi_list (pv 1)) (blkOk_by (N := nDue) (sc := defScope sDue) (by decide +kernel))
          (fun _ _ _ _ _ => pg_name (i := 8) nd rfl (.inl rfl) (.inr rfl))
          (fun _ _ _ _ _ => pts_one (PW.pt (pw_and (pt_cmpR op_eq (pe_ix (ix_tupK (K := K) rfl) (pv 8) pe_int (fun _ _ => rfl)) pe_str (nomark _)) (pw_and1 (pt_cmpR op_eq (pe_ix (ix_tupK (K := K) rfl) (pv 8) pe_int (fun _ _ => rfl)) (pv 3) (nomark _))))))
          (fun _ _ _ _ _ => pv 8)) pa_nil))) 
       (pss_one 
        (ps_if (PW.pt (pw_or (pt_not (pt_val (pe_callB call_isD (by rfl) m_isinstance (by decide +kernel) (pa_cons (pv 4) (pa_cons (pe_bltn (v := .ty "tuple") (by rfl) m_tuple (by decide +kernel) rfl) pa_nil))))) (pw_or (pt_cmpR op_ne (pe_callB call_len_seq (by rfl) m_len PySem.boot_len (pa_cons (pv 4) pa_nil)) (pv 5) (nomark _)) (pw_or1 (pt_not (pt_val (pe_callB (cr_all rfl) (by rfl) m_all (by decide +kernel) (pa_cons (pe_lc (own := [("_law_count", 9)]) (g := gName 9) (tt := tYes) rfl nd (pi_tup (pv 4)) (blkOk_by (N := nDue) (sc := defScope sDue) (by decide +kernel))
          (fun _ _ _ _ _ => pg_name (i := 9) nd rfl (.inl rfl) (.inr rfl)) (fun _ _ _ _ _ => pts_nil) (fun _ _ _ _ _ => pe_fn C_is_count (hr.mono (by decide)) (by rfl) (pa_cons (pv 9) pa_nil))) pa_nil))))))))
          (pss_one 
           (ps_ret (pe_tup (pa_cons (pe_tup (pa_cons pe_str (pa_cons (pv 3) pa_nil))) (pa_cons pe_non pa_nil))))) pss_nil)))) 
    (pss_cons 
     (ps_asg (pe_fn C_tally_due (hr.mono (by decide)) (by rfl) (pa_cons (pv 0) (pa_cons (pv 1) (pa_cons (pv 2) pa_nil)))) (pg_tup rfl (pgs_cons (pg_name (i := 6) nd rfl (.inl rfl)) (pgs_cons (pg_name (i := 7) nd rfl (.inl rfl)) pgs_nil)))) 
    (pss_one 
     (ps_ret (pe_ifExp (pt_cmpR op_eq (pv 6) pe_str (nomark _)) (pe_tup (pa_cons (pv 7) (pa_cons pe_non pa_nil))) (pe_tup (pa_cons pe_non (pa_cons (pv 7) pa_nil))))))))), ?_⟩
    obtain ⟨p1, p2, xs, rfl, h1, h2, hx⟩ := plan_inv hp
    obtain ⟨tp, tvs, rfl, htp, htv⟩ := Dq.lstI ht
    have lt : tvs.length = (toldL R B ds).length := by
      rw [htv.len, List.length_map]
    have l66 := told_len pok
    have lx : xs.length = ds.length := by
      rw [hx.len, List.length_map]
    refine ⟨v, rfl, v, d, "tuple", rfl, hd, (ty_tuple d).2, _, rfl, ?_⟩
    rw [(ty_tuple d).1]
    rcases form_or ds d with ⟨rows, rfl, hl⟩ | hf
    · obtain ⟨p3, ys, rfl, h3, hy⟩ := Dq.tupI hd
      have ly : ys.length = ds.length := by
        rw [hy.len, hl]
      refine iteF ?_
      refine ⟨_, rfl, p3, _, rfl, .inr h3, .ref p1, rfl, p1, _, 2, _, rfl, rfl, h1, atI_nat (j := 2) rfl, p2, _, rfl, .inr h2, rfl, _, rfl, ?_⟩
      rw [lx, ly, show (!decide (V.int (ds.length : Nat) = V.int (ds.length : Nat))) = false by simp]
      refine iteF ?_
      refine ⟨_, rfl, p3, _, rfl, h3, ?_⟩
      refine for_it (walk_enumT (xs := ys)) (fun i σ H' => ∃ y3 y4 y5, σ = [some (.ref p1), some (.ref tp), some (.ref p3), y3, y4, y5, none, none, none, none] ∧ Same H H' ∧ ∀ (j : Nat) (row : PyData) (d : Door), j < i → rows[j]? = some row → ds[j]? = some d → rowOk (nb B d) row = true)
        ⟨none, none, none, rfl, Same.refl H, fun _ _ _ z => nomatch z⟩ (fun i σ H' _ hP => ?_) ?_ ?_
      · obtain ⟨_, _, _, _, hS, _⟩ := hP
        exact seqT_same hS h3
      · rintro n v σ H1 H2 hi ⟨y3, y4, y5, rfl, hS, ok⟩ ⟨T, x, y, rfl, nT, rfl, ex, ey⟩
        obtain rfl := Option.some.inj ex
        have hi' : n < rows.length := by omega
        have hi2 : n < ds.length := by omega
        have er : rows[n]? = some rows[n] := List.getElem?_eq_getElem hi'
        have ed : ds[n]? = some ds[n] := List.getElem?_eq_getElem hi2
        obtain ⟨y', ey', hrow⟩ := hy.at er
        obtain rfl : y' = y := Option.some.inj (ey'.symm.trans ey)
        have S2 := same_next hS nT (o := .tup [.int (n : Nat), y'])
        refine ⟨T, _, rfl, .inl (.inl upd_same), rfl, _, _, rfl, _, _, rfl, rfl, ?_⟩
        refine ⟨_, rfl, tp, rfl, ⟨_, S2.seq htp⟩, fun D nD => ?_⟩
        refine lc_it (walk_list (xs := tvs)) (fun i H' => Same (upd H1 T (.tup [.int (n : Nat), y'])) H' ∧ ∃ acc, H' D = some (.lst acc) ∧ acc.length = (((toldL R B ds).take i).filterMap (atDoor n)).length)
          ⟨same_new nD, [], by rw [upd_same], rfl⟩ (fun i H' _ hP => (S2.trans hP.1).seq htp) ?_ ?_
        · rintro i1 x1 H6 H7 hi1 ⟨hS6, acc, hL6, lacc⟩ ⟨rfl, hx1⟩
          obtain ⟨T1, eT1, hT1⟩ := htv.atM hx1
          obtain ⟨op1, rfl, hop1⟩ := told_inv hT1
          have S7 := S2.trans hS6
          have hop7 := seqT_same S7 hop1
          have sz : acc.length ≤ 1000 := by
            rw [lacc]
            refine Nat.le_trans (List.length_filterMap_le _ _) ?_
            rw [List.length_take]
            omega
          have et : ((toldL R B ds).take (i1 + 1)).filterMap (atDoor n) = ((toldL R B ds).take i1).filterMap (atDoor n) ++ (atDoor n T1).toList := by
            rw [take_succ eT1, List.filterMap_append]
            congr 1
          refine ⟨rfl, ?_⟩
          cases T1 with
          | wait r1' b1' =>
            refine ⟨_, rfl, op1, _, 0, .str "wait", rfl, rfl, hop7, atI_nat (j := 0) rfl, rfl, _, rfl, ite2 (fun e => absurd e (by decide +kernel)) (fun _ => iteF ⟨hS6, acc, hL6, ?_⟩)⟩
            rw [et]
            simpa [atDoor] using lacc
          | stay r1' b1' =>
            refine ⟨_, rfl, op1, _, 0, .str "stay", rfl, rfl, hop7, atI_nat (j := 0) rfl, rfl, _, rfl, ite2 (fun e => absurd e (by decide +kernel)) (fun _ => iteF ⟨hS6, acc, hL6, ?_⟩)⟩
            rw [et]
            simpa [atDoor] using lacc
          | door n1 b1' =>
            refine ⟨_, rfl, op1, _, 0, .str "door", rfl, rfl, hop7, atI_nat (j := 0) rfl, rfl, _, rfl, ite2 (fun _ => ?_) (fun e => absurd (decide_eq_true rfl) e)⟩
            refine ⟨_, rfl, op1, _, 1, .int n1, rfl, rfl, hop7, atI_nat (j := 1) rfl, _, rfl, rfl, _, rfl, ite2 (fun e => ?_) (fun e => ?_)⟩
            · have en : n1 = n := by
                have := V.int.inj (of_decide_eq_true e)
                omega
              refine ⟨_, rfl, acc, hL6, small1000 sz, same_put hS6 nD, _, upd_same, ?_⟩
              rw [et]
              simp [atDoor, en, lacc]
            · have en : ¬ n1 = n := fun y => e (decide_eq_true (by rw [y]))
              refine ⟨hS6, acc, hL6, ?_⟩
              rw [et]
              simpa [atDoor, en] using lacc
        · rintro H6 ⟨hS6, acc, hL6, lacc⟩
          rw [List.take_of_length_le (by omega), at_told ed, List.length_range] at lacc
          have S7 := S2.trans hS6
          refine ⟨D, acc, rfl, .inl (.inl (.inl hL6)), ?_⟩
          have bad : ∀ H' , Same H H' → rowOk (nb B ds[n]) rows[n] = false → ∀ t u, H' t = none → (upd H' t (.tup [.str "door", .int n])) u = none → Q (.ref u) (upd (upd H' t (.tup [.str "door", .int n])) u (.tup [.ref t, .non])) := fun H' S' hk t u nt nu =>
            qF (doorBad n) _ _ (.door hl er ed hk ok) (by intro z; cases z) (same_next (same_next S' nt) nu) (.newT (.cons (.newT (.cons (.str _) (.cons (.int _) .nil)) nt) (.cons .non .nil)) nu)
          have hrow6 := hrow.to S7
          refine ⟨_, rfl, y', rows[n], "tuple", rfl, hrow6, (ty_tuple _).2, _, rfl, ?_⟩
          rw [(ty_tuple _).1]
          have go : rowOk (nb B ds[n]) rows[n] = true → ∀ (j : Nat) (row : PyData) (d : Door), j < n + 1 → rows[j]? = some row → ds[j]? = some d → rowOk (nb B d) row = true := fun hk j row d' hj e1 e2 => by
            by_cases e : j = n
            · subst e
              obtain rfl := Option.some.inj (e1.symm.trans er)
              obtain rfl := Option.some.inj (e2.symm.trans ed)
              exact hk
            · exact ok j row d' (by omega) e1 e2
          by_cases hT : ∃ its, rows[n] = .tuple its
          · obtain ⟨its, eits⟩ := hT
            rw [eits] at hrow6 bad go ⊢
            obtain ⟨ip, vs, rfl, hip, hvs⟩ := Dq.tupI hrow6
            have lits : its.length ≤ 1000 := by
              have z1 := nodes_mem (List.mem_of_getElem? er)
              rw [eits] at z1
              have z2 := len_nodes its
              simp only [nodes] at hz z1
              omega
            refine iteF ?_
            refine ⟨_, rfl, ip, _, rfl, .inr hip, _, rfl, rfl, _, rfl, ?_⟩
            rw [hvs.len, lacc]
            by_cases hlen : its.length = nb B ds[n]
            · rw [hlen, show (!decide (V.int (nb B ds[n] : Nat) = V.int (nb B ds[n] : Nat))) = false by simp]
              refine iteF ?_
              refine ⟨_, rfl, ip, rfl, ⟨_, hip⟩, fun D2 nD2 => ?_⟩
              refine lc_it (walk_tup (xs := vs)) (fun i H' => Same H6 H' ∧ H' D2 = some (.lst (((its.take i).map isCountD).map V.bl))) ⟨same_new nD2, by rw [upd_same]; rfl⟩ (fun i H' _ hP => seqT_same hP.1 hip) ?_ ?_
              · rintro i2 x2 H8 H9 hi2' ⟨hS8, hL8⟩ ⟨rfl, hx2⟩
                have hi3 : i2 < its.length := by
                  rw [← hvs.len]
                  exact hi2'
                obtain ⟨x', hx', hdq⟩ := hvs.at (i := i2) (d := its[i2]) (List.getElem?_eq_getElem hi3)
                obtain rfl : x' = x2 := Option.some.inj (hx'.symm.trans hx2)
                refine ⟨rfl, x', rfl, x', its[i2], rfl, hdq.to hS8, _, hL8, ?_, same_put hS8 nD2, ?_⟩
                · rw [List.length_map, List.length_map, List.length_take]
                  exact small1000 (by omega)
                · rw [upd_same, take_succ (List.getElem?_eq_getElem hi3), List.map_append, List.map_append]
                  rfl
              · rintro H8 ⟨hS8, hL8⟩
                rw [List.take_of_length_le (by rw [hvs.len]; omega)] at hL8
                have S8 := S7.trans hS8
                refine ⟨D2, _, rfl, .inl (.inl hL8), _, rfl, ?_⟩
                have ea : (its.map isCountD).all id = its.all isCountD := by
                  rw [List.all_map]
                  rfl
                rw [ea]
                cases hal : its.all isCountD with
                | true =>
                  have hk : rowOk (nb B ds[n]) (.tuple its) = true := by
                    show (decide (its.length = nb B ds[n]) && its.all isCountD) = true
                    rw [decide_eq_true hlen, hal]
                    rfl
                  exact iteF ⟨_, _, _, rfl, S8, go hk⟩
                | false =>
                  have hk : rowOk (nb B ds[n]) (.tuple its) = false := by
                    show (decide (its.length = nb B ds[n]) && its.all isCountD) = false
                    rw [hal, Bool.and_false]
                  refine iteT ?_
                  refine ⟨_, rfl, (by show 2 ≤ sizeLine; decide), fun t nt => ⟨(by show 2 ≤ sizeLine; decide), fun u nu => ?_⟩⟩
                  exact bad _ S8 hk t u nt nu
            · have hk : rowOk (nb B ds[n]) (.tuple its) = false := by
                show (decide (its.length = nb B ds[n]) && its.all isCountD) = false
                rw [decide_eq_false hlen, Bool.false_and]
              have en : (!decide (V.int (its.length : Nat) = V.int (nb B ds[n] : Nat))) = true := by
                rw [decide_eq_false (fun z => hlen (by have := V.int.inj z; omega))]
                rfl
              rw [en]
              refine iteT ?_
              refine ⟨_, rfl, (by show 2 ≤ sizeLine; decide), fun t nt => ⟨(by show 2 ≤ sizeLine; decide), fun u nu => ?_⟩⟩
              exact bad _ S7 hk t u nt nu
          · have hk : rowOk (nb B ds[n]) rows[n] = false := by
              cases e : rows[n] <;> first | rfl | exact absurd ⟨_, e⟩ hT
            have e : (tyName rows[n] == "tuple") = false := by
              cases e : rows[n] <;> first | rfl | exact absurd ⟨_, e⟩ hT
            rw [e]
            refine iteT ?_
            refine ⟨_, rfl, (by show 2 ≤ sizeLine; decide), fun t nt => ⟨(by show 2 ≤ sizeLine; decide), fun u nu => ?_⟩⟩
            exact bad _ S7 hk t u nt nu
      · rintro σ H3 ⟨y3, y4, y5, rfl, hS, ok⟩
        obtain ⟨C, rfl, G⟩ := good_of hl fun j row d' e1 e2 => ok j row d' (by have := (List.getElem?_eq_some_iff.mp e1).1; omega) e1 e2
        refine ⟨_, rfl, _, rfl, _, rfl, .ref p1, .ref tp, .ref p3, R, B, ds, C, rfl, hp.to hS, ht.to hS, hd.to hS, G, pok, fun r b L H4 u S4 hu4 => ?_, fun Nn H4 u S4 hu4 => ?_⟩
        · obtain ⟨t, ts, rfl, ht4, hts⟩ := Dq.tupI hu4
          cases hts with
          | cons a1 r1 =>
            cases r1 with
            | cons a2 r2 =>
              cases r2
              cases a1
              refine ⟨t, _, rfl, ht4, rfl, _, _, rfl, _, _, rfl, rfl, ?_⟩
              refine ⟨_, rfl, rfl, _, rfl, ite2 (fun _ => ?_) (fun e => absurd (decide_eq_true rfl) e)⟩
              refine ⟨_, rfl, (by show 2 ≤ sizeLine; decide), fun u nu => ?_⟩
              exact qF _ _ _ (.lack G L) (by intro z; cases z) (same_next (hS.trans S4) nu) (.newT (.cons a2 (.cons .non .nil)) nu)
        · obtain ⟨t, ts, rfl, ht4, hts⟩ := Dq.tupI hu4
          cases hts with
          | cons a1 r1 =>
            cases r1 with
            | cons a2 r2 =>
              cases r2
              cases a1
              refine ⟨t, _, rfl, ht4, rfl, _, _, rfl, _, _, rfl, rfl, ?_⟩
              refine ⟨_, rfl, rfl, _, rfl, ite2 (fun e => absurd e (by decide +kernel)) (fun _ => ?_)⟩
              refine ⟨_, rfl, (by show 2 ≤ sizeLine; decide), fun u nu => ?_⟩
              exact qN C _ _ rfl G Nn (same_next (hS.trans S4) nu) (.newT (.cons .non (.cons a2 .nil)) nu)
    · have Fm : Fault R B ds d formD := .form hf
      have fin : ∀ t, H t = none → Q (.ref t) (upd H t (.tup [.str "form", .non])) := fun t nt => qF _ _ _ Fm (by intro z; cases z) (same_new nt) (.newT (.cons (.str _) (.cons .non .nil)) nt)
      by_cases ht : ∃ rows, d = .tuple rows
      · obtain ⟨rows, rfl⟩ := ht
        obtain ⟨p3, ys, rfl, h3, hy⟩ := Dq.tupI hd
        refine iteF ?_
        refine ⟨_, rfl, p3, _, rfl, .inr h3, .ref p1, rfl, p1, _, 2, _, rfl, rfl, h1, atI_nat (j := 2) rfl, p2, _, rfl, .inr h2, rfl, _, rfl, ?_⟩
        rw [lx, hy.len]
        refine ite2 (fun _ => ?_) (fun e => ?_)
        · exact ⟨(by show 2 ≤ sizeLine; decide), fin⟩
        · exfalso
          refine hf rows rfl ?_
          have z : (V.int (rows.length : Nat)) = V.int (ds.length : Nat) := by
            simpa using e
          have := V.int.inj z
          omega
      · have e : (tyName d == "tuple") = false := by
          cases d <;> first | rfl | exact absurd ⟨_, rfl⟩ ht
        rw [e]
        exact iteT (iteT ⟨(by show 2 ≤ sizeLine; decide), fin⟩)
end
end K8

namespace K8
open PySem PySem.Spec PyProof.Rows L2

/-! ## f(p2 = .., p1 = ..): a def of two parameters, by keywords alone, in the other order -/
def Swaps (fd : FuncData) (p1 p2 : Str) : Prop := ∀ (s : Shared) (a b : Value), BindsTo s fd ⟨[], [(p2, a), (p1, b)]⟩ [(p1, b), (p2, a)]
def HasK (P : Program) (w : World) (K : PySem.W.Frag) (mg : Str → Option Value) (base : Heap) (CX : CXT) (k : Nat) (x p1 p2 : Str) (sp : Sp) : Prop :=
  ∃ (f : Addr) (fd : FuncData), FnOk P w K mg base CX k f fd [p1, p2] sp ∧ mg x = some (.ref f) ∧ PySem.W.keepIn K (.ref f) = true ∧ Binds K fd [p1, p2] [] ∧ Swaps fd p1 p2
theorem HasK.has {P : Program} {w : World} {K : PySem.W.Frag} {mg : Str → Option Value} {base : Heap} {CX : CXT} {k : Nat} {x p1 p2 : Str} {sp : Sp} (h : HasK P w K mg base CX k x p1 p2 sp) : Has P w K mg base CX k x [p1, p2] sp := by
  obtain ⟨f, fd, a, b, c, d, _⟩ := h
  exact ⟨f, fd, a, b, c, d⟩
def tSwap (sp : Sp) (E : L2.St → XK) (tk : TA) : TE := fun σ H Q => tk σ H fun zs H1 => ∃ a b, zs = [a, b] ∧ sp [b, a] H1 Q (E σ)
section
variable {X : Cx} {CX : CXT} {k : Nat} {sp : Sp} {E : L2.St → XK} {x p1 p2 : Str} {p pos : Pos} {e : Expr} {es : List Expr} {kws : List Keyword} {t tk : TA}
theorem pe_swap (C : HasK X.prog X.w X.K X.mg X.base CX k x p1 p2 sp) (hr : Room k X.A) (hg : Gl X x) (hx : ∀ σ, PassesAt CX X σ (E σ)) (hkw : PK X kws tk) (hall : (backToKw pos (keywordEach kws X.env)).all (·.1.isSome) = true := by rfl)
    (hks : (backToKw pos (keywordEach kws X.env)).filterMap (·.1) = [p2, p1] := by rfl) (hdb : (x == ("__debug__" : Str)) = false := by decide)
    (hpl : ((backTo pos (starEach [] X.env)).any (·.1) || (backToKw pos (keywordEach kws X.env)).any (·.1.isNone)) = false := by rfl) : PE X (.Call (.Name x p) [] kws pos) (tSwap sp E tk) := by
  obtain ⟨f, fd, F, hm, hk, _, sw⟩ := C
  refine ⟨fun pins s σ H Q I h => ?_⟩
  refine wpAny_Call_Name_kw (ld_glob I hg hm ?_ hdb)
  refine PySem.W.callWith_KW0 (h₀ := X.base) I.ok.mod.kin hk hall (thn (hkw.run pos pins s σ H _ I h) fun ws s2 ⟨zs, H2, I2, rz, a, b, ez, q2⟩ => ⟨I2.kIn, ?_⟩) hpl
  subst ez
  obtain ⟨u1, u2, rfl, r1, r2⟩ := vals2 rz
  rw [hks]
  refine wpAny_call (codeAny_mono (F.run X.A X.stack s2 H2 ⟨[], [(p2, u1), (p1, u2)]⟩ [u2, u1] [b, a] Q (E σ) hr I2.env0 (sw s2 u1 u2) (.cons r2 (.cons r1 .nil)) q2) fun r s' hq => ?_)
  cases r with
  | error e => exact hx σ pins H2 s2 e s' I2 hq
  | ok fl =>
    cases fl with
    | ret u => exact I2.after hq
    | next => exact False.elim hq
    | brk => exact False.elim hq
    | cont => exact False.elim hq
theorem pe_fnS {ps : List Str} (C : Has X.prog X.w X.K X.mg X.base CX k x ps sp) (hr : Room k X.A) (hg : Gl X x) (hx : ∀ σ, PassesAt CX X σ (E σ)) (ha : PA X (e :: es) t) (hdb : (x == ("__debug__" : Str)) = false := by decide)
    (he : starEach (e :: es) X.env = (false, eval e X.env) :: starEach es X.env := by rfl) (hpl : (backTo pos (starEach es X.env)).any (·.1) = false := by rfl) : PE X (.Call (.Name x p) (e :: es) [] pos) (tCallS sp E t) := by
  obtain ⟨f, fd, ok, g, kp, b⟩ := C
  exact pe_callS ok hr hg g kp b hx ha hdb he hpl
theorem passAt0 {X : Cx} (σ : L2.St) : PassesAt CX0 X σ E0 := fun _ _ _ _ _ _ h => h.elim
theorem call_isY {a : Addr} {d : Option Addr} {cls : Value} {oe : Obj} {pn : List (Addr × Obj)} (hz : Zc cls d oe) (hf : ∃ vs, oe.data = .fields vs) :
    CallR (X.suite a ((a, oe) :: pn)) (.builtin "isinstance") (fun xs H Q => ∃ (dx D C : Addr) (fs : List (Str × V)) (b : Bool), d = some dx ∧ xs = [.ref a, .ref C] ∧ cls = .ref D ∧ H dx = some (.xd fs) ∧ ExcC X.K D ∧ PySem.W.kitOne X.K (.ref D) (.ref C) = some b ∧ Q (.bl b) H) := by
  intro pins s σ H xs us Q I r h
  obtain ⟨dx, D, C, fs, b, rfl, h⟩ := h
  exact call_isX hz hf pins s σ H xs us Q I r ⟨D, C, fs, b, h⟩
end
/-- what the written part says of the error classes -/
structure ErrC (K : PySem.W.Frag) (mg : Str → Option Value) (CT CB CM : Addr) : Prop where
  gT : mg "TripError" = some (.ref CT)
  gB : mg "BadTally" = some (.ref CB)
  gM : mg "TooMany" = some (.ref CM)
  xB : XfC K CB
  xM : XfC K CM
  nB : PySem.W.findIn K (.ref CB) "error" = some none
  nM : PySem.W.findIn K (.ref CM) "limit" = some none
  eB : ExcC K CB
  eM : ExcC K CM
  kB : PySem.W.kitOne K (.ref CB) (.ref CT) = some true
  kM : PySem.W.kitOne K (.ref CM) (.ref CT) = some true
  bb : PySem.W.exmOne K (.ref CB) (.ref CB) = some true
  mb : PySem.W.exmOne K (.ref CM) (.ref CB) = some false
  mm : PySem.W.exmOne K (.ref CM) (.ref CM) = some true

section
variable {P : Program} {w : World} {K : PySem.W.Frag} {mg : Str → Option Value} {base : Heap}
/-! ## _law_heard -/
abbrev sHeard : Stmt := topS 31
abbrev pHeard : List Str := ["_law_plan_here", "_law_value", "_law_is_named"]
theorem scHeard : FnScope ["_law_plan_here", "_law_value", "_law_is_named", "slip"] pHeard (defScope sHeard) := ⟨rfl, rfl, rfl, by decide +kernel, rfl, by decide +kernel, by decide +kernel⟩
/-- what is heard of the tally -/
inductive Heard (R B : Nat) (ds : List Door) (d : PyData) : PyData → Prop
  | bad {f : PyData} (F : Fault R B ds d f) (ne : f ≠ .none) : Heard R B ds d (.list [.str "bad", f, .bool true])
  | many {C : List (List Int)} (e : d = countsD C) (G : Good B ds C) (N : NoLack R B ds C) (m : ∃ m ∈ tallyL R B ds C, big < m) : Heard R B ds d (.list [.str "many", .int big, .bool true])
  | told {C : List (List Int)} (e : d = countsD C) (G : Good B ds C) (N : NoLack R B ds C) (m : ∀ m ∈ tallyL R B ds C, m ≤ big) : Heard R B ds d (.list [.str "told", .tuple ((tallyL R B ds C).map PyData.int)])
def spHeard (K : PySem.W.Frag) : Sp := fun vs H Q _ => ∃ (pl v : V) (b : Bool) (R B : Nat) (ds : List Door) (d : PyData), vs = [pl, v, .bl b] ∧ Dq K H pl (planD R B ds) ∧ Dq K H v d ∧ nodes d ≤ 1000 ∧ PlanOk R B ds ∧
  ∀ f H' u, Heard R B ds d f → Same H H' → Dq K H' u f → Q u H'
theorem ok_heard {f CT CB CM : Addr} {fd : FuncData} (F : Fun K "_law_heard" "_law_heard" sHeard f fd) (C : HasK P w K mg base (L2.CX P w) 5 "tally_of_plan" "plan" "counts" (spTally K CB CM)) (T : ErrC K mg CT CB CM) (m_isinstance : mg "isinstance" = none) :
    FnOk P w K mg base CX0 6 f fd pHeard (spHeard K) := by
  refine F.ok scHeard (fun vs H Q E h => ?_) (fun cdv A outer s H vs Q E hr h => ?_)
  · obtain ⟨pl, v, b, R, B, ds, d, rfl, _⟩ := h
    rfl
  · obtain ⟨pl, v, b, R, B, ds, d, rfl, hp, hd, hz, pok, q⟩ := h
    have nd := scHeard.nd
    refine ⟨_, pss_one (ps_try_named (i := 3) rfl rfl nd rfl rfl takes0
      (fun W pn xe tk _ => pss_one (ps_ret (pe_lst (pa_cons pe_str (pa_cons (pe_ifExp (pt_val (pv 2)) (pe_swap C hr (by rfl) (fun σ => passAt tk σ) (pk_cons (pv 1) (pk_cons (pv 0) pk_nil))) (pe_fnS C.has hr (by rfl) (fun σ => passAt tk σ) (pa_cons (pv 0) (pa_cons (pv 1) pa_nil)))) pa_nil)))))
      (.cons ⟨rfl, by decide, .inl T.gB⟩ (fun a oe cls d pn hz hf => pss_one (ps_ret (pe_lst (pa_cons pe_str (pa_cons (pe_xf T.xB T.nB hz hf (pv 3)) (pa_cons (pe_callB (call_isY hz hf) (by rfl) m_isinstance (by decide +kernel) (pa_cons (pv 3) (pa_cons (pe_glob (v := .ref CT) (by rfl) T.gT rfl) pa_nil))) pa_nil))))))
      (.cons ⟨rfl, by decide, .inl T.gM⟩ (fun a oe cls d pn hz hf => pss_one (ps_ret (pe_lst (pa_cons pe_str (pa_cons (pe_xf T.xM T.nM hz hf (pv 3)) (pa_cons (pe_callB (call_isY hz hf) (by rfl) m_isinstance (by decide +kernel) (pa_cons (pv 3) (pa_cons (pe_glob (v := .ref CT) (by rfl) T.gT rfl) pa_nil))) pa_nil))))))
        .nil))), ?_⟩
    have go : ∀ (Q2 : VK) (E2 : XK), (∀ H' u, Same H H' → ∀ f, Heard R B ds d (.list [.str "told", f]) → Dq K H' u f → Q2 u H') →
        (∀ f H' u dx, Fault R B ds d f → f ≠ .none → Same H H' → Dq K H' u f → H' dx = none → E2 (.ref CB) (some dx) (upd H' dx (.xd [("error", u)]))) →
        (∀ C H' dx, d = countsD C → Good B ds C → NoLack R B ds C → (∃ m ∈ tallyL R B ds C, big < m) → Same H H' → H' dx = none → E2 (.ref CM) (some dx) (upd H' dx (.xd [("limit", .int big)]))) → spTally K CB CM [pl, v] H Q2 E2 :=
      fun Q2 E2 a1 a2 a3 => ⟨pl, v, R, B, ds, d, rfl, hp, hd, hz, pok, a2, a3, fun C H' u e G N m S hu => a1 H' u S _ (.told e G N m) hu⟩
    cases b with
    | true =>
      refine ⟨.bl true, rfl, true, rfl, iteT ?_⟩
      refine ⟨_, rfl, _, rfl, v, pl, rfl, go _ _ (fun H' u S f hf hu => ?_) (fun f H' u dx Ff ne S hu hdx => ?_) (fun C H' dx e G N m S hdx => ?_)⟩
      · refine ⟨(by show 2 ≤ sizeLine; decide), fun p np => ?_⟩
        exact q _ _ _ hf (same_next S np) (.newL (.cons (.str _) (.cons hu .nil)) np)
      · refine ⟨true, T.bb, fun _ a na => ?_, fun z => Bool.noConfusion z⟩
        refine ⟨_, rfl, rfl, rfl, dx, [("error", u)], u, rfl, upd_same, by simp [List.lookup], _, rfl, dx, CB, CT, _, true, rfl, rfl, rfl, upd_same, T.eB, T.kB, (by show 3 ≤ sizeLine; decide), fun p np => ?_⟩
        have S2 := same_next S hdx (o := .xd [("error", u)])
        exact q _ _ _ (.bad Ff ne) (same_next S2 np) (.newL (.cons (.str _) (.cons (hu.to (same_new hdx)) (.cons (.bl _) .nil))) np)
      · refine ⟨false, T.mb, fun z => Bool.noConfusion z, fun _ => ⟨true, T.mm, fun _ a na => ?_, fun z => Bool.noConfusion z⟩⟩
        refine ⟨_, rfl, rfl, rfl, dx, [("limit", .int big)], _, rfl, upd_same, by simp [List.lookup]; rfl, _, rfl, dx, CM, CT, _, true, rfl, rfl, rfl, upd_same, T.eM, T.kM, (by show 3 ≤ sizeLine; decide), fun p np => ?_⟩
        have S2 := same_next S hdx (o := .xd [("limit", .int big)])
        exact q _ _ _ (.many e G N m) (same_next S2 np) (.newL (.cons (.str _) (.cons (.int _) (.cons (.bl _) .nil))) np)
    | false =>
      refine ⟨.bl false, rfl, false, rfl, iteF ?_⟩
      refine ⟨_, rfl, _, rfl, go _ _ (fun H' u S f hf hu => ?_) (fun f H' u dx Ff ne S hu hdx => ?_) (fun C H' dx e G N m S hdx => ?_)⟩
      · refine ⟨(by show 2 ≤ sizeLine; decide), fun p np => ?_⟩
        exact q _ _ _ hf (same_next S np) (.newL (.cons (.str _) (.cons hu .nil)) np)
      · refine ⟨true, T.bb, fun _ a na => ?_, fun z => Bool.noConfusion z⟩
        refine ⟨_, rfl, rfl, rfl, dx, [("error", u)], u, rfl, upd_same, by simp [List.lookup], _, rfl, dx, CB, CT, _, true, rfl, rfl, rfl, upd_same, T.eB, T.kB, (by show 3 ≤ sizeLine; decide), fun p np => ?_⟩
        have S2 := same_next S hdx (o := .xd [("error", u)])
        exact q _ _ _ (.bad Ff ne) (same_next S2 np) (.newL (.cons (.str _) (.cons (hu.to (same_new hdx)) (.cons (.bl _) .nil))) np)
      · refine ⟨false, T.mb, fun z => Bool.noConfusion z, fun _ => ⟨true, T.mm, fun _ a na => ?_, fun z => Bool.noConfusion z⟩⟩
        refine ⟨_, rfl, rfl, rfl, dx, [("limit", .int big)], _, rfl, upd_same, by simp [List.lookup]; rfl, _, rfl, dx, CM, CT, _, true, rfl, rfl, rfl, upd_same, T.eM, T.kM, (by show 3 ≤ sizeLine; decide), fun p np => ?_⟩
        have S2 := same_next S hdx (o := .xd [("limit", .int big)])
        exact q _ _ _ (.many e G N m) (same_next S2 np) (.newL (.cons (.str _) (.cons (.int _) (.cons (.bl _) .nil))) np)
end
end K8

namespace K8
open PySem PySem.Spec PyProof.Rows L2

/-! ## data that is small enough to be shown -/
/-- nodes up to n, depth up to k -/
structure Tm (n k : Nat) (d : PyData) : Prop where
  ls : d.shown.length + 2 ≤ 80 * nodes d
  sh : d.showable = true
  we : nodes d ≤ n
  de : d.depth ≤ k
structure TmA (n k : Nat) (ds : List PyData) : Prop where
  ls : ((PyData.shownAll ds).map (·.length)).sum + 2 * ds.length ≤ 80 * nodesAll ds
  sh : PyData.showableAll ds = true
  we : nodesAll ds ≤ n
  de : PyData.depthAll ds ≤ k
theorem Tm.mono {n k n' k' : Nat} {d : PyData} (h : Tm n k d) (h1 : n ≤ n') (h2 : k ≤ k') : Tm n' k' d := ⟨h.ls, h.sh, Nat.le_trans h.we h1, Nat.le_trans h.de h2⟩
theorem TmA.mono {n k n' k' : Nat} {d : List PyData} (h : TmA n k d) (h1 : n ≤ n') (h2 : k ≤ k') : TmA n' k' d := ⟨h.ls, h.sh, Nat.le_trans h.we h1, Nat.le_trans h.de h2⟩
theorem Tm.non : Tm 1 0 .none := ⟨by decide +kernel, by simp [PyData.showable], by simp [nodes], by simp [PyData.depth]⟩
theorem Tm.bl (b : Bool) : Tm 1 0 (.bool b) := ⟨by cases b <;> decide +kernel, by simp [PyData.showable], by simp [nodes], by simp [PyData.depth]⟩
theorem Tm.int {i : Int} (h : i.natAbs < 10 ^ 71) : Tm 1 0 (.int i) := by
  refine ⟨?_, ?_, by simp [nodes], by simp [PyData.depth]⟩
  · have e := int_text_length_le10 (k := 71) (by decide) h
    have e2 : (PyData.shown (.int i)).length ≤ 72 := by
      show (Str.ofString (toString i)).length ≤ 72
      rw [PySem.ofString_length]
      exact e
    simp only [nodes]
    omega
  · simp only [PyData.showable, decide_eq_true_eq]
    by_cases z : i.natAbs = 0
    · rw [z]
      decide
    · have h2 : i.natAbs < 2 ^ 1920 := Nat.lt_of_lt_of_le h (by decide +kernel)
      exact (Nat.log2_lt z).mpr h2
theorem Tm.nat {i : Nat} (h : i ≤ 1000) : Tm 1 0 (.int i) := Tm.int (Nat.lt_of_le_of_lt (show ((i : Int)).natAbs ≤ 1000 by omega) (by decide +kernel))
theorem TmA.nil : TmA 0 0 [] := ⟨by simp [PyData.shownAll], by simp [PyData.showableAll], by simp [nodesAll], by simp [PyData.depthAll]⟩
theorem TmA.cons {n m k : Nat} {d : PyData} {ds : List PyData} (h : Tm n k d) (r : TmA m k ds) : TmA (n + m) k (d :: ds) := by
  refine ⟨?_, by simp [PyData.showableAll, h.sh, r.sh], ?_, ?_⟩
  · have := h.ls
    have := r.ls
    simp only [PyData.shownAll, nodesAll, List.map_cons, List.sum_cons, List.length_cons]
    omega
  · have := h.we
    have := r.we
    simp only [nodesAll]
    omega
  · have := h.de
    have := r.de
    simp only [PyData.depthAll]
    omega
/-- every item by itself -/
theorem TmA.of : ∀ {ds : List PyData} {k : Nat}, (∀ d ∈ ds, Tm (nodes d) k d) → TmA (nodesAll ds) k ds
  | [], _, _ => TmA.nil.mono (Nat.zero_le _) (Nat.zero_le _)
  | d :: ds, k, h => TmA.cons (h d List.mem_cons_self) (TmA.of fun x hx => h x (List.mem_cons_of_mem _ hx))
/-- small data, item by item -/
inductive Sm : Nat → PyData → Prop
  | leaf {k : Nat} {d : PyData} (h : Tm 1 0 d) : Sm k d
  | dic {k : Nat} : Sm (k + 1) (.dict [])
  | lst {k : Nat} {ds : List PyData} (h : ∀ d ∈ ds, Sm k d) : Sm (k + 1) (.list ds)
  | tup {k : Nat} {ds : List PyData} (h : ∀ d ∈ ds, Sm k d) : Sm (k + 1) (.tuple ds)
theorem Tm.lst {n k : Nat} {ds : List PyData} (h : TmA n k ds) : Tm (n + 1) (k + 1) (.list ds) := by
  refine ⟨?_, by simpa [PyData.showable] using h.sh, ?_, by simpa [PyData.depth] using h.de⟩
  · have e := listText_len_le (PyData.shownAll ds)
    have := h.ls
    have e2 : (PyData.shownAll ds).length = ds.length := PyData.shownAll_length ds
    simp only [PyData.shown, nodes]
    omega
  · have := h.we
    simp only [nodes]
    omega
theorem Tm.tup {n k : Nat} {ds : List PyData} (h : TmA n k ds) : Tm (n + 1) (k + 1) (.tuple ds) := by
  refine ⟨?_, by simpa [PyData.showable] using h.sh, ?_, by simpa [PyData.depth] using h.de⟩
  · have e := tupleText_len_le (PyData.shownAll ds)
    have := h.ls
    have e2 : (PyData.shownAll ds).length = ds.length := PyData.shownAll_length ds
    simp only [PyData.shown, nodes]
    omega
  · have := h.we
    simp only [nodes]
    omega
theorem Tm.dic : Tm 1 1 (.dict []) := ⟨by decide +kernel, by simp [PyData.showable, PyData.showableKv], by simp [nodes], by simp [PyData.depth, PyData.depthKv]⟩
theorem Sm.tm : ∀ {k : Nat} {d : PyData}, Sm k d → Tm (nodes d) k d
  | k, d, .leaf h => ⟨h.ls, h.sh, Nat.le_refl _, Nat.le_trans h.de (Nat.zero_le _)⟩
  | k + 1, _, .dic => (Tm.dic).mono (by simp [nodes]) (by omega)
  | k + 1, _, .lst h => (Tm.lst (TmA.of fun d hd => Sm.tm (h d hd))).mono (by simp [nodes]) (Nat.le_refl _)
  | k + 1, _, .tup h => (Tm.tup (TmA.of fun d hd => Sm.tm (h d hd))).mono (by simp [nodes]) (Nat.le_refl _)
theorem TmA.ints : ∀ {ns : List Int}, (∀ x ∈ ns, x.natAbs < 10 ^ 71) → TmA ns.length 0 (ns.map PyData.int)
  | [], _ => TmA.nil
  | n :: r, h => by
    have := TmA.cons (Tm.int (h n List.mem_cons_self)) (TmA.ints (ns := r) fun x hx => h x (List.mem_cons_of_mem _ hx))
    exact this.mono (by rw [List.length_cons]; omega) (Nat.le_refl _)
theorem Tm.shows {n k : Nat} {d : PyData} (h : Tm n k d) (hn : n ≤ 2000) (hk : k ≤ 20) (nd : ∀ kvs, d ≠ .dict kvs) : Shows d := by
  refine ⟨h.sh, ?_, Nat.le_trans h.de hk, nd⟩
  have e := h.ls
  have e2 := h.we
  rw [sizeLine_eq]
  omega
theorem Tm.strs {x : Str} (h : (PyData.shown (.str x)).length ≤ 70) : Tm 1 0 (.str x) := ⟨by simp only [nodes]; omega, by simp [PyData.showable], by simp [nodes], by simp [PyData.depth]⟩
theorem tm_form : Tm 1 0 (.str "form") := Tm.strs (by decide +kernel)
theorem tm_door : Tm 1 0 (.str "door") := Tm.strs (by decide +kernel)
theorem tm_lack : Tm 1 0 (.str "lack") := Tm.strs (by decide +kernel)
theorem tm_bad : Tm 1 0 (.str "bad") := Tm.strs (by decide +kernel)
theorem tm_many : Tm 1 0 (.str "many") := Tm.strs (by decide +kernel)
theorem tm_told : Tm 1 0 (.str "told") := Tm.strs (by decide +kernel)
theorem tm_counts : Tm 1 0 (.str "counts") := Tm.strs (by decide +kernel)
theorem tm_one : Tm 1 0 (.str "1") := Tm.strs (by decide +kernel)
theorem small71 {i : Int} (h1 : -1000 ≤ i) (h2 : i ≤ 1000) : i.natAbs < 10 ^ 71 := Nat.lt_of_le_of_lt (show i.natAbs ≤ 1000 by omega) (by decide +kernel)
theorem tm_doors {R : Nat} (hR : R ≤ 6) : ∀ {ds : List Door}, (∀ d ∈ ds, d.Ok R) → TmA (4 * ds.length) 1 (ds.map doorD)
  | [], _ => TmA.nil.mono (Nat.zero_le _) (Nat.zero_le _)
  | d :: ds, h => by
    have ok := h d List.mem_cons_self
    have b : (-1 ≤ d.one ∧ d.one ≤ 6) ∧ (-1 ≤ d.other ∧ d.other ≤ 6) ∧ d.time ≤ 6 := by
      rcases ok with o | o | o <;> omega
    have e : Tm 4 1 (doorD d) := Tm.tup (.cons (.int (small71 (by omega) (by omega))) (.cons (.int (small71 (by omega) (by omega))) (.cons (.nat (by omega)) .nil)))
    exact (TmA.cons e (tm_doors hR fun x hx => h x (List.mem_cons_of_mem _ hx))).mono (by rw [List.length_cons]; omega) (Nat.le_refl _)
theorem tm_plan {R B : Nat} {ds : List Door} (pok : PlanOk R B ds) : Tm 30 3 (planD R B ds) := by
  obtain ⟨r1, r2, b1, b2, d1, d2, ok⟩ := pok
  refine (Tm.tup (k := 2) (.cons ((Tm.nat (i := R) (by omega)).mono (Nat.le_refl _) (Nat.zero_le _)) (.cons ((Tm.nat (i := B) (by omega)).mono (Nat.le_refl _) (Nat.zero_le _)) (.cons (Tm.tup (tm_doors r2 ok)) (TmA.nil.mono (Nat.le_refl _) (Nat.zero_le _)))))).mono (by omega) (Nat.le_refl _)
theorem tm_fault {R B : Nat} {ds : List Door} {d f : PyData} (pok : PlanOk R B ds) (F : Fault R B ds d f) : Tm 20 1 f ∧ ∀ kvs, f ≠ .dict kvs := by
  obtain ⟨r1, r2, b1, b2, d1, d2, ok⟩ := pok
  cases F with
  | form => exact ⟨tm_form.mono (by omega) (by omega), fun _ z => by cases z⟩
  | door hl hk hd =>
    have := (List.getElem?_eq_some_iff.mp hd).1
    exact ⟨(Tm.tup (.cons tm_door (.cons (.nat (by omega)) .nil))).mono (by omega) (by omega), fun _ z => by cases z⟩
  | lack G L =>
    have := L.hr
    have := L.hb
    exact ⟨(Tm.tup (.cons tm_lack (.cons (.nat (by omega)) (.cons (.nat (by omega)) .nil)))).mono (by omega) (by omega), fun _ z => by cases z⟩
  | none => exact ⟨Tm.non.mono (by omega) (by omega), fun _ z => by cases z⟩
/-! ## how great the waits may be -/
theorem zip_bound {f : Door → List Int → Int} {c : Int} (hc : 0 ≤ c) : ∀ (ds : List Door) (C : List (List Int)), (∀ d own, own ∈ C → 0 ≤ f d own ∧ f d own ≤ c) → 0 ≤ (List.zipWith f ds C).sum ∧ (List.zipWith f ds C).sum ≤ c * ds.length
  | [], _, _ => by simp
  | _ :: _, [], _ => by
    simp only [List.zipWith_nil_right, List.sum_nil]
    exact ⟨Int.le_refl _, Int.mul_nonneg hc (by omega)⟩
  | d :: ds, own :: C, h => by
    obtain ⟨h1, h2⟩ := h d own List.mem_cons_self
    obtain ⟨h3, h4⟩ := zip_bound hc ds C fun d' o ho => h d' o (List.mem_cons_of_mem _ ho)
    simp only [List.zipWith_cons_cons, List.sum_cons, List.length_cons]
    refine ⟨by omega, ?_⟩
    rw [show c * ((ds.length + 1 : Nat) : Int) = c * (ds.length : Int) + c by rw [Int.natCast_succ, Int.mul_add, Int.mul_one]]
    omega
theorem row_bound {B : Nat} {ds : List Door} {C : List (List Int)} (G : Good B ds C) {own : List Int} (h : own ∈ C) (j : Nat) : 0 ≤ own.getD j 0 ∧ own.getD j 0 ≤ big := by
  obtain ⟨i, hi, e⟩ := List.mem_iff_getElem.mp h
  have hi2 : i < ds.length := G.len ▸ hi
  have := (G.row i own ds[i] (by rw [List.getElem?_eq_getElem hi, e]) (List.getElem?_eq_getElem hi2)).2
  by_cases hj : j < own.length
  · rw [List.getD_eq_getElem?_getD, List.getElem?_eq_getElem hj]
    exact this _ (List.getElem_mem hj)
  · rw [List.getD_eq_getElem?_getD, List.getElem?_eq_none (by omega)]
    exact ⟨Int.le_refl _, by decide⟩
theorem there_bound {B : Nat} {ds : List Door} {C : List (List Int)} (G : Good B ds C) (hd : ds.length ≤ 5) (r : Nat) : ∀ b, there ds C r b ≤ 5 * big * (b + 1) := by
  have hc : ∀ b, come ds C r b ≤ 5 * big := fun b => by
    have h := (zip_bound (f := comeOne r b) (c := big) (by decide) ds C fun d own ho => by
      unfold comeOne
      split
      · exact row_bound G ho _
      · exact ⟨Int.le_refl _, by decide⟩).2
    have h2 : big * (ds.length : Int) ≤ big * 5 := Int.mul_le_mul_of_nonneg_left (by omega) (by decide)
    unfold come
    omega
  have hg : ∀ b, 0 ≤ gone ds C r b := fun b =>
    (zip_bound (f := goneOne r b) (c := big) (by decide) ds C fun d own ho => by
      unfold goneOne
      split
      · exact row_bound G ho _
      · exact ⟨Int.le_refl _, by decide⟩).1
  intro b
  induction b with
  | zero =>
    have := hc 0
    have := hg 0
    show come ds C r 0 - gone ds C r 0 ≤ _
    omega
  | succ b ih =>
    have := hc (b + 1)
    have := hg (b + 1)
    show there ds C r b + come ds C r (b + 1) - gone ds C r (b + 1) ≤ _
    have e : 5 * big * (((b + 1 : Nat) : Int) + 1) = 5 * big * ((b : Int) + 1) + 5 * big := by
      rw [Int.natCast_succ, Int.mul_add (5 * big) ((b : Int) + 1) 1, Int.mul_one]
    rw [e]
    omega
theorem tm_tally {R B : Nat} {ds : List Door} {C : List (List Int)} (G : Good B ds C) (N : NoLack R B ds C) (pok : PlanOk R B ds) : TmA 66 0 ((tallyL R B ds C).map PyData.int) := by
  refine (TmA.ints fun x hx => ?_).mono (tally_len G pok).1 (Nat.le_refl _)
  have h : 0 ≤ x ∧ x ≤ 1000 * big := by
    unfold tallyL at hx
    rcases List.mem_append.mp hx with hx | hx
    · obtain ⟨own, ho, hxo⟩ := List.mem_flatten.mp hx
      obtain ⟨j, hj, e⟩ := List.mem_iff_getElem.mp hxo
      have := row_bound G ho j
      rw [List.getD_eq_getElem?_getD, List.getElem?_eq_getElem hj, e] at this
      have h2 : x ≤ big := this.2
      exact ⟨this.1, Int.le_trans h2 (by decide)⟩
    · obtain ⟨r, hr, hx⟩ := List.mem_flatMap.mp hx
      obtain ⟨b, hb, rfl⟩ := List.mem_map.mp hx
      have hr := List.mem_range.mp hr
      have hb := List.mem_range.mp hb
      refine ⟨N r b hr hb, Int.le_trans (there_bound G pok.d2 r b) ?_⟩
      have := pok.b2
      have h3 : 5 * big * ((b : Int) + 1) ≤ 5 * big * 6 := Int.mul_le_mul_of_nonneg_left (by omega) (by decide)
      exact Int.le_trans h3 (by decide)
  have e : (1000 * big : Int) < 10 ^ 71 := by decide +kernel
  have e2 : (10 : Int) ^ 71 = ((10 ^ 71 : Nat) : Int) := by norm_cast
  omega
end K8

namespace K8
open PySem PySem.Spec PyProof.Rows L2

theorem both_ite {b : Bool} {A B S : Prop} (s : S) (h1 : S → A) (h2 : S → B) : if b = true then A else B := by
  cases b
  · exact iteF (h2 s)
  · exact iteT (h1 s)
/-- what is heard, when this is due -/
inductive DueList (R B : Nat) (ds : List Door) (d : PyData) : PyData → Prop
  | mk {g : PyData} (h : ∀ g', Heard R B ds d g' → g' = g) (t : Tm 80 3 g) (nd : ∀ kvs, g ≠ .dict kvs) : DueList R B ds d g
theorem due_fault {R B : Nat} {ds : List Door} {d f : PyData} (pok : PlanOk R B ds) (F : Fault R B ds d f) (ne : f ≠ .none) : DueList R B ds d (.list [.str "bad", f, .bool true]) := by
  refine .mk (fun g' hg => ?_) ?_ fun _ z => by cases z
  · cases hg with
    | bad F' ne' => rw [F.det F']
    | many e G N m => exact absurd (F.det (e ▸ .none G N)) ne
    | told e G N m => exact absurd (F.det (e ▸ .none G N)) ne
  · have tf := (tm_fault pok F).1
    exact (Tm.lst (k := 1) (.cons (tm_bad.mono (Nat.le_refl _) (by omega)) (.cons tf (.cons ((Tm.bl true).mono (Nat.le_refl _) (by omega)) (TmA.nil.mono (Nat.le_refl _) (by omega)))))).mono (by omega) (by omega)
theorem due_many {R B : Nat} {ds : List Door} {d : PyData} {C : List (List Int)} (pok : PlanOk R B ds) (e : d = countsD C) (G : Good B ds C) (N : NoLack R B ds C) (m : ∃ m ∈ tallyL R B ds C, big < m) : DueList R B ds d (.list [.str "many", .int big, .bool true]) := by
  subst e
  refine .mk (fun g' hg => ?_) ?_ fun _ z => by cases z
  · cases hg with
    | bad F' ne' => exact absurd (F'.det (.none G N)) ne'
    | many e G N m => rfl
    | told e G' N' m' =>
      have := countsD_inj e
      subst this
      obtain ⟨x, hx, lt⟩ := m
      have := m' x hx
      omega
  · exact (Tm.lst (k := 0) (.cons tm_many (.cons (.int (by decide +kernel)) (.cons (Tm.bl true) TmA.nil)))).mono (by omega) (by omega)
theorem due_told {R B : Nat} {ds : List Door} {d : PyData} {C : List (List Int)} (pok : PlanOk R B ds) (e : d = countsD C) (G : Good B ds C) (N : NoLack R B ds C) (m : ∀ m ∈ tallyL R B ds C, m ≤ big) : DueList R B ds d (.list [.str "told", .tuple ((tallyL R B ds C).map PyData.int)]) := by
  subst e
  refine .mk (fun g' hg => ?_) ?_ fun _ z => by cases z
  · cases hg with
    | bad F' ne' => exact absurd (F'.det (.none G N)) ne'
    | many e G' N' m' =>
      have := countsD_inj e
      subst this
      obtain ⟨x, hx, lt⟩ := m'
      have := m x hx
      omega
    | told e G' N' m' =>
      have := countsD_inj e
      rw [this]
  · exact (Tm.lst (k := 1) (.cons (tm_told.mono (Nat.le_refl _) (by omega)) (.cons (Tm.tup (tm_tally G N pok)) (TmA.nil.mono (Nat.le_refl _) (by omega))))).mono (by omega) (by omega)
theorem pair_inv {K : PySem.W.Frag} {H : Hp} {v : V} {f t : PyData} (h : Dq K H v (.tuple [f, t])) : ∃ p x y, v = .ref p ∧ SqT K H p [x, y] ∧ Dq K H x f ∧ Dq K H y t := by
  obtain ⟨p, xs, rfl, hp, hx⟩ := Dq.tupI h
  cases hx with
  | cons h1 r1 =>
    cases r1 with
    | cons h2 r2 =>
      cases r2
      exact ⟨p, _, _, rfl, hp, h1, h2⟩
section
variable {P : Program} {w : World} {K : PySem.W.Frag} {mg : Str → Option Value} {base : Heap}
/-! ## _law_is_right -/
abbrev sRight : Stmt := topS 32
abbrev pRight : List Str := ["_law_plan_here", "_law_told", "_law_value", "_law_is_named"]
theorem scRight : FnScope ["_law_plan_here", "_law_told", "_law_value", "_law_is_named", "_law_known", "_law_fault", "_law_tally", "_law_heard_here", "_law_due_here"] pRight (defScope sRight) := ⟨rfl, rfl, rfl, by decide +kernel, rfl, by decide +kernel, by decide +kernel⟩
def spRight (K : PySem.W.Frag) : Sp := fun vs H Q _ => ∃ (pl tv v : V) (b : Bool) (R B : Nat) (ds : List Door) (d : PyData), vs = [pl, tv, v, .bl b] ∧ Dq K H pl (planD R B ds) ∧ Dq K H tv (.list ((toldL R B ds).map toldD)) ∧ Dq K H v d ∧ Tm 900 10 d ∧ PlanOk R B ds ∧
  ∀ H', Same H H' → Q (.bl true) H'
theorem ok_right {f : Addr} {fd : FuncData} (F : Fun K "_law_is_right" "_law_is_right" sRight f fd) (C_ce : HasK P w K mg base CX0 4 "counts_error" "plan" "value" (spCountsError K)) (C_due : Has P w K mg base CX0 3 "_law_due" pDue (spDue K))
    (C_heard : Has P w K mg base CX0 6 "_law_heard" pHeard (spHeard K)) (m_repr : mg "repr" = none) (m_max : mg "max" = none) :
    FnG P w K mg base 7 f fd pRight (spRight K) := by
  refine FnG.mk' F scRight (fun vs H Q E h => ?_) (fun cdv A outer s H vs Q E hgu hr h => ?_)
  · obtain ⟨pl, tv, v, b, R, B, ds, d, rfl, _⟩ := h
    rfl
  · obtain ⟨pl, tv, v, b, R, B, ds, d, rfl, hp, ht, hd, tm, pok, q⟩ := h
    have nd := scRight.nd
    have hgX : (A.deeper (envOfC "_law_is_right" (defScope sRight) s.heap.objs.size f cdv)).guards = some [] := hgu
    refine ⟨_, (pss_cons 
     (ps_asg (pe_tup (pa_cons (pe_callB (call_repr hgX hr.units) (by rfl) m_repr (by decide +kernel) (pa_cons (pe_lst (pa_cons (pv 0) (pa_cons (pv 2) pa_nil))) pa_nil)) (pa_cons (pe_fn C_due (hr.mono (by decide)) (by rfl) (pa_cons (pv 0) (pa_cons (pv 1) (pa_cons (pv 2) pa_nil)))) pa_nil))) (pg_tup rfl (pgs_cons (pg_name (i := 4) nd rfl (.inl rfl)) (pgs_cons (pg_tup rfl (pgs_cons (pg_name (i := 5) nd rfl (.inl rfl)) (pgs_cons (pg_name (i := 6) nd rfl (.inl rfl)) pgs_nil))) pgs_nil)))) 
    (pss_cons 
     (ps_set (i := 7) nd rfl (.inl rfl) (pe_ifExp (pt_val (pv 3)) (pe_swap C_ce (hr.mono (by decide)) (by rfl) passAt0 (pk_cons (pv 2) (pk_cons (pv 0) pk_nil))) (pe_fn C_ce.has (hr.mono (by decide)) (by rfl) (pa_cons (pv 0) (pa_cons (pv 2) pa_nil))))) 
    (pss_cons 
     (ps_if (pt_cmpR op_ne (pe_callB (call_repr hgX hr.units) (by rfl) m_repr (by decide +kernel) (pa_cons (pv 7) pa_nil)) (pe_callB (call_repr hgX hr.units) (by rfl) m_repr (by decide +kernel) (pa_cons (pv 5) pa_nil)) (nomark _))
       (pss_one 
        (ps_ret pe_bl)) pss_nil) 
    (pss_cons 
     (ps_set (i := 8) nd rfl (.inl rfl) (pe_lst (pa_cons pe_str (pa_cons (pv 6) pa_nil)))) 
    (pss_cons 
     (ps_if (pt_cmpR op_notN (pv 5) pe_non (nomark _))
       (pss_one 
        (ps_set (i := 8) nd rfl (.inl rfl) (pe_lst (pa_cons pe_str (pa_cons (pv 5) (pa_cons pe_bl pa_nil))))))
       (pss_one 
        (ps_if (pt_cmpR op_gt (pe_callB (cr_maxT rfl) (by rfl) m_max (by decide +kernel) (pa_cons (pv 6) pa_nil)) (pe_op op_pow pe_int pe_int) (nomark _))
          (pss_one 
           (ps_set (i := 8) nd rfl (.inl rfl) (pe_lst (pa_cons pe_str (pa_cons (pe_op op_pow pe_int pe_int) (pa_cons pe_bl pa_nil)))))) pss_nil))) 
    (pss_one 
     (ps_ret (pe_and (pe_cmpR op_eq (pe_callB (call_repr hgX hr.units) (by rfl) m_repr (by decide +kernel) (pa_cons (pe_fn C_heard (hr.mono (by decide)) (by rfl) (pa_cons (pv 0) (pa_cons (pv 2) (pa_cons (pv 3) pa_nil)))) pa_nil)) (pe_callB (call_repr hgX hr.units) (by rfl) m_repr (by decide +kernel) (pa_cons (pv 8) pa_nil)) (nomark _)) (pe_one (pe_cmpR op_eq (pe_callB (call_repr hgX hr.units) (by rfl) m_repr (by decide +kernel) (pa_cons (pe_lst (pa_cons (pv 0) (pa_cons (pv 2) pa_nil))) pa_nil)) (pv 4) (nomark _))))))))))), ?_⟩
    have e30 : (10 : Int) ^ (30 : Int).toNat = big := by decide
    have hz : nodes d ≤ 1000 := Nat.le_trans tm.we (by decide)
    have tmL : Tm 932 11 (.list [planD R B ds, d]) := (Tm.lst (.cons ((tm_plan pok).mono (Nat.le_refl _) (by omega)) (.cons tm (TmA.nil.mono (Nat.le_refl _) (by omega))))).mono (by omega) (Nat.le_refl _)
    have shL : Shows (.list [planD R B ds, d]) := tmL.shows (by decide) (by decide) fun _ z => by cases z
    refine ⟨_, rfl, _, rfl, (by show 2 ≤ sizeLine; decide), fun p0 n0 => ?_⟩
    have S0 : Same H (upd H p0 (.lst [pl, v])) := same_new n0
    refine ⟨_, _, rfl, .newL (.cons hp (.cons hd .nil)) n0, shL, ?_⟩
    refine ⟨_, rfl, _, rfl, _, rfl, pl, tv, v, R, B, ds, d, rfl, hp.to S0, ht.to S0, hd.to S0, hz, pok, fun f0 t0 H1 u D1 S1' hu => ?_⟩
    have S1 := S0.trans S1'
    obtain ⟨pt, fv, tvv, rfl, hpt, hfv, htv⟩ := pair_inv hu
    have F0 : Fault R B ds d f0 := by
      cases D1 with
      | fault F0 _ => exact F0
      | none e G N => exact e ▸ .none G N
    have sh0 : Shows f0 := (tm_fault pok F0).1.shows (by decide) (by decide) (tm_fault pok F0).2
    refine ⟨(by show 2 ≤ sizeLine; decide), fun pq nq => ?_⟩
    have Sq := same_new (o := .tup [.str (PyData.list [planD R B ds, d]).shown, .ref pt]) nq
    have S2 := S1.trans Sq
    refine ⟨pq, _, rfl, .inl (.inl upd_same), rfl, _, _, rfl, _, _, rfl, pt, _, rfl, seqT_same Sq hpt, rfl, _, _, rfl, _, _, rfl, rfl, rfl, ?_⟩
    refine ⟨.bl b, rfl, b, rfl, both_ite (S := spCountsError K [pl, v] (upd H1 pq (.tup [.str (PyData.list [planD R B ds, d]).shown, .ref pt])) _ E0) ?_ (fun s => ⟨v, rfl, pl, rfl, v, pl, rfl, s⟩) (fun s => ⟨pl, rfl, v, rfl, s⟩)⟩
    refine ⟨pl, v, R, B, ds, d, rfl, hp.to S2, hd.to S2, hz, pok, fun f1 H3 u1 F1 S3' hu1 => ?_⟩
    obtain rfl : f0 = f1 := F0.det F1
    have S3 := S2.trans S3'
    have hfv3 := hfv.to (Sq.trans S3')
    have htv3 := htv.to (Sq.trans S3')
    refine ⟨u1, rfl, u1, f0, rfl, hu1, sh0, fv, rfl, fv, f0, rfl, hfv3, sh0, rfl, _, rfl, iteNS rfl ?_⟩
    refine ⟨tvv, rfl, (by show 2 ≤ sizeLine; decide), fun pd npd => ?_⟩
    have S4 := S3.trans (same_new (o := .lst [.str "told", tvv]) npd)
    have hfv4 := hfv3.to (same_new (o := .lst [.str "told", tvv]) npd)
    have htv4 := htv3.to (same_new (o := .lst [.str "told", tvv]) npd)
    refine ⟨fv, rfl, rfl, _, rfl, ?_⟩
    cases D1 with
    | fault F0' ne =>
      have hn : fv ≠ .non := fun z => by
        rw [z] at hfv
        cases hfv
        exact ne rfl
      rw [decide_eq_false hn]
      refine iteT ⟨fv, rfl, (by show 3 ≤ sizeLine; decide), fun pe npe => ?_⟩
      have S5 := same_next S4 npe (o := .lst [.str "bad", fv, .bl true])
      have hL : Dq K (upd (upd H3 pd (.lst [.str "told", tvv])) pe (.lst [.str "bad", fv, .bl true])) (.ref pe) (.list [.str "bad", f0, .bool true]) := .newL (.cons (.str _) (.cons hfv4 (.cons (.bl _) .nil))) npe
      have DL := due_fault pok F0 ne
      cases DL with
      | mk hdet tmg ndg =>
        have shg := tmg.shows (by decide) (by decide) ndg
        refine ⟨_, rfl, _, rfl, _, rfl, pl, v, b, R, B, ds, d, rfl, hp.to S5, hd.to S5, hz, pok, fun g H6 u6 Hg S6' hu6 => ?_⟩
        obtain rfl := hdet g Hg
        have S6 := S5.trans S6'
        refine ⟨u6, _, rfl, hu6, shg, _, rfl, _, _, rfl, hL.to S6', shg, rfl, _, rfl, ?_⟩
        refine ite2 (fun _ => ?_) (fun z => absurd (decide_eq_true rfl) z)
        refine ⟨_, rfl, _, rfl, (by show 2 ≤ sizeLine; decide), fun p7 n7 => ?_⟩
        refine ⟨_, _, rfl, .newL (.cons (hp.to S6) (.cons (hd.to S6) .nil)) n7, shL, _, rfl, rfl, ?_⟩
        rw [decide_eq_true rfl]
        exact q _ (same_next S6 n7)
    | none e G N =>
      have hn : fv = .non := by
        cases hfv
        rfl
      rw [hn]
      refine iteF ?_
      obtain ⟨tt, ts, rfl, htt, hts⟩ := Dq.tupI htv4
      rw [dq_ints_inv hts] at htt
      refine ⟨_, rfl, tt, tallyL R B ds _, rfl, htt, (tally_len G pok).2, fun m hm hle => ?_⟩
      refine ⟨_, _, rfl, rfl, ⟨by decide, by decide, by decide⟩, _, _, rfl, rfl, _, rfl, ite2 (fun em => ?_) (fun em => ?_)⟩
      · have gm : big < m := by
          have := of_decide_eq_true em
          rw [e30] at this
          exact this
        refine ⟨_, _, rfl, rfl, ⟨by decide, by decide, by decide⟩, (by show 3 ≤ sizeLine; decide), fun pe npe => ?_⟩
        have S5 := same_next S4 npe (o := .lst [.str "many", .int (10 ^ (30 : Int).toNat), .bl true])
        have hL : Dq K (upd (upd H3 pd (.lst [.str "told", .ref tt])) pe (.lst [.str "many", .int (10 ^ (30 : Int).toNat), .bl true])) (.ref pe) (.list [.str "many", .int big, .bool true]) := by
          refine .newL (.cons (.str _) (.cons ?_ (.cons (.bl _) .nil))) npe
          rw [e30]
          exact .int _
        have DL := due_many pok e G N ⟨m, hm, gm⟩
        cases DL with
        | mk hdet tmg ndg =>
          have shg := tmg.shows (by decide) (by decide) ndg
          refine ⟨_, rfl, _, rfl, _, rfl, pl, v, b, R, B, ds, d, rfl, hp.to S5, hd.to S5, hz, pok, fun g H6 u6 Hg S6' hu6 => ?_⟩
          obtain rfl := hdet g Hg
          have S6 := S5.trans S6'
          refine ⟨u6, _, rfl, hu6, shg, _, rfl, _, _, rfl, hL.to S6', shg, rfl, _, rfl, ?_⟩
          refine ite2 (fun _ => ?_) (fun z => absurd (decide_eq_true rfl) z)
          refine ⟨_, rfl, _, rfl, (by show 2 ≤ sizeLine; decide), fun p7 n7 => ?_⟩
          refine ⟨_, _, rfl, .newL (.cons (hp.to S6) (.cons (hd.to S6) .nil)) n7, shL, _, rfl, rfl, ?_⟩
          rw [decide_eq_true rfl]
          exact q _ (same_next S6 n7)
      · have lm : m ≤ big := by
          have : ¬ (10 : Int) ^ (30 : Int).toNat < m := fun z => em (decide_eq_true z)
          rw [e30] at this
          omega
        have S5 := S4
        have hL : Dq K (upd H3 pd (.lst [.str "told", .ref tt])) (.ref pd) (.list [.str "told", .tuple ((tallyL R B ds _).map PyData.int)]) := .newL (.cons (.str _) (.cons htv3 .nil)) npd
        have DL := due_told pok e G N fun y hy => Int.le_trans (hle y hy) lm
        cases DL with
        | mk hdet tmg ndg =>
          have shg := tmg.shows (by decide) (by decide) ndg
          refine ⟨_, rfl, _, rfl, _, rfl, pl, v, b, R, B, ds, d, rfl, hp.to S5, hd.to S5, hz, pok, fun g H6 u6 Hg S6' hu6 => ?_⟩
          obtain rfl := hdet g Hg
          have S6 := S5.trans S6'
          refine ⟨u6, _, rfl, hu6, shg, _, rfl, _, _, rfl, hL.to S6', shg, rfl, _, rfl, ?_⟩
          refine ite2 (fun _ => ?_) (fun z => absurd (decide_eq_true rfl) z)
          refine ⟨_, rfl, _, rfl, (by show 2 ≤ sizeLine; decide), fun p7 n7 => ?_⟩
          refine ⟨_, _, rfl, .newL (.cons (hp.to S6) (.cons (hd.to S6) .nil)) n7, shL, _, rfl, rfl, ?_⟩
          rw [decide_eq_true rfl]
          exact q _ (same_next S6 n7)
end
end K8

namespace K8
open PySem PySem.Spec PyProof.Rows L2

theorem DqAll.putRows {K : PySem.W.Frag} {G : Hp} {L : Addr} {ys zs : List V} (hL : G L = some (.lst ys)) : ∀ {C : List (List Int)} {xs : List V}, DqAll K G xs (C.map rowD) → DqAll K (upd G L (.lst zs)) xs (C.map rowD)
  | [], _, h => by cases h; exact .nil
  | own :: C, _, h => by
    cases h with
    | cons h1 r =>
      obtain ⟨p, rfl, hp⟩ := row_inv h1
      exact .cons (.tup (keepT hL hp fun b o nb e => by rw [upd_ne nb]; exact e) (dq_ints own)) (DqAll.putRows hL r)
section
variable {P : Program} {w : World} {K : PySem.W.Frag} {mg : Str → Option Value} {base : Heap}
/-! ## _law_drawn -/
abbrev sDrawn : Stmt := topS 33
abbrev nDrawn : List Str := ["_law_deck_here", "_law_plan_here", "_law_told", "_law_menu", "_law_counts", "_law_door", "_law_many", "_law_own", "_law_spot"]
abbrev pDrawn : List Str := ["_law_deck_here", "_law_plan_here", "_law_told", "_law_menu"]
theorem scDrawn : FnScope nDrawn pDrawn (defScope sDrawn) := ⟨rfl, rfl, rfl, by decide +kernel, rfl, by decide +kernel, by decide +kernel⟩
def spDrawn (K : PySem.W.Frag) : Sp := fun vs H Q _ => ∃ (d l mp : Addr) (pl tv : V) (R B : Nat) (ds : List Door) (ms : List Int), vs = [.ref d, pl, tv, .ref mp] ∧ Deck H d l ∧ Dq K (hide H d l) pl (planD R B ds) ∧ Dq K (hide H d l) tv (.list ((toldL R B ds).map toldD)) ∧
  SqL K (hide H d l) mp (ms.map V.int) ∧ 1 ≤ ms.length ∧ ms.length ≤ 1000 ∧ (∀ x ∈ ms, 0 ≤ x ∧ x ≤ big) ∧ PlanOk R B ds ∧
  ∀ H' v C, Deck H' d l → Same (hide H d l) (hide H' d l) → Good B ds C → Dq K (hide H' d l) v (countsD C) → Q v H'
theorem ok_drawn {f : Addr} {fd : FuncData} (F : Fun K "_law_drawn" "_law_drawn" sDrawn f fd) (C_pick : Has P w K mg base CX0 2 "_law_pick" ["_law_deck_here", "_law_items"] (spPick K)) (m_range : mg "range" = none) (m_len : mg "len" = none) (m_tuple : mg "tuple" = none) :
    FnOk P w K mg base CX0 3 f fd pDrawn (spDrawn K) := by
  refine F.ok scDrawn (fun vs H Q E h => ?_) (fun cdv A outer s H vs Q E hr h => ?_)
  · obtain ⟨d, l, mp, pl, tv, R, B, ds, ms, rfl, _⟩ := h
    rfl
  · obtain ⟨d, l, mp, pl, tv, R, B, ds, ms, rfl, D0, hp, ht, hm, m1, m2, mb, pok, q⟩ := h
    have nd := scDrawn.nd
    have hu := hu_of hr
    refine ⟨_, (pss_cons 
     (ps_set (i := 4) nd rfl (.inl rfl) (pe_lst pa_nil)) 
    (pss_cons 
     (ps_for PassesOwn.never rfl (pi_range1 (by rfl) m_range (pa_cons (pe_callB call_len_seq (by rfl) m_len PySem.boot_len (pa_cons (pe_ix ix_tup (pv 1) pe_int (fun _ _ => rfl)) pa_nil)) pa_nil)) (pg_name (i := 5) nd rfl (.inr rfl))
       (pss_cons 
        (ps_set (i := 6) nd rfl (.inl rfl) (pe_callB call_len_seq (by rfl) m_len PySem.boot_len (pa_cons (pe_lc (own := [("_law_own", 7)]) (g := gName 7) rfl nd (pi_list (pv 2)) (blkOk_by (N := nDrawn) (sc := defScope sDrawn) (by decide +kernel))
          (fun _ _ _ _ _ => pg_name (i := 7) nd rfl (.inl rfl) (.inr rfl))
          (fun _ _ _ _ _ => pts_one (PW.pt (pw_and (pt_cmpR op_eq (pe_ix (ix_tupK (K := K) rfl) (pv 7) pe_int (fun _ _ => rfl)) pe_str (nomark _)) (pw_and1 (pt_cmpR op_eq (pe_ix (ix_tupK (K := K) rfl) (pv 7) pe_int (fun _ _ => rfl)) (pv 5) (nomark _))))))
          (fun _ _ _ _ _ => pv 7)) pa_nil))) 
       (pss_cons 
        (ps_set (i := 7) nd rfl (.inr rfl) (pe_ifExp (pt_cmpR op_eq (pe_ix ix_tup (pe_ix ix_tup (pe_ix ix_tup (pv 1) pe_int (fun _ _ => rfl)) (pv 5) (fun _ _ => rfl)) pe_int (fun _ _ => rfl)) (pe_un un_neg pe_int) (nomark _)) (pv 3) (pe_lst (pa_cons pe_int (pa_cons pe_int (pa_cons pe_int (pa_cons pe_int (pa_cons pe_int pa_nil)))))))) 
       (pss_one 
        (ps_expr (pe_bm PySem.F.plainAttrs_list PySem.F.slot_list_append PySem.F.type_list_append mt_append (pv 4) (pa_cons (pe_callTy call_tuple_of (by rfl) m_tuple (by decide +kernel) (pa_cons (pe_lc (own := [("_law_spot", 8)]) (g := gName 8) (tt := tYes) rfl nd (pi_range1 (by rfl) m_range (pa_cons (pv 6) pa_nil)) (blkOk_by (N := nDrawn) (sc := defScope sDrawn) (by decide +kernel))
          (fun _ _ _ _ _ => pg_name (i := 8) nd rfl (.inl rfl) (.inr rfl)) (fun _ _ _ _ _ => pts_nil) (fun _ _ _ _ _ => pe_fn C_pick (hr.mono (by decide)) (by rfl) (pa_cons (pv 0) (pa_cons (pv 7) pa_nil)))) pa_nil)) pa_nil))))))) 
    (pss_one 
     (ps_ret (pe_callTy call_tuple_of (by rfl) m_tuple (by decide +kernel) (pa_cons (pv 4) pa_nil)))))), ?_⟩
    obtain ⟨p1, p2, xs, rfl, h1, h2, hx⟩ := plan_inv hp
    obtain ⟨tp, tvs, rfl, htp, htv⟩ := Dq.lstI ht
    obtain ⟨r1, r2, b1, b2, d1, d2, okd⟩ := id pok
    have lx : xs.length = ds.length := by
      rw [hx.len, List.length_map]
    have lt : tvs.length = (toldL R B ds).length := by
      rw [htv.len, List.length_map]
    have l66 := told_len pok
    refine ⟨by decide, fun L nL => ?_⟩
    obtain ⟨Ld, Ll⟩ := D0.off nL
    have S0 : Same (hide H d l) (hide (upd H L (.lst [])) d l) := hide_new nL
    refine ⟨_, rfl, p1, _, 2, _, rfl, rfl, seqT_same hide_same (seqT_same S0 h1), atI_nat (j := 2) rfl, p2, _, rfl, .inr (seqT_same hide_same (seqT_same S0 h2)), (xs.length : Int), rfl, by omega, by omega, ?_⟩
    refine for_it walk_range0 (fun i σ H' => ∃ y5 y6 y7 ys C, σ = [some (.ref d), some (.ref p1), some (.ref tp), some (.ref mp), some (.ref L), y5, y6, y7, none] ∧ Deck H' d l ∧ Same (hide H d l) (hide H' d l) ∧ H' L = some (.lst ys) ∧
        DqAll K (hide H' d l) ys (C.map rowD) ∧ C.length = i ∧ ∀ (j : Nat) (own : List Int) (dr : Door), C[j]? = some own → ds[j]? = some dr → own.length = nb B dr ∧ ∀ x ∈ own, 0 ≤ x ∧ x ≤ big)
      ⟨none, none, none, [], [], rfl, D0.set Ld Ll, S0, upd_same, .nil, rfl, fun j own dr e _ => by simp at e⟩ (fun _ _ _ _ _ => trivial) ?_ ?_
    · rintro n v σ H0 H1 hn0 ⟨y5, y6, y7, ys, C, rfl, D1, S1, hL1, rows1, lC, gd⟩ ⟨rfl, rfl⟩
      have hn : n < ds.length := by omega
      have edr : ds[n]? = some ds[n] := List.getElem?_eq_getElem hn
      obtain ⟨x, ex, hdr⟩ := hx.at (i := n) (d := doorD ds[n]) (by rw [List.getElem?_map, edr]; rfl)
      obtain ⟨dp, rfl, hdp⟩ := door_inv hdr
      have lys : ys.length = C.length := by
        rw [rows1.len, List.length_map]
      have htp1 := hide_same.seq (S1.seq htp)
      refine ⟨_, rfl, tp, rfl, ⟨_, htp1⟩, fun DD nDD => ?_⟩
      refine lc_it (walk_list (xs := tvs)) (fun i H' => Same H1 H' ∧ ∃ acc, H' DD = some (.lst acc) ∧ acc.length = (((toldL R B ds).take i).filterMap (atDoor n)).length)
        ⟨same_new nDD, [], by rw [upd_same], rfl⟩ (fun i H' _ hP => hP.1.seq htp1) ?_ ?_
      · rintro i1 x1 H6 H7 hi1 ⟨hS6, acc, hL6, lacc⟩ ⟨rfl, hx1⟩
        obtain ⟨T1, eT1, hT1⟩ := htv.atM hx1
        obtain ⟨op1, rfl, hop1⟩ := told_inv hT1
        have hop7 := seqT_same hS6 (seqT_same hide_same (seqT_same S1 hop1))
        have sz : acc.length ≤ 1000 := by
          rw [lacc]
          refine Nat.le_trans (List.length_filterMap_le _ _) ?_
          rw [List.length_take]
          omega
        have et : ((toldL R B ds).take (i1 + 1)).filterMap (atDoor n) = ((toldL R B ds).take i1).filterMap (atDoor n) ++ (atDoor n T1).toList := by
          rw [take_succ eT1, List.filterMap_append]
          congr 1
        refine ⟨rfl, ?_⟩
        cases T1 with
        | wait r1' b1' =>
          refine ⟨_, rfl, op1, _, 0, .str "wait", rfl, rfl, hop7, atI_nat (j := 0) rfl, rfl, _, rfl, ite2 (fun e => absurd e (by decide +kernel)) (fun _ => iteF ⟨hS6, acc, hL6, ?_⟩)⟩
          rw [et]
          simpa [atDoor] using lacc
        | stay r1' b1' =>
          refine ⟨_, rfl, op1, _, 0, .str "stay", rfl, rfl, hop7, atI_nat (j := 0) rfl, rfl, _, rfl, ite2 (fun e => absurd e (by decide +kernel)) (fun _ => iteF ⟨hS6, acc, hL6, ?_⟩)⟩
          rw [et]
          simpa [atDoor] using lacc
        | door n1 b1' =>
          refine ⟨_, rfl, op1, _, 0, .str "door", rfl, rfl, hop7, atI_nat (j := 0) rfl, rfl, _, rfl, ite2 (fun _ => ?_) (fun e => absurd (decide_eq_true rfl) e)⟩
          refine ⟨_, rfl, op1, _, 1, .int n1, rfl, rfl, hop7, atI_nat (j := 1) rfl, _, rfl, rfl, _, rfl, ite2 (fun e => ?_) (fun e => ?_)⟩
          · have en : n1 = n := by
              have := V.int.inj (of_decide_eq_true e)
              omega
            refine ⟨_, rfl, acc, hL6, small1000 sz, same_put hS6 nDD, _, upd_same, ?_⟩
            rw [et]
            simp [atDoor, en, lacc]
          · have en : ¬ n1 = n := fun y => e (decide_eq_true (by rw [y]))
            refine ⟨hS6, acc, hL6, ?_⟩
            rw [et]
            simpa [atDoor, en] using lacc
      · rintro H6 ⟨hS6, acc, hDD, lacc⟩
        rw [List.take_of_length_le (by omega), at_told edr, List.length_range] at lacc
        have D6 := D1.same hS6
        have S16 : Same (hide H1 d l) (hide H6 d l) := hide_mono hS6
        have S6 := S1.trans S16
        have hL6 := hS6 _ _ hL1
        have rows6 := rows1.to S16
        have nb6 : nb B ds[n] ≤ 6 := by
          unfold nb
          omega
        refine ⟨DD, acc, rfl, .inl (.inl (.inl hDD)), ?_⟩
        refine ⟨_, rfl, p1, _, 2, _, rfl, rfl, seqT_same hide_same (seqT_same S6 h1), atI_nat (j := 2) rfl, _, rfl, p2, _, _, _, rfl, rfl, seqT_same hide_same (seqT_same S6 h2), atI_nat ex, dp, _, 0, .int ds[n].one, rfl, rfl, seqT_same hide_same (seqT_same S6 hdp), atI_nat (j := 0) rfl, 1, rfl, rfl, _, rfl, ite2 (fun e => ?_) (fun e => ?_)⟩
        · obtain ⟨its, eits⟩ : ∃ its, its = ms := ⟨_, rfl⟩
          have hm6 : SqL K (hide H6 d l) mp (its.map V.int) := eits ▸ S6.seq hm
          have it1 : 1 ≤ its.length := eits ▸ m1
          have it2 : its.length ≤ 1000 := eits ▸ m2
          have itb : ∀ x ∈ its, 0 ≤ x ∧ x ≤ big := eits ▸ mb
          refine ⟨_, rfl, ?_⟩
          refine ⟨_, rfl, .inl ⟨rfl, _, .inl (.inl hL6)⟩, _, rfl, (acc.length : Int), rfl, by omega, by omega, fun D2 nD2 => ?_⟩
          obtain ⟨D2d, D2l⟩ := D6.off nD2
          refine lc_it walk_range0 (fun k H' => Deck H' d l ∧ Same (hide (H6) d l) (hide H' d l) ∧ ∃ zs : List Int, H' D2 = some (.lst (zs.map V.int)) ∧ zs.length = k ∧ ∀ z ∈ zs, 0 ≤ z ∧ z ≤ big)
            ⟨D6.set D2d D2l, hide_new nD2, [], upd_same, rfl, fun _ z => nomatch z⟩ (fun _ _ _ _ => trivial) ?_ ?_
          · rintro k v H7 H8 hk ⟨D7, S7, zs, hz7, lz, bz⟩ ⟨rfl, rfl⟩
            refine ⟨rfl, _, rfl, _, rfl, d, l, mp, its.map V.int, rfl, D7, S7.seq hm6, by rw [List.length_map]; exact it1, by rw [List.length_map]; exact it2, fun H9 x D9 S9 hx9 => ?_⟩
            obtain ⟨z, hz, rfl⟩ := List.mem_map.mp hx9
            have h9 := hide_get S9 D2d D2l hz7
            refine ⟨_, h9, small1000 (by rw [List.length_map]; omega), D9.set D2d D2l, hide_set (S7.trans S9) nD2, zs ++ [z], by rw [upd_same, List.map_append]; rfl, by rw [List.length_append, lz]; rfl, fun y hy => ?_⟩
            rcases List.mem_append.mp hy with e | e
            · exact bz y e
            · rw [List.mem_singleton.mp e]
              exact itb z hz
          · rintro H7 ⟨D7, S7, zs, hz7, lz, bz⟩
            refine ⟨D2, _, rfl, .inl ⟨.inl (.inl hz7), fun t nt => ?_⟩⟩
            obtain ⟨td, tl⟩ := D7.off nt
            have hL7 := hide_get S7 Ld Ll hL6
            have St : Same (hide H7 d l) (hide (upd H7 t (.tup (zs.map V.int))) d l) := hide_new nt
            have tL : t ≠ L := (ne_of_none hL7 nt).symm
            refine ⟨L, ys, .ref t, rfl, rfl, (upd_ne tL.symm).trans hL7, small1000 (by omega), ?_⟩
            refine ⟨_, _, _, (ys ++ [V.ref t] : List V), C ++ [zs], rfl, (D7.set td tl).set Ld Ll, hide_set ((S6.trans S7).trans St) nL, upd_same, ?_, by rw [List.length_append, lC]; rfl, fun j own dr' e1 e2 => ?_⟩
            · rw [hide_upd Ld Ll, List.map_append]
              refine DqAll.app (DqAll.putRows (ys := ys) (by rw [hide_eq Ld Ll, upd_ne tL.symm]; exact hL7) (rows6.to (S7.trans St))) (.cons (.tup (.inl (.inl ?_)) (dq_ints zs)) .nil)
              rw [upd_ne tL, hide_eq td tl, upd_same]
            · by_cases ej : j < C.length
              · rw [List.getElem?_append_left ej] at e1
                exact gd j own dr' e1 e2
              · rw [List.getElem?_append_right (by omega)] at e1
                have e0 : j - C.length = 0 := by
                  have := (List.getElem?_eq_some_iff.mp e1).1
                  simp only [List.length_singleton] at this
                  omega
                rw [e0] at e1
                obtain rfl : zs = own := by simpa using e1
                have ej2 : j = n := by omega
                rw [ej2] at e2
                obtain rfl := Option.some.inj (e2.symm.trans edr)
                exact ⟨by omega, bz⟩
        · refine ⟨by decide, fun np nnp => ?_⟩
          obtain ⟨npd, npl⟩ := D6.off nnp
          have Sn : Same H6 (upd H6 np (.lst [.int 0, .int 0, .int 0, .int 1, .int 2])) := same_new nnp
          have hm6 : SqL K (hide (upd H6 np (.lst [.int 0, .int 0, .int 0, .int 1, .int 2])) d l) np (([0, 0, 0, 1, 2] : List Int).map V.int) := .inl (.inl (by rw [hide_eq npd npl, upd_same]; rfl))
          obtain ⟨its, eits⟩ : ∃ its : List Int, its = [0, 0, 0, 1, 2] := ⟨_, rfl⟩
          rw [← eits] at hm6
          have it1 : 1 ≤ its.length := by
            rw [eits]
            decide
          have it2 : its.length ≤ 1000 := by
            rw [eits]
            decide
          have itb : ∀ x ∈ its, 0 ≤ x ∧ x ≤ big := by
            rw [eits]
            decide
          have D6 := D6.same Sn
          have S6 := S6.trans (hide_mono Sn)
          have hL6 := Sn _ _ hL6
          have rows6 := rows6.to (hide_mono (d := d) (l := l) Sn)
          refine ⟨_, rfl, .inl ⟨rfl, _, .inl (.inl hL6)⟩, _, rfl, (acc.length : Int), rfl, by omega, by omega, fun D2 nD2 => ?_⟩
          obtain ⟨D2d, D2l⟩ := D6.off nD2
          refine lc_it walk_range0 (fun k H' => Deck H' d l ∧ Same (hide (upd H6 np (.lst [.int 0, .int 0, .int 0, .int 1, .int 2])) d l) (hide H' d l) ∧ ∃ zs : List Int, H' D2 = some (.lst (zs.map V.int)) ∧ zs.length = k ∧ ∀ z ∈ zs, 0 ≤ z ∧ z ≤ big)
            ⟨D6.set D2d D2l, hide_new nD2, [], upd_same, rfl, fun _ z => nomatch z⟩ (fun _ _ _ _ => trivial) ?_ ?_
          · rintro k v H7 H8 hk ⟨D7, S7, zs, hz7, lz, bz⟩ ⟨rfl, rfl⟩
            refine ⟨rfl, _, rfl, _, rfl, d, l, np, its.map V.int, rfl, D7, S7.seq hm6, by rw [List.length_map]; exact it1, by rw [List.length_map]; exact it2, fun H9 x D9 S9 hx9 => ?_⟩
            obtain ⟨z, hz, rfl⟩ := List.mem_map.mp hx9
            have h9 := hide_get S9 D2d D2l hz7
            refine ⟨_, h9, small1000 (by rw [List.length_map]; omega), D9.set D2d D2l, hide_set (S7.trans S9) nD2, zs ++ [z], by rw [upd_same, List.map_append]; rfl, by rw [List.length_append, lz]; rfl, fun y hy => ?_⟩
            rcases List.mem_append.mp hy with e | e
            · exact bz y e
            · rw [List.mem_singleton.mp e]
              exact itb z hz
          · rintro H7 ⟨D7, S7, zs, hz7, lz, bz⟩
            refine ⟨D2, _, rfl, .inl ⟨.inl (.inl hz7), fun t nt => ?_⟩⟩
            obtain ⟨td, tl⟩ := D7.off nt
            have hL7 := hide_get S7 Ld Ll hL6
            have St : Same (hide H7 d l) (hide (upd H7 t (.tup (zs.map V.int))) d l) := hide_new nt
            have tL : t ≠ L := (ne_of_none hL7 nt).symm
            refine ⟨L, ys, .ref t, rfl, rfl, (upd_ne tL.symm).trans hL7, small1000 (by omega), ?_⟩
            refine ⟨_, _, _, (ys ++ [V.ref t] : List V), C ++ [zs], rfl, (D7.set td tl).set Ld Ll, hide_set ((S6.trans S7).trans St) nL, upd_same, ?_, by rw [List.length_append, lC]; rfl, fun j own dr' e1 e2 => ?_⟩
            · rw [hide_upd Ld Ll, List.map_append]
              refine DqAll.app (DqAll.putRows (ys := ys) (by rw [hide_eq Ld Ll, upd_ne tL.symm]; exact hL7) (rows6.to (S7.trans St))) (.cons (.tup (.inl (.inl ?_)) (dq_ints zs)) .nil)
              rw [upd_ne tL, hide_eq td tl, upd_same]
            · by_cases ej : j < C.length
              · rw [List.getElem?_append_left ej] at e1
                exact gd j own dr' e1 e2
              · rw [List.getElem?_append_right (by omega)] at e1
                have e0 : j - C.length = 0 := by
                  have := (List.getElem?_eq_some_iff.mp e1).1
                  simp only [List.length_singleton] at this
                  omega
                rw [e0] at e1
                obtain rfl : zs = own := by simpa using e1
                have ej2 : j = n := by omega
                rw [ej2] at e2
                obtain rfl := Option.some.inj (e2.symm.trans edr)
                exact ⟨by omega, bz⟩
    · rintro σ H1 ⟨y5, y6, y7, ys, C, rfl, D1, S1, hL1, rows1, lC, gd⟩
      refine ⟨_, rfl, L, ys, rfl, .inl ⟨.inl (.inl hL1), fun u nu => ?_⟩⟩
      obtain ⟨ud, ul⟩ := D1.off nu
      refine q _ (.ref u) C (D1.set ud ul) (S1.trans (hide_new nu)) ⟨by omega, gd⟩ ?_
      rw [hide_upd ud ul]
      exact .newT rows1 (hide_none nu)
end
end K8

namespace K8
open PySem PySem.Spec PyProof.Rows L2

/-! ## tuples cut and put together beside the deck -/
def cutD (ds : List PyData) (lo hi : Option Int) : List PyData := (ds.drop (HT.sIx ds.length 0 lo)).take (HT.sIx ds.length ds.length hi - HT.sIx ds.length 0 lo)
theorem new_tup {K : PySem.W.Frag} {H : Hp} {d l p : Addr} {vs : List V} {ds : List PyData} (D : Deck H d l) (n : H p = none) (h : DqAll K (hide H d l) vs ds) : Dq K (hide (upd H p (.tup vs)) d l) (.ref p) (.tuple ds) := by
  obtain ⟨pd, pl⟩ := D.off n
  rw [hide_upd pd pl]
  exact .newT h (hide_none n)
theorem new_lst {K : PySem.W.Frag} {H : Hp} {d l p : Addr} {vs : List V} {ds : List PyData} (D : Deck H d l) (n : H p = none) (h : DqAll K (hide H d l) vs ds) : Dq K (hide (upd H p (.lst vs)) d l) (.ref p) (.list ds) := by
  obtain ⟨pd, pl⟩ := D.off n
  rw [hide_upd pd pl]
  exact .newL h (hide_none n)
theorem new_dic {K : PySem.W.Frag} {H : Hp} {d l p : Addr} (D : Deck H d l) (n : H p = none) : Dq K (hide (upd H p (.dK [])) d l) (.ref p) (.dict []) := by
  obtain ⟨pd, pl⟩ := D.off n
  refine .dic ?_
  rw [hide_eq pd pl, upd_same]
theorem Deck.new {H : Hp} {d l p : Addr} {o : HO} (D : Deck H d l) (n : H p = none) : Deck (upd H p o) d l := by
  obtain ⟨pd, pl⟩ := D.off n
  exact D.set pd pl
def rCutH (K : PySem.W.Frag) : V → Option Int → Option Int → Hp → VK → Prop := fun x lo hi H Q => ∃ (d l : Addr) (ds : List PyData), Deck H d l ∧ Dq K (hide H d l) x (.tuple ds) ∧
  ∀ v H', Deck H' d l → Same (hide H d l) (hide H' d l) → Dq K (hide H' d l) v (.tuple (cutD ds lo hi)) → Q v H'
theorem sl_tupH {X : Cx} : SlR X (rCutH X.K) := by
  intro pins s σ H x v vl vu lo hi sl Q I rx hs pl pu h
  obtain ⟨d, l, ds, D, hx, q⟩ := h
  obtain ⟨a, xs, rfl, ha, hxs⟩ := Dq.tupI hx
  have len := hxs.len
  refine sl_tupA pins s σ H _ v vl vu lo hi sl Q I rx hs pl pu ⟨a, xs, rfl, seqT_same hide_same ha, fun w => ?_, fun _ p np => ?_⟩
  · refine q _ H D (Same.refl _) ?_
    have e : cutD ds lo hi = ds := by
      unfold cutD
      rw [← len, w.1, w.2, List.drop_zero, Nat.sub_zero, len, List.take_length]
    rw [e]
    exact hx
  · refine q _ _ (D.new np) (hide_new np) (new_tup D np ?_)
    unfold cutV cutD
    rw [← len]
    exact (hxs.drop _).take _
def rCatH (K : PySem.W.Frag) : R2 := fun x y H Q => ∃ (d l : Addr) (ds es : List PyData), Deck H d l ∧ Dq K (hide H d l) x (.tuple ds) ∧ Dq K (hide H d l) y (.tuple es) ∧ ds.length + es.length ≤ 1000 ∧
  ∀ v H', Deck H' d l → Same (hide H d l) (hide H' d l) → Dq K (hide H' d l) v (.tuple (ds ++ es)) → Q v H'
theorem op_catH {X : Cx} : OpR X (binaryOp .Add) (rCatH X.K) := by
  intro pins s σ H x y v u Q I rx ry h
  obtain ⟨d, l, ds, es, D, hx, hy, hz, q⟩ := h
  obtain ⟨a, xs, rfl, ha, hxs⟩ := Dq.tupI hx
  obtain ⟨b, ys, rfl, hb, hys⟩ := Dq.tupI hy
  have l1 := hxs.len
  have l2 := hys.len
  refine op_catA pins s σ H _ _ v u Q I rx ry ⟨a, b, xs, ys, rfl, rfl, seqT_same hide_same ha, seqT_same hide_same hb, Nat.le_of_lt (small1000 (by omega)), fun e => ?_, fun _ e => ?_, fun _ _ p np => ?_⟩
  · refine q _ H D (Same.refl _) ?_
    have e' : ds = [] := by
      rw [e] at l1
      exact List.eq_nil_of_length_eq_zero (by simpa using l1.symm)
    rw [e', List.nil_append]
    exact hy
  · refine q _ H D (Same.refl _) ?_
    have e' : es = [] := by
      rw [e] at l2
      exact List.eq_nil_of_length_eq_zero (by simpa using l2.symm)
    rw [e', List.append_nil]
    exact hx
  · exact q _ _ (D.new np) (hide_new np) (new_tup D np (hxs.app hys))
/-! ## how much data: item by item -/
structure TmE (n k : Nat) (ds : List PyData) : Prop where
  each : ∀ d ∈ ds, Tm (nodes d) k d
  we : nodesAll ds ≤ n
theorem nodesAll_app : ∀ xs ys : List PyData, nodesAll (xs ++ ys) = nodesAll xs + nodesAll ys
  | [], ys => by simp [nodesAll]
  | x :: xs, ys => by simp only [List.cons_append, nodesAll, nodesAll_app xs ys]; omega
theorem Tm.self {n k : Nat} {d : PyData} (h : Tm n k d) : Tm (nodes d) k d := ⟨h.ls, h.sh, Nat.le_refl _, h.de⟩
theorem TmE.mono {n k n' k' : Nat} {ds : List PyData} (h : TmE n k ds) (h1 : n ≤ n') (h2 : k ≤ k') : TmE n' k' ds := ⟨fun d hd => (h.each d hd).mono (Nat.le_refl _) h2, Nat.le_trans h.we h1⟩
theorem TmE.app {n m k : Nat} {xs ys : List PyData} (h : TmE n k xs) (r : TmE m k ys) : TmE (n + m) k (xs ++ ys) := ⟨fun d hd => (List.mem_append.mp hd).elim (h.each d) (r.each d), by
  have := h.we
  have := r.we
  rw [nodesAll_app]
  omega⟩
theorem TmE.one {n k : Nat} {d : PyData} (h : Tm n k d) : TmE n k [d] := ⟨fun x hx => by rw [List.mem_singleton.mp hx]; exact h.self, by simpa [nodesAll] using h.we⟩
theorem TmE.nil {k : Nat} : TmE 0 k [] := ⟨(fun _ h => nomatch h), by simp [nodesAll]⟩
theorem TmE.cut {n k : Nat} {ds : List PyData} (h : TmE n k ds) (lo hi : Option Int) : TmE n k (cutD ds lo hi) := by
  unfold cutD
  generalize HT.sIx ds.length 0 lo = a
  generalize HT.sIx ds.length ds.length hi - a = b
  refine ⟨fun d hd => h.each d (List.mem_of_mem_drop (List.mem_of_mem_take hd)), Nat.le_trans ?_ h.we⟩
  have e1 := nodesAll_app (ds.take a) (ds.drop a)
  rw [List.take_append_drop] at e1
  have e2 := nodesAll_app ((ds.drop a).take b) ((ds.drop a).drop b)
  rw [List.take_append_drop] at e2
  omega
theorem TmE.all {n k : Nat} {ds : List PyData} (h : TmE n k ds) : TmA n k ds := (TmA.of h.each).mono h.we (Nat.le_refl _)
theorem TmE.tup {n k : Nat} {ds : List PyData} (h : TmE n k ds) : Tm (n + 1) (k + 1) (.tuple ds) := Tm.tup h.all
theorem TmE.lst {n k : Nat} {ds : List PyData} (h : TmE n k ds) : Tm (n + 1) (k + 1) (.list ds) := Tm.lst h.all
theorem TmE.len {n k : Nat} {ds : List PyData} (h : TmE n k ds) : ds.length ≤ n := Nat.le_trans (len_nodes ds) h.we
theorem TmE.ints {ns : List Int} (h : ∀ x ∈ ns, x.natAbs < 10 ^ 71) : TmE ns.length 0 (ns.map PyData.int) := ⟨fun d hd => by
  obtain ⟨x, hx, rfl⟩ := List.mem_map.mp hd
  exact (Tm.int (h x hx)).self, (TmA.ints h).we⟩
theorem tm_rows : ∀ {C : List (List Int)}, (∀ own ∈ C, own.length ≤ 6 ∧ ∀ x ∈ own, 0 ≤ x ∧ x ≤ big) → TmE (7 * C.length) 1 (C.map rowD)
  | [], _ => TmE.nil
  | own :: C, h => by
    obtain ⟨h1, h2⟩ := h own List.mem_cons_self
    have e : Tm 7 1 (rowD own) := (TmE.tup (TmE.ints fun x hx => by
      have := h2 x hx
      exact Nat.lt_of_le_of_lt (show x.natAbs ≤ big.natAbs by omega) (by decide +kernel))).mono (by omega) (Nat.le_refl _)
    exact ((TmE.one e).app (tm_rows (C := C) fun o ho => h o (List.mem_cons_of_mem _ ho))).mono (by rw [List.length_cons]; omega) (Nat.le_refl _)
/-- data at v beside the deck, of a bounded size -/
def Ob (K : PySem.W.Frag) (H : Hp) (d l : Addr) (n k : Nat) (v : V) : Prop := ∃ x, Dq K (hide H d l) v x ∧ Tm n k x
theorem Ob.to {K : PySem.W.Frag} {H H' : Hp} {d l : Addr} {n k : Nat} {v : V} (h : Ob K H d l n k v) (e : Same (hide H d l) (hide H' d l)) : Ob K H' d l n k v := by
  obtain ⟨x, h1, h2⟩ := h
  exact ⟨x, h1.to e, h2⟩
end K8

namespace K8
open PySem PySem.Spec PyProof.Rows L2

section
variable {P : Program} {w : World} {K : PySem.W.Frag} {mg : Str → Option Value} {base : Heap}
/-! ## _law_spoilt -/
abbrev sSpoilt : Stmt := topS 34
abbrev pSpoilt : List Str := ["_law_deck_here", "_law_counts"]
theorem scSpoilt : FnScope ["_law_deck_here", "_law_counts", "_law_door", "_law_item", "_law_way", "_law_spot", "_law_odd"] pSpoilt (defScope sSpoilt) := ⟨rfl, rfl, rfl, by decide +kernel, rfl, by decide +kernel, by decide +kernel⟩
def spSpoilt (K : PySem.W.Frag) : Sp := fun vs H Q _ => ∃ (d l : Addr) (cv : V) (C : List (List Int)), vs = [.ref d, cv] ∧ Deck H d l ∧ Dq K (hide H d l) cv (countsD C) ∧ 1 ≤ C.length ∧ C.length ≤ 5 ∧ (∀ own ∈ C, own.length ≤ 6 ∧ ∀ x ∈ own, 0 ≤ x ∧ x ≤ big) ∧
  ∀ H' v x, Deck H' d l → Same (hide H d l) (hide H' d l) → Dq K (hide H' d l) v x → Tm 900 10 x → Q v H'
theorem ok_spoilt {f : Addr} {fd : FuncData} (F : Fun K "_law_spoilt" "_law_spoilt" sSpoilt f fd) (C_draw : Has P w K mg base CX0 1 "_law_draw" ["_law_deck_here", "_law_many"] spDraw) (C_pick : Has P w K mg base CX0 2 "_law_pick" ["_law_deck_here", "_law_items"] (spPick K))
    (m_len : mg "len" = none) (m_list : mg "list" = none) :
    FnOk P w K mg base CX0 3 f fd pSpoilt (spSpoilt K) := by
  refine F.ok scSpoilt (fun vs H Q E h => ?_) (fun cdv A outer s H vs Q E hr h => ?_)
  · obtain ⟨d, l, cv, C, rfl, _⟩ := h
    rfl
  · obtain ⟨d, l, cv, C, rfl, D0, hc, c1, c2, cb, q⟩ := h
    have nd := scSpoilt.nd
    refine ⟨_, (pss_cons 
     (ps_set (i := 2) nd rfl (.inl rfl) (pe_fn C_draw (hr.mono (by decide)) (by rfl) (pa_cons (pv 0) (pa_cons (pe_callB call_len_seq (by rfl) m_len PySem.boot_len (pa_cons (pv 1) pa_nil)) pa_nil)))) 
    (pss_cons 
     (ps_set (i := 3) nd rfl (.inl rfl) (pe_ix ix_tup (pv 1) (pv 2) (fun _ _ => rfl))) 
    (pss_cons 
     (ps_set (i := 4) nd rfl (.inl rfl) (pe_fn C_draw (hr.mono (by decide)) (by rfl) (pa_cons (pv 0) (pa_cons pe_int pa_nil)))) 
    (pss_cons 
     (ps_if (PW.pt (pw_and (pt_cmpR op_lt (pv 4) pe_int (nomark _)) (pw_and1 (pt_cmpR (op_neX hr.units) (pv 3) (pe_tup pa_nil) (nomark _)))))
       (pss_cons 
        (ps_set (i := 5) nd rfl (.inl rfl) (pe_fn C_draw (hr.mono (by decide)) (by rfl) (pa_cons (pv 0) (pa_cons (pe_callB call_len_seq (by rfl) m_len PySem.boot_len (pa_cons (pv 3) pa_nil)) pa_nil)))) 
       (pss_cons 
        (ps_set (i := 6) nd rfl (.inl rfl) (pe_lst (pa_cons (pe_un un_neg pe_int) (pa_cons pe_bl (pa_cons pe_bl (pa_cons pe_non (pa_cons pe_str (pa_cons (pe_op op_pow pe_int pe_int) (pa_cons (pe_op op_add (pe_op op_pow pe_int pe_int) pe_int) (pa_cons (pe_tup (pa_cons pe_int pa_nil)) (pa_cons (pe_op op_pow pe_int pe_int) (pa_cons pe_int (pa_cons (pe_lst (pa_cons pe_int pa_nil)) (pa_cons pe_dnewK pa_nil)))))))))))))) 
       (pss_cons 
        (ps_set (i := 3) nd rfl (.inl rfl) (pe_op op_catH (pe_op op_catH (pe_slice sl_tupH (pv 3) po_none (po_some (pv 5))) (pe_tup (pa_cons (pe_fn C_pick (hr.mono (by decide)) (by rfl) (pa_cons (pv 0) (pa_cons (pv 6) pa_nil))) pa_nil))) (pe_slice sl_tupH (pv 3) (po_some (pe_op op_add (pv 5) pe_int)) po_none))) 
       (pss_one 
        (ps_ret (pe_op op_catH (pe_op op_catH (pe_slice sl_tupH (pv 1) po_none (po_some (pv 2))) (pe_tup (pa_cons (pv 3) pa_nil))) (pe_slice sl_tupH (pv 1) (po_some (pe_op op_add (pv 2) pe_int)) po_none))))))) pss_nil) 
    (pss_cons 
     (ps_if (pt_cmpR op_eq (pv 4) pe_int (nomark _))
       (pss_one 
        (ps_ret (pe_op op_catH (pe_op op_catH (pe_slice sl_tupH (pv 1) po_none (po_some (pv 2))) (pe_tup (pa_cons (pe_fn C_pick (hr.mono (by decide)) (by rfl) (pa_cons (pv 0) (pa_cons (pe_lst (pa_cons (pe_op op_catH (pv 3) (pe_tup (pa_cons pe_int pa_nil))) (pa_cons (pe_slice sl_tupH (pv 3) (po_some pe_int) po_none) (pa_cons (pe_callTy call_list_of (by rfl) m_list (by decide +kernel) (pa_cons (pv 3) pa_nil)) (pa_cons pe_non (pa_cons (pe_tup pa_nil) pa_nil)))))) pa_nil))) pa_nil))) (pe_slice sl_tupH (pv 1) (po_some (pe_op op_add (pv 2) pe_int)) po_none)))) pss_nil) 
    (pss_one 
     (ps_ret (pe_fn C_pick (hr.mono (by decide)) (by rfl) (pa_cons (pv 0) (pa_cons (pe_lst (pa_cons (pe_slice sl_tupH (pv 1) (po_some pe_int) po_none) (pa_cons (pe_op op_catH (pv 1) (pe_tup (pa_cons (pe_tup pa_nil) pa_nil))) (pa_cons (pe_callTy call_list_of (by rfl) m_list (by decide +kernel) (pa_cons (pv 1) pa_nil)) (pa_cons pe_non (pa_cons (pe_tup pa_nil) (pa_cons pe_int (pa_cons pe_str (pa_cons pe_dnewK (pa_cons (pe_tup (pa_cons (pv 1) pa_nil)) pa_nil)))))))))) pa_nil)))))))))), ?_⟩
    have tC := tm_rows cb
    obtain ⟨p3, ys, rfl, h3, hy⟩ := counts_inv hc
    have ly : ys.length = C.length := by
      rw [hy.len, List.length_map]
    refine ⟨_, rfl, _, rfl, p3, _, rfl, .inr (seqT_same hide_same h3), d, l, ys.length, rfl, D0, by omega, by omega, fun H1 dr D1 S1 hdr => ?_⟩
    have edr : C[dr]? = some C[dr] := List.getElem?_eq_getElem (by omega)
    obtain ⟨iv, eiv, hiv⟩ := hy.at (i := dr) (d := rowD C[dr]) (by rw [List.getElem?_map, edr]; rfl)
    obtain ⟨ol, ob⟩ := cb _ (List.mem_of_getElem? edr)
    have tI : TmE 6 0 (C[dr].map PyData.int) := (TmE.ints fun x hx => by
      have := ob x hx
      exact Nat.lt_of_le_of_lt (show x.natAbs ≤ big.natAbs by omega) (by decide +kernel)).mono ol (Nat.le_refl _)
    refine ⟨_, rfl, _, rfl, p3, _, _, iv, rfl, rfl, seqT_same hide_same (seqT_same S1 h3), atI_nat eiv, ?_⟩
    refine ⟨_, rfl, d, l, 4, rfl, D1, by decide, by decide, fun H2 way D2 S2 hw => ?_⟩
    have S02 := S1.trans S2
    refine ⟨_, rfl, _, _, rfl, rfl, _, rfl, ite2 (fun e => ?_) (fun e => ?_)⟩
    · have w2 : (way : Int) < 2 := of_decide_eq_true e
      refine ⟨_, rfl, (by show 0 ≤ sizeLine; decide), fun z nz => ?_⟩
      have Sz := hide_new (d := d) (l := l) (o := .tup []) nz
      have Dz := D2.new (o := .tup []) nz
      refine ⟨rowD C[dr], .tuple [], (hiv.to (S02.trans Sz)).un, (new_tup D2 nz .nil).un, shaped_tuple (lay_ints _).1 (by rw [(lay_ints _).2]; decide), rfl, _, rfl, ?_⟩
      have ee : PyData.eqv (rowD C[dr]) (.tuple []) = (C[dr].map PyData.int).isEmpty := eqv_nilT _
      rw [ee]
      by_cases hne : C[dr] = []
      · rw [hne]
        refine iteF ?_
        have D5 := Dz
        have S5 := S02.trans Sz
        refine ⟨_, rfl, rfl, _, rfl, ite2 (fun e3 => absurd (V.int.inj (of_decide_eq_true e3)) (by omega)) (fun _ => ?_)⟩
        refine ⟨_, rfl, ?_⟩
        have hcX := hc.to S5
        have rowsX := hy.to S5
        refine ⟨_, rfl, _, rfl, d, l, C.map rowD, D5, hcX, fun v1 Ha Da Sa h1 => ?_⟩
        refine ⟨_, rfl, (by show 0 ≤ sizeLine; decide), fun e1 ne1 => ⟨(by show 1 ≤ sizeLine; decide), fun e2 ne2 => ?_⟩⟩
        have E1 : Dq K (hide (upd Ha e1 (.tup [])) d l) (.ref e1) (.tuple []) := new_tup Da ne1 .nil
        have De1 := Da.new (o := .tup []) ne1
        have se1 := hide_new (d := d) (l := l) (o := .tup []) ne1
        have E2 := new_tup De1 ne2 (.cons E1 .nil)
        have De2 := De1.new (o := .tup [.ref e1]) ne2
        have se2 := hide_new (d := d) (l := l) (o := .tup [.ref e1]) ne2
        refine ⟨d, l, C.map rowD, [.tuple []], De2, hcX.to (Sa.trans (se1.trans se2)), E2, by rw [List.length_map, List.length_singleton]; omega, fun v2 Hb Db Sb h2 => ?_⟩
        have sXb := Sa.trans (se1.trans (se2.trans Sb))
        have h3X := seqT_same (hide_same) (seqT_same (S5.trans sXb) h3)
        refine ⟨_, rfl, p3, ys, rfl, .inr h3X, fun v3 nv3 => ?_⟩
        have E3 := new_lst Db nv3 (rowsX.to sXb)
        have D3 := Db.new (o := .lst ys) nv3
        have s3 := hide_new (d := d) (l := l) (o := .lst ys) nv3
        refine ⟨(by show 0 ≤ sizeLine; decide), fun v5 nv5 => fun v8 nv8 => ⟨_, rfl, (by show 1 ≤ sizeLine; decide), fun v9 nv9 => ⟨(by show 9 ≤ sizeLine; decide), fun L nL => ?_⟩⟩⟩
        have E5 := new_tup D3 nv5 (.nil (K := K))
        have D5' := D3.new (o := .tup []) nv5
        have s5 := hide_new (d := d) (l := l) (o := .tup []) nv5
        have E8 := new_dic (K := K) D5' nv8
        have D8 := D5'.new (o := .dK []) nv8
        have s8 := hide_new (d := d) (l := l) (o := .dK []) nv8
        have E9 := new_tup D8 nv9 (.cons (hcX.to (sXb.trans (s3.trans (s5.trans s8)))) .nil)
        have D9 := D8.new (o := .tup [.ref p3]) nv9
        have s9 := hide_new (d := d) (l := l) (o := .tup [.ref p3]) nv9
        obtain ⟨Ld, Ll⟩ := D9.off nL
        have DL := D9.set (o := .lst [v1, v2, .ref v3, .non, .ref v5, .int 0, .str "counts", .ref v8, .ref v9]) Ld Ll
        have sL := hide_new (d := d) (l := l) (o := .lst [v1, v2, .ref v3, .non, .ref v5, .int 0, .str "counts", .ref v8, .ref v9]) nL
        have k9 := s9.trans sL
        have k8 := s8.trans k9
        have k5 := s5.trans k8
        have k3 := s3.trans k5
        have kb := Sb.trans k3
        have ka := se1.trans (se2.trans kb)
        refine ⟨d, l, L, _, rfl, DL, .inl (.inl (by rw [hide_eq Ld Ll, upd_same])), (by show 1 ≤ 9; decide), (by show 9 ≤ 1000; decide), fun H' x D' S' hx => ?_⟩
        have fin : Ob K H' d l 900 10 x := by
          simp only [List.mem_cons, List.not_mem_nil, or_false] at hx
          rcases hx with e | e | e | e | e | e | e | e | e <;> rw [e]
          · exact ⟨_, h1.to (ka.trans S'), ((tC.cut _ _).tup).mono (by omega) (by omega)⟩
          · exact ⟨_, h2.to (k3.trans S'), ((tC.app (TmE.one ((Tm.tup TmA.nil).mono (by omega) (by omega) : Tm 1 1 (.tuple [])))).tup).mono (by omega) (by omega)⟩
          · exact ⟨_, E3.to (k5.trans S'), (tC.lst).mono (by omega) (by omega)⟩
          · exact ⟨_, .non, Tm.non.mono (by omega) (by omega)⟩
          · exact ⟨_, E5.to (k8.trans S'), (Tm.tup TmA.nil).mono (by omega) (by omega)⟩
          · exact ⟨_, .int 0, (Tm.nat (i := 0) (by omega)).mono (by omega) (by omega)⟩
          · exact ⟨_, .str _, tm_counts.mono (by omega) (by omega)⟩
          · exact ⟨_, E8.to (k9.trans S'), Tm.dic.mono (by omega) (by omega)⟩
          · exact ⟨_, E9.to (sL.trans S'), (TmE.tup (TmE.one (tC.tup))).mono (by omega) (by omega)⟩
        obtain ⟨dd, q1, q2⟩ := fin
        exact q H' x dd D' (S5.trans (Sa.trans (ka.trans S'))) q1 q2
      · have hem : (C[dr].map PyData.int).isEmpty = false := by
          cases hq : C[dr] with
          | nil => exact absurd hq hne
          | cons => rfl
        rw [hem]
        refine iteT ?_
        have hpos : 1 ≤ C[dr].length := by
          cases hq : C[dr] with
          | nil => exact absurd hq hne
          | cons => simp
        obtain ⟨ip, its, rfl, hip, hits⟩ := Dq.tupI hiv
        have lits : its.length = C[dr].length := by
          rw [hits.len, List.length_map]
        have S0z := S02.trans Sz
        refine ⟨_, rfl, _, rfl, ip, its, rfl, .inr (seqT_same hide_same (seqT_same S0z hip)), d, l, its.length, rfl, Dz, by omega, by omega, fun H4 spt D4 S4 hs => ?_⟩
        have S04 := S0z.trans S4
        refine ⟨1, rfl, _, _, rfl, rfl, ⟨by decide, by decide, by decide⟩, _, _, rfl, rfl, ⟨by decide, by decide, by decide⟩, _, _, rfl, rfl, (by show 1 ≤ sizeLine; decide), fun o1 no1 => ?_⟩
        have E1 := new_tup D4 no1 (.cons (.int (K := K) 1) .nil)
        have Do1 := D4.new (o := .tup [.int 1]) no1
        have so1 := hide_new (d := d) (l := l) (o := .tup [.int 1]) no1
        refine ⟨_, _, rfl, rfl, ⟨by decide, by decide, by decide⟩, (by show 1 ≤ sizeLine; decide), fun o2 no2 => fun o3 no3 => ⟨(by show 12 ≤ sizeLine; decide), fun L nL => ?_⟩⟩
        have E2 := new_lst Do1 no2 (.cons (.int (K := K) 0) .nil)
        have Do2 := Do1.new (o := .lst [.int 0]) no2
        have so2 := hide_new (d := d) (l := l) (o := .lst [.int 0]) no2
        have E3 := new_dic (K := K) Do2 no3
        have Do3 := Do2.new (o := .dK []) no3
        have so3 := hide_new (d := d) (l := l) (o := .dK []) no3
        obtain ⟨Ld, Ll⟩ := Do3.off nL
        have DL := Do3.set (o := .lst [.int (-1), .bl true, .bl false, .non, .str "1", .int (10 ^ (30 : Int).toNat), .int (10 ^ (30 : Int).toNat + 1), .ref o1, .int (10 ^ (60 : Int).toNat), .int 5, .ref o2, .ref o3]) Ld Ll
        have sL := hide_new (d := d) (l := l) (o := .lst [.int (-1), .bl true, .bl false, .non, .str "1", .int (10 ^ (30 : Int).toNat), .int (10 ^ (30 : Int).toNat + 1), .ref o1, .int (10 ^ (60 : Int).toNat), .int 5, .ref o2, .ref o3]) nL
        have k3 := so3.trans sL
        have k2 := so2.trans k3
        have k1 := so1.trans k2
        have S0L := S04.trans k1
        have hitem : Dq K (hide H d l) (.ref ip) (rowD C[dr]) := hiv
        -- item[:spot]
        refine ⟨_, rfl, _, rfl, _, rfl, d, l, C[dr].map PyData.int, DL, hitem.to S0L, fun v1 Ha Da Sa h1 => ?_⟩
        refine ⟨_, rfl, _, rfl, d, l, L, [.int (-1), .bl true, .bl false, .non, .str "1", .int (10 ^ (30 : Int).toNat), .int (10 ^ (30 : Int).toNat + 1), .ref o1, .int (10 ^ (60 : Int).toNat), .int 5, .ref o2, .ref o3], rfl, Da, Sa.seq (.inl (.inl (by rw [hide_eq Ld Ll, upd_same]))), (by show 1 ≤ 12; decide), (by show 12 ≤ 1000; decide), fun Hb x Db Sb hx => ?_⟩
        have fin : Ob K Hb d l 3 2 x := by
          simp only [List.mem_cons, List.not_mem_nil, or_false] at hx
          have kk := Sa.trans Sb
          rcases hx with e | e | e | e | e | e | e | e | e | e | e | e <;> rw [e]
          · exact ⟨_, .int _, (Tm.int (by decide +kernel)).mono (by omega) (by omega)⟩
          · exact ⟨_, .bl _, (Tm.bl _).mono (by omega) (by omega)⟩
          · exact ⟨_, .bl _, (Tm.bl _).mono (by omega) (by omega)⟩
          · exact ⟨_, .non, Tm.non.mono (by omega) (by omega)⟩
          · exact ⟨_, .str _, tm_one.mono (by omega) (by omega)⟩
          · exact ⟨_, .int _, (Tm.int (by decide +kernel)).mono (by omega) (by omega)⟩
          · exact ⟨_, .int _, (Tm.int (by decide +kernel)).mono (by omega) (by omega)⟩
          · exact ⟨_, E1.to (k2.trans kk), (Tm.tup (.cons (Tm.nat (i := 1) (by omega)) .nil)).mono (by omega) (by omega)⟩
          · exact ⟨_, .int _, (Tm.int (by decide +kernel)).mono (by omega) (by omega)⟩
          · exact ⟨_, .int _, (Tm.int (by decide +kernel)).mono (by omega) (by omega)⟩
          · exact ⟨_, E2.to (k3.trans kk), (Tm.lst (.cons (Tm.nat (i := 0) (by omega)) .nil)).mono (by omega) (by omega)⟩
          · exact ⟨_, E3.to (sL.trans kk), Tm.dic.mono (by omega) (by omega)⟩
        obtain ⟨dd, q1, q2⟩ := fin
        refine ⟨(by show 1 ≤ sizeLine; decide), fun T0 nT0 => ?_⟩
        have ET0 := new_tup Db nT0 (.cons q1 .nil)
        have DT0 := Db.new (o := .tup [x]) nT0
        have sT0 := hide_new (d := d) (l := l) (o := .tup [x]) nT0
        have lc1 : (cutD (C[dr].map PyData.int) none (some (spt : Int))).length ≤ 6 := (tI.cut _ _).len
        refine ⟨d, l, _, _, DT0, h1.to (Sb.trans sT0), ET0, by rw [List.length_singleton]; omega, fun v2 Hc Dc Sc h2' => ?_⟩
        have S0c := S0L.trans (Sa.trans (Sb.trans (sT0.trans Sc)))
        refine ⟨_, rfl, _, rfl, _, _, rfl, rfl, _, rfl, d, l, C[dr].map PyData.int, Dc, hitem.to S0c, fun v3 Hd Dd Sd h3' => ?_⟩
        have lc2 : (cutD (C[dr].map PyData.int) (some ((spt : Int) + 1)) none).length ≤ 6 := (tI.cut _ _).len
        refine ⟨d, l, _, _, Dd, h2'.to Sd, h3', by rw [List.length_append, List.length_singleton]; omega, fun v4 He De Se h4 => ?_⟩
        have S0e := S0c.trans (Sd.trans Se)
        have t1 := (tI.cut none (some (spt : Int))).mono (Nat.le_refl _) (show 0 ≤ 2 by omega)
        have t2 := (tI.cut (some ((spt : Int) + 1)) none).mono (Nat.le_refl _) (show 0 ≤ 2 by omega)
        have tm4 := (((t1.app (TmE.one q2)).app t2).tup).mono (n' := 20) (k' := 3) (by omega) (by omega)
        refine ⟨_, rfl, _, rfl, _, rfl, d, l, C.map rowD, De, hc.to S0e, fun v5 H' D' S0a' h1 => ?_⟩
        have S0a := S0e.trans S0a'
        have ka' := Same.refl (hide H' d l)
        refine ⟨_, rfl, ?_⟩
        refine ⟨(by show 1 ≤ sizeLine; decide), fun T nT => ?_⟩
        have ET := new_tup D' nT (.cons (h4.to S0a') .nil)
        have DT := D'.new (o := .tup [v4]) nT
        have sT := hide_new (d := d) (l := l) (o := .tup [v4]) nT
        have lcut : (cutD (C.map rowD) none (some (dr : Int))).length ≤ 35 := Nat.le_trans (tC.cut _ _).len (by omega)
        refine ⟨d, l, _, _, DT, h1.to (ka'.trans sT), ET, by rw [List.length_singleton]; omega, fun v6 Hd Dd Sd h6 => ?_⟩
        refine ⟨_, rfl, _, rfl, _, _, rfl, rfl, _, rfl, d, l, C.map rowD, Dd, hc.to (S0a.trans (ka'.trans (sT.trans Sd))), fun v7 He De Se h7 => ?_⟩
        have lcut2 : (cutD (C.map rowD) (some ((dr : Int) + 1)) none).length ≤ 35 := Nat.le_trans (tC.cut _ _).len (by omega)
        refine ⟨d, l, _, _, De, h6.to Se, h7, by rw [List.length_append, List.length_singleton]; omega, fun v8 Hf Df Sf h8 => ?_⟩
        refine q Hf v8 _ Df (S0a.trans (ka'.trans (sT.trans (Sd.trans (Se.trans Sf))))) h8 ?_
        have t1 := (tC.cut none (some (dr : Int))).mono (Nat.le_refl _) (show 1 ≤ 4 by omega)
        have t2 := (tC.cut (some ((dr : Int) + 1)) none).mono (Nat.le_refl _) (show 1 ≤ 4 by omega)
        have t3 := (t1.app (TmE.one (tm4.mono (Nat.le_refl _) (show 3 ≤ 4 by omega)))).app t2
        exact t3.tup.mono (by omega) (by omega)
    · have w2 : ¬ (way : Int) < 2 := fun z => e (decide_eq_true z)
      refine ⟨_, rfl, rfl, _, rfl, ite2 (fun e3 => ?_) (fun _ => ?_)⟩
      · refine ⟨_, rfl, _, rfl, _, rfl, d, l, C.map rowD, D2, hc.to S02, fun v1 Ha Da Sa h1 => ?_⟩
        have h0a := hiv.to (S02.trans Sa)
        refine ⟨_, rfl, _, rfl, (by show 1 ≤ sizeLine; decide), fun e1 ne1 => ?_⟩
        have E1 := new_tup Da ne1 (.cons (.int (K := K) 0) .nil)
        have De1 := Da.new (o := .tup [.int 0]) ne1
        have se1 := hide_new (d := d) (l := l) (o := .tup [.int 0]) ne1
        refine ⟨d, l, C[dr].map PyData.int, [.int 0], De1, h0a.to se1, E1, by rw [List.length_map, List.length_singleton]; omega, fun v2 Hb Db Sb h2 => ?_⟩
        have sab := se1.trans Sb
        refine ⟨_, rfl, _, rfl, d, l, C[dr].map PyData.int, Db, h0a.to sab, fun v3 Hc Dc Sc h3' => ?_⟩
        have sac := sab.trans Sc
        obtain ⟨ip, its, rfl, hip, hits⟩ := Dq.tupI (h0a.to sac)
        refine ⟨_, rfl, ip, its, rfl, .inr (seqT_same hide_same hip), fun v4 nv4 => ⟨(by show 0 ≤ sizeLine; decide), fun v5 nv5 => ⟨(by show 5 ≤ sizeLine; decide), fun L nL => ?_⟩⟩⟩
        have E4 := new_lst Dc nv4 hits
        have D4 := Dc.new (o := .lst its) nv4
        have s4 := hide_new (d := d) (l := l) (o := .lst its) nv4
        have E5 := new_tup D4 nv5 (.nil (K := K))
        have D5 := D4.new (o := .tup []) nv5
        have s5 := hide_new (d := d) (l := l) (o := .tup []) nv5
        obtain ⟨Ld, Ll⟩ := D5.off nL
        have DL := D5.set (o := .lst [v2, v3, .ref v4, .non, .ref v5]) Ld Ll
        have sL := hide_new (d := d) (l := l) (o := .lst [v2, v3, .ref v4, .non, .ref v5]) nL
        have k5 := s5.trans sL
        have k4 := s4.trans k5
        have kc := Sc.trans k4
        refine ⟨d, l, L, _, rfl, DL, .inl (.inl (by rw [hide_eq Ld Ll, upd_same])), (by show 1 ≤ 5; decide), (by show 5 ≤ 1000; decide), fun H' x D' S' hx => ?_⟩
        have fin : Ob K H' d l 20 3 x := by
          simp only [List.mem_cons, List.not_mem_nil, or_false] at hx
          rcases hx with e | e | e | e | e <;> rw [e]
          · exact ⟨_, h2.to (kc.trans S'), ((tI.app (TmE.one (Tm.nat (i := 0) (by omega)))).tup).mono (by omega) (by omega)⟩
          · exact ⟨_, h3'.to (k4.trans S'), ((tI.cut _ _).tup).mono (by omega) (by omega)⟩
          · exact ⟨_, E4.to (k5.trans S'), (tI.lst).mono (by omega) (by omega)⟩
          · exact ⟨_, .non, Tm.non.mono (by omega) (by omega)⟩
          · exact ⟨_, E5.to (sL.trans S'), (Tm.tup TmA.nil).mono (by omega) (by omega)⟩
        obtain ⟨dd, q1, q2⟩ := fin
        have ka' := sac.trans (k4.trans S')
        have S0a := S02.trans Sa
        refine ⟨(by show 1 ≤ sizeLine; decide), fun T nT => ?_⟩
        have ET := new_tup D' nT (.cons q1 .nil)
        have DT := D'.new (o := .tup [x]) nT
        have sT := hide_new (d := d) (l := l) (o := .tup [x]) nT
        have lcut : (cutD (C.map rowD) none (some (dr : Int))).length ≤ 35 := Nat.le_trans (tC.cut _ _).len (by omega)
        refine ⟨d, l, _, _, DT, h1.to (ka'.trans sT), ET, by rw [List.length_singleton]; omega, fun v6 Hd Dd Sd h6 => ?_⟩
        refine ⟨_, rfl, _, rfl, _, _, rfl, rfl, _, rfl, d, l, C.map rowD, Dd, hc.to (S0a.trans (ka'.trans (sT.trans Sd))), fun v7 He De Se h7 => ?_⟩
        have lcut2 : (cutD (C.map rowD) (some ((dr : Int) + 1)) none).length ≤ 35 := Nat.le_trans (tC.cut _ _).len (by omega)
        refine ⟨d, l, _, _, De, h6.to Se, h7, by rw [List.length_append, List.length_singleton]; omega, fun v8 Hf Df Sf h8 => ?_⟩
        refine q Hf v8 _ Df (S0a.trans (ka'.trans (sT.trans (Sd.trans (Se.trans Sf))))) h8 ?_
        have t1 := (tC.cut none (some (dr : Int))).mono (Nat.le_refl _) (show 1 ≤ 4 by omega)
        have t2 := (tC.cut (some ((dr : Int) + 1)) none).mono (Nat.le_refl _) (show 1 ≤ 4 by omega)
        have t3 := (t1.app (TmE.one (q2.mono (Nat.le_refl _) (show 3 ≤ 4 by omega)))).app t2
        exact t3.tup.mono (by omega) (by omega)
      · have D5 := D2
        have S5 := S02
        refine ⟨_, rfl, ?_⟩
        have hcX := hc.to S5
        have rowsX := hy.to S5
        refine ⟨_, rfl, _, rfl, d, l, C.map rowD, D5, hcX, fun v1 Ha Da Sa h1 => ?_⟩
        refine ⟨_, rfl, (by show 0 ≤ sizeLine; decide), fun e1 ne1 => ⟨(by show 1 ≤ sizeLine; decide), fun e2 ne2 => ?_⟩⟩
        have E1 : Dq K (hide (upd Ha e1 (.tup [])) d l) (.ref e1) (.tuple []) := new_tup Da ne1 .nil
        have De1 := Da.new (o := .tup []) ne1
        have se1 := hide_new (d := d) (l := l) (o := .tup []) ne1
        have E2 := new_tup De1 ne2 (.cons E1 .nil)
        have De2 := De1.new (o := .tup [.ref e1]) ne2
        have se2 := hide_new (d := d) (l := l) (o := .tup [.ref e1]) ne2
        refine ⟨d, l, C.map rowD, [.tuple []], De2, hcX.to (Sa.trans (se1.trans se2)), E2, by rw [List.length_map, List.length_singleton]; omega, fun v2 Hb Db Sb h2 => ?_⟩
        have sXb := Sa.trans (se1.trans (se2.trans Sb))
        have h3X := seqT_same (hide_same) (seqT_same (S5.trans sXb) h3)
        refine ⟨_, rfl, p3, ys, rfl, .inr h3X, fun v3 nv3 => ?_⟩
        have E3 := new_lst Db nv3 (rowsX.to sXb)
        have D3 := Db.new (o := .lst ys) nv3
        have s3 := hide_new (d := d) (l := l) (o := .lst ys) nv3
        refine ⟨(by show 0 ≤ sizeLine; decide), fun v5 nv5 => fun v8 nv8 => ⟨_, rfl, (by show 1 ≤ sizeLine; decide), fun v9 nv9 => ⟨(by show 9 ≤ sizeLine; decide), fun L nL => ?_⟩⟩⟩
        have E5 := new_tup D3 nv5 (.nil (K := K))
        have D5' := D3.new (o := .tup []) nv5
        have s5 := hide_new (d := d) (l := l) (o := .tup []) nv5
        have E8 := new_dic (K := K) D5' nv8
        have D8 := D5'.new (o := .dK []) nv8
        have s8 := hide_new (d := d) (l := l) (o := .dK []) nv8
        have E9 := new_tup D8 nv9 (.cons (hcX.to (sXb.trans (s3.trans (s5.trans s8)))) .nil)
        have D9 := D8.new (o := .tup [.ref p3]) nv9
        have s9 := hide_new (d := d) (l := l) (o := .tup [.ref p3]) nv9
        obtain ⟨Ld, Ll⟩ := D9.off nL
        have DL := D9.set (o := .lst [v1, v2, .ref v3, .non, .ref v5, .int 0, .str "counts", .ref v8, .ref v9]) Ld Ll
        have sL := hide_new (d := d) (l := l) (o := .lst [v1, v2, .ref v3, .non, .ref v5, .int 0, .str "counts", .ref v8, .ref v9]) nL
        have k9 := s9.trans sL
        have k8 := s8.trans k9
        have k5 := s5.trans k8
        have k3 := s3.trans k5
        have kb := Sb.trans k3
        have ka := se1.trans (se2.trans kb)
        refine ⟨d, l, L, _, rfl, DL, .inl (.inl (by rw [hide_eq Ld Ll, upd_same])), (by show 1 ≤ 9; decide), (by show 9 ≤ 1000; decide), fun H' x D' S' hx => ?_⟩
        have fin : Ob K H' d l 900 10 x := by
          simp only [List.mem_cons, List.not_mem_nil, or_false] at hx
          rcases hx with e | e | e | e | e | e | e | e | e <;> rw [e]
          · exact ⟨_, h1.to (ka.trans S'), ((tC.cut _ _).tup).mono (by omega) (by omega)⟩
          · exact ⟨_, h2.to (k3.trans S'), ((tC.app (TmE.one ((Tm.tup TmA.nil).mono (by omega) (by omega) : Tm 1 1 (.tuple [])))).tup).mono (by omega) (by omega)⟩
          · exact ⟨_, E3.to (k5.trans S'), (tC.lst).mono (by omega) (by omega)⟩
          · exact ⟨_, .non, Tm.non.mono (by omega) (by omega)⟩
          · exact ⟨_, E5.to (k8.trans S'), (Tm.tup TmA.nil).mono (by omega) (by omega)⟩
          · exact ⟨_, .int 0, (Tm.nat (i := 0) (by omega)).mono (by omega) (by omega)⟩
          · exact ⟨_, .str _, tm_counts.mono (by omega) (by omega)⟩
          · exact ⟨_, E8.to (k9.trans S'), Tm.dic.mono (by omega) (by omega)⟩
          · exact ⟨_, E9.to (sL.trans S'), (TmE.tup (TmE.one (tC.tup))).mono (by omega) (by omega)⟩
        obtain ⟨dd, q1, q2⟩ := fin
        exact q H' x dd D' (S5.trans (Sa.trans (ka.trans S'))) q1 q2
end
end K8

namespace K8
open PySem PySem.Spec PyProof.Rows L2

theorem share2 {α β : Type} {P R : α → β → Prop} {G : Prop} (a : (∀ x y, P x y → R x y) → G) (b : ∀ x y, P x y → R x y) : G := a b
def HasG (P : Program) (w : World) (K : PySem.W.Frag) (mg : Str → Option Value) (base : Heap) (k : Nat) (x : Str) (ps : List Str) (sp : Sp) : Prop :=
  ∃ (f : Addr) (fd : FuncData), FnG P w K mg base k f fd ps sp ∧ mg x = some (.ref f) ∧ PySem.W.keepIn K (.ref f) = true ∧ Binds K fd ps []
theorem pe_fnG {X : Cx} {k : Nat} {x : Str} {ps : List Str} {sp : Sp} {p pos : Pos} {e : Expr} {es : List Expr} {t : TA} (C : HasG X.prog X.w X.K X.mg X.base k x ps sp) (hgu : X.A.guards = some []) (hr : Room k X.A) (hg : Gl X x) (ha : PA X (e :: es) t)
    (hdb : (x == ("__debug__" : Str)) = false := by decide) (he : starEach (e :: es) X.env = (false, eval e X.env) :: starEach es X.env := by rfl) (hpl : (backTo pos (starEach es X.env)).any (·.1) = false := by rfl) :
    PE X (.Call (.Name x p) (e :: es) [] pos) (tCall sp [] E0 t) := by
  obtain ⟨f, fd, ok, g, kp, b⟩ := C
  exact pe_callG ok hgu hr hg g kp b ha hdb he hpl
theorem hide_tup {K : PySem.W.Frag} {H : Hp} {d l t : Addr} {xs : List V} (D : Deck H d l) (h : SqT K H t xs) : SqT K (hide H d l) t xs := by
  obtain ⟨_, gs, m, tt, h1, h2, _⟩ := D
  have ne : ∀ o, H t = some o → (∀ kvs, o ≠ .dK kvs) → (∀ ys, o ≠ .lst ys) → t ≠ d ∧ t ≠ l := fun o e n1 n2 => ⟨fun z => by
    rw [z, h1] at e
    exact n1 _ (Option.some.inj e).symm, fun z => by
    rw [z, h2] at e
    exact n2 _ (Option.some.inj e).symm⟩
  rcases h with (h | ⟨o, h⟩) | h
  · obtain ⟨a, b⟩ := ne _ h (fun _ z => by cases z) (fun _ z => by cases z)
    exact .inl (.inl (by rw [hide_eq a b]; exact h))
  · obtain ⟨a, b⟩ := ne _ h (fun _ z => by cases z) (fun _ z => by cases z)
    exact .inl (.inr ⟨o, by rw [hide_eq a b]; exact h⟩)
  · exact .inr h
theorem tolds_hide {K : PySem.W.Frag} {H : Hp} {d l : Addr} (D : Deck H d l) : ∀ {ts : List Told} {vs : List V}, DqAll K H vs (ts.map toldD) → DqAll K (hide H d l) vs (ts.map toldD)
  | [], _, h => by cases h; exact .nil
  | T :: ts, _, h => by
    cases h with
    | cons h1 r =>
      obtain ⟨p, rfl, hp⟩ := told_inv h1
      exact .cons (told_dq (hide_tup D hp)) (tolds_hide D r)
theorem pair_at {K : PySem.W.Frag} {H : Hp} {d l t : Addr} (a b : Nat) (td : t ≠ d) (tl : t ≠ l) (s : Same (hide H d l) (hide (upd H t (.tup [.int a, .int b])) d l)) : SqT K (hide (upd H t (.tup [.int a, .int b])) d l) t [.int a, .int b] :=
  .inl (.inl ((hide_eq td tl).trans upd_same))
section
variable {P : Program} {w : World} {K : PySem.W.Frag} {mg : Str → Option Value} {base : Heap}
/-! ## law -/
abbrev sLaw : Stmt := topS 35
abbrev nLaw : List Str := ["_law_script", "_law_deck_here", "_law_turn", "_law_sizes", "_law_plan_here", "_law_told", "_law_menu", "_law_counts", "_law_again", "_law_last", "_law_pair", "_law_own"]
theorem scLaw : FnScope nLaw ["_law_script"] (defScope sLaw) := ⟨rfl, rfl, rfl, by decide +kernel, rfl, by decide +kernel, by decide +kernel⟩
def spLaw (K : PySem.W.Frag) : Sp := fun vs H Q _ => ∃ (a : Addr) (ns : List Int), vs = [.ref a] ∧ SqL K H a (ns.map V.int) ∧ ns.length ≤ 63 ∧ ∀ H', Q (.bl true) H'
theorem ok_law {f : Addr} {fd : FuncData} (F : Fun K "law" "law" sLaw f fd) (C_deck : Has P w K mg base CX0 1 "_law_deck" ["_law_script"] (spDeck K)) (C_draw : Has P w K mg base CX0 1 "_law_draw" ["_law_deck_here", "_law_many"] spDraw)
    (C_pick : Has P w K mg base CX0 2 "_law_pick" ["_law_deck_here", "_law_items"] (spPick K)) (C_plan : Has P w K mg base CX0 3 "_law_plan" ["_law_deck_here", "_law_sizes"] (spPlan K)) (C_roads : Has P w K mg base CX0 2 "_law_roads" ["_law_plan_here"] (spRoads K))
    (C_drawn : Has P w K mg base CX0 3 "_law_drawn" pDrawn (spDrawn K)) (C_spoilt : Has P w K mg base CX0 3 "_law_spoilt" pSpoilt (spSpoilt K)) (G_right : HasG P w K mg base 7 "_law_is_right" pRight (spRight K)) (m_range : mg "range" = none) :
    FnG P w K mg base 8 f fd ["_law_script"] (spLaw K) := by
  refine FnG.mk' F scLaw (fun vs H Q E h => ?_) (fun cdv A outer s H vs Q E hgu hr h => ?_)
  · obtain ⟨a, ns, rfl, _⟩ := h
    rfl
  · obtain ⟨a, ns, rfl, ha, hn, q⟩ := h
    have nd := scLaw.nd
    have hgX : (A.deeper (envOfC "law" (defScope sLaw) s.heap.objs.size f cdv)).guards = some [] := hgu
    refine ⟨_, (pss_cons 
     (ps_set (i := 1) nd rfl (.inl rfl) (pe_fn C_deck (hr.mono (by decide)) (by rfl) (pa_cons (pv 0) pa_nil))) 
    (pss_cons 
     (ps_for PassesOwn.never rfl (pi_range1 (by rfl) m_range (pa_cons pe_int pa_nil)) (pg_name (i := 2) nd rfl (.inl rfl))
       (pss_cons 
        (ps_set (i := 3) nd rfl (.inl rfl) (pe_tup (pa_cons (pe_op op_add pe_int (pe_fn C_draw (hr.mono (by decide)) (by rfl) (pa_cons (pv 1) (pa_cons pe_int pa_nil)))) (pa_cons (pe_op op_add pe_int (pe_fn C_draw (hr.mono (by decide)) (by rfl) (pa_cons (pv 1) (pa_cons pe_int pa_nil)))) pa_nil)))) 
       (pss_cons 
        (ps_if (PW.pt (pw_and (pt_cmpR op_eq (pv 2) pe_int (nomark _)) (pw_and1 (pt_cmpR op_eq (pe_fn C_draw (hr.mono (by decide)) (by rfl) (pa_cons (pv 1) (pa_cons pe_int pa_nil))) pe_int (nomark _)))))
          (pss_one 
           (ps_set (i := 3) nd rfl (.inl rfl) (pe_fn C_pick (hr.mono (by decide)) (by rfl) (pa_cons (pv 1) (pa_cons (pe_lst (pa_cons (pe_tup (pa_cons pe_int (pa_cons pe_int pa_nil))) (pa_cons (pe_tup (pa_cons pe_int (pa_cons pe_int pa_nil))) (pa_cons (pe_tup (pa_cons pe_int (pa_cons pe_int pa_nil))) (pa_cons (pe_tup (pa_cons pe_int (pa_cons pe_int pa_nil))) (pa_cons (pe_tup (pa_cons pe_int (pa_cons pe_int pa_nil))) (pa_cons (pe_tup (pa_cons pe_int (pa_cons pe_int pa_nil))) (pa_cons (pe_tup (pa_cons pe_int (pa_cons pe_int pa_nil))) (pa_cons (pe_tup (pa_cons pe_int (pa_cons pe_int pa_nil))) (pa_cons (pe_tup (pa_cons pe_int (pa_cons pe_int pa_nil))) (pa_cons (pe_tup (pa_cons pe_int (pa_cons pe_int pa_nil))) pa_nil))))))))))) pa_nil))))) pss_nil) 
       (pss_cons 
        (ps_set (i := 4) nd rfl (.inl rfl) (pe_fn C_plan (hr.mono (by decide)) (by rfl) (pa_cons (pv 1) (pa_cons (pv 3) pa_nil)))) 
       (pss_cons 
        (ps_setLc (i := 5) (own := [("_law_pair", 10), ("_law_own", 11)]) (tt := tYes) rfl nd rfl rfl (sw_true rfl rfl rfl (by decide +kernel)) (pi_list (pe_fn C_roads (hr.mono (by decide)) (by rfl) (pa_cons (pv 4) pa_nil))) (blkOk_by (N := nLaw) (sc := defScope sLaw) (by decide +kernel))
          (fun _ _ _ _ _ => pg_tupK (K := K) 2 rfl rfl (pgs_cons (pg_name (i := 10) nd rfl (.inl rfl) (.inr rfl)) (pgs_cons (pg_name (i := 11) nd rfl (.inl rfl) (.inr rfl)) pgs_nil)))
          (fun _ _ _ _ _ => pts_nil) (fun _ _ _ _ _ => pv 11)) 
       (pss_cons 
        (ps_set (i := 6) nd rfl (.inl rfl) (pe_ifExp (pt_cmpR op_lt (pv 2) pe_int (nomark _)) (pe_lst (pa_cons pe_int (pa_cons pe_int (pa_cons pe_int (pa_cons pe_int (pa_cons pe_int pa_nil)))))) (pe_lst (pa_cons pe_int (pa_cons (pe_op op_pow pe_int pe_int) (pa_cons (pe_op op_pow pe_int pe_int) (pa_cons pe_int pa_nil))))))) 
       (pss_cons 
        (ps_set (i := 7) nd rfl (.inl rfl) (pe_fn C_drawn (hr.mono (by decide)) (by rfl) (pa_cons (pv 1) (pa_cons (pv 4) (pa_cons (pv 5) (pa_cons (pv 6) pa_nil)))))) 
       (pss_cons 
        (ps_if (pt_not (pt_val (pe_fnG G_right hgX (hr.mono (by decide)) (by rfl) (pa_cons (pv 4) (pa_cons (pv 5) (pa_cons (pv 7) (pa_cons (pe_cmpR op_eq (pv 2) pe_int (nomark _)) pa_nil)))))))
          (pss_one 
           (ps_ret pe_bl)) pss_nil) 
       (pss_one 
        (ps_for PassesOwn.never rfl (pi_range1 (by rfl) m_range (pa_cons pe_int pa_nil)) (pg_name (i := 8) nd rfl (.inl rfl))
          (pss_one 
           (ps_if (pt_not (pt_val (pe_fnG G_right hgX (hr.mono (by decide)) (by rfl) (pa_cons (pv 4) (pa_cons (pv 5) (pa_cons (pe_fn C_spoilt (hr.mono (by decide)) (by rfl) (pa_cons (pv 1) (pa_cons (pv 7) pa_nil))) (pa_cons (pe_cmpR op_eq (pv 8) (pv 2) (nomark _)) pa_nil)))))))
             (pss_one 
              (ps_ret pe_bl)) pss_nil)))))))))))) 
    (pss_cons 
     (ps_set (i := 4) nd rfl (.inl rfl) (pe_tup (pa_cons pe_int (pa_cons pe_int (pa_cons (pe_tup (pa_cons (pe_tup (pa_cons (pe_un un_neg pe_int) (pa_cons pe_int (pa_cons pe_int pa_nil)))) (pa_cons (pe_tup (pa_cons (pe_un un_neg pe_int) (pa_cons pe_int (pa_cons pe_int pa_nil)))) (pa_cons (pe_tup (pa_cons pe_int (pa_cons (pe_un un_neg pe_int) (pa_cons pe_int pa_nil)))) pa_nil)))) pa_nil))))) 
    (pss_cons 
     (ps_setLc (i := 5) (own := [("_law_pair", 10), ("_law_own", 11)]) (tt := tYes) rfl nd rfl rfl (sw_true rfl rfl rfl (by decide +kernel)) (pi_list (pe_fn C_roads (hr.mono (by decide)) (by rfl) (pa_cons (pv 4) pa_nil))) (blkOk_by (N := nLaw) (sc := defScope sLaw) (by decide +kernel))
          (fun _ _ _ _ _ => pg_tupK (K := K) 2 rfl rfl (pgs_cons (pg_name (i := 10) nd rfl (.inl rfl) (.inr rfl)) (pgs_cons (pg_name (i := 11) nd rfl (.inl rfl) (.inr rfl)) pgs_nil)))
          (fun _ _ _ _ _ => pts_nil) (fun _ _ _ _ _ => pv 11)) 
    (pss_cons 
     (ps_for PassesOwn.never rfl (pi_tup (pe_tup (pa_cons pe_int (pa_cons pe_int (pa_cons pe_int pa_nil))))) (pg_name (i := 9) nd rfl (.inl rfl))
       (pss_one 
        (ps_if (pt_not (pt_val (pe_fnG G_right hgX (hr.mono (by decide)) (by rfl) (pa_cons (pv 4) (pa_cons (pv 5) (pa_cons (pe_tup (pa_cons (pe_tup (pa_cons (pe_op op_sub (pe_op op_pow pe_int pe_int) pe_int) (pa_cons pe_int pa_nil))) (pa_cons (pe_tup (pa_cons pe_int (pa_cons (pv 9) pa_nil))) (pa_cons (pe_tup (pa_cons pe_int (pa_cons pe_int pa_nil))) pa_nil)))) (pa_cons pe_bl pa_nil)))))))
          (pss_one 
           (ps_ret pe_bl)) pss_nil))) 
    (pss_one 
     (ps_ret pe_bl))))))), ?_⟩
    refine ⟨_, rfl, a, ns, rfl, ha, hn, fun H1 d l D1 => ?_⟩
    refine ⟨6, rfl, by omega, by omega, ?_⟩
    refine for_it walk_range0 (fun i σ H' => ∃ y2 y3 y4 y5 y6 y7 y8 y9, σ = [some (.ref a), some (.ref d), y2, y3, y4, y5, y6, y7, y8, y9, none, none] ∧ Deck H' d l)
      ⟨_, _, _, _, _, _, _, _, rfl, D1⟩ (fun _ _ _ _ _ => trivial) ?_ ?_
    · rintro i v σ H2 H3 hi ⟨y2, y3, y4, y5, y6, y7, y8, y9, rfl, D2⟩ ⟨rfl, rfl⟩
      refine ⟨_, rfl, d, l, 3, rfl, D2, by decide, by decide, fun H4 r1 D4 S4 hr1 => ⟨_, _, rfl, rfl, ?_⟩⟩
      refine ⟨_, rfl, d, l, 4, rfl, D4, by decide, by decide, fun H5 r2 D5 S5 hr2 => ⟨_, _, rfl, rfl, (by show 2 ≤ sizeLine; decide), fun z nz => ?_⟩⟩
      have D6 := D5.new (o := .tup [.int (1 + (r1 : Int)), .int (1 + (r2 : Int))]) nz
      obtain ⟨zd, zl⟩ := D5.off nz
      have hz : SqT K (hide (upd H5 z (.tup [.int (1 + (r1 : Int)), .int (1 + (r2 : Int))])) d l) z [.int ((1 + r1 : Nat) : Int), .int ((1 + r2 : Nat) : Int)] := .inl (.inl (by rw [hide_eq zd zl, upd_same]; congr 1))
      apply share2 (P := fun σ H => ∃ z R B, σ = [some (.ref a), some (.ref d), some (.int i), some (.ref z), y4, y5, y6, y7, y8, y9, none, none] ∧ Deck H d l ∧ SqT K (hide H d l) z [.int (R : Nat), .int (B : Nat)] ∧ 1 ≤ R ∧ R ≤ 6 ∧ 1 ≤ B ∧ B ≤ 6)
      · intro go
        refine ⟨_, rfl, rfl, _, rfl, ite2 (fun e3 => ?_) (fun e3 => ?_)⟩
        · refine ⟨_, rfl, d, l, 2, rfl, D6, by decide, by decide, fun H7 r3 D7 S7 hr3 => ⟨rfl, _, rfl, ite2 (fun e4 => ?_) (fun e4 => ?_)⟩⟩
          · refine ⟨_, rfl, (by show 2 ≤ sizeLine; decide), fun t1 n1 => ⟨(by show 2 ≤ sizeLine; decide), fun t2 n2 => ⟨(by show 2 ≤ sizeLine; decide), fun t3 n3 => ⟨(by show 2 ≤ sizeLine; decide), fun t4 n4 => ⟨(by show 2 ≤ sizeLine; decide), fun t5 n5 => ⟨(by show 2 ≤ sizeLine; decide), fun t6 n6 => ⟨(by show 2 ≤ sizeLine; decide), fun t7 n7 => ⟨(by show 2 ≤ sizeLine; decide), fun t8 n8 => ⟨(by show 2 ≤ sizeLine; decide), fun t9 n9 => ⟨(by show 2 ≤ sizeLine; decide), fun t10 n10 => ⟨(by show 10 ≤ sizeLine; decide), fun L nL => ?_⟩⟩⟩⟩⟩⟩⟩⟩⟩⟩⟩
            obtain ⟨td1, tl1⟩ := D7.off n1
            have s1 := hide_new (d := d) (l := l) (o := .tup [.int 1, .int 6]) n1
            have Dn1 := D7.set (o := .tup [.int 1, .int 6]) td1 tl1
            have E1 := pair_at (K := K) 1 6 td1 tl1 s1
            obtain ⟨td2, tl2⟩ := Dn1.off n2
            have s2 := hide_new (d := d) (l := l) (o := .tup [.int 2, .int 6]) n2
            have Dn2 := Dn1.set (o := .tup [.int 2, .int 6]) td2 tl2
            have E2 := pair_at (K := K) 2 6 td2 tl2 s2
            obtain ⟨td3, tl3⟩ := Dn2.off n3
            have s3 := hide_new (d := d) (l := l) (o := .tup [.int 3, .int 6]) n3
            have Dn3 := Dn2.set (o := .tup [.int 3, .int 6]) td3 tl3
            have E3 := pair_at (K := K) 3 6 td3 tl3 s3
            obtain ⟨td4, tl4⟩ := Dn3.off n4
            have s4 := hide_new (d := d) (l := l) (o := .tup [.int 6, .int 3]) n4
            have Dn4 := Dn3.set (o := .tup [.int 6, .int 3]) td4 tl4
            have E4 := pair_at (K := K) 6 3 td4 tl4 s4
            obtain ⟨td5, tl5⟩ := Dn4.off n5
            have s5 := hide_new (d := d) (l := l) (o := .tup [.int 4, .int 5]) n5
            have Dn5 := Dn4.set (o := .tup [.int 4, .int 5]) td5 tl5
            have E5 := pair_at (K := K) 4 5 td5 tl5 s5
            obtain ⟨td6, tl6⟩ := Dn5.off n6
            have s6 := hide_new (d := d) (l := l) (o := .tup [.int 5, .int 4]) n6
            have Dn6 := Dn5.set (o := .tup [.int 5, .int 4]) td6 tl6
            have E6 := pair_at (K := K) 5 4 td6 tl6 s6
            obtain ⟨td7, tl7⟩ := Dn6.off n7
            have s7 := hide_new (d := d) (l := l) (o := .tup [.int 3, .int 5]) n7
            have Dn7 := Dn6.set (o := .tup [.int 3, .int 5]) td7 tl7
            have E7 := pair_at (K := K) 3 5 td7 tl7 s7
            obtain ⟨td8, tl8⟩ := Dn7.off n8
            have s8 := hide_new (d := d) (l := l) (o := .tup [.int 2, .int 5]) n8
            have Dn8 := Dn7.set (o := .tup [.int 2, .int 5]) td8 tl8
            have E8 := pair_at (K := K) 2 5 td8 tl8 s8
            obtain ⟨td9, tl9⟩ := Dn8.off n9
            have s9 := hide_new (d := d) (l := l) (o := .tup [.int 4, .int 4]) n9
            have Dn9 := Dn8.set (o := .tup [.int 4, .int 4]) td9 tl9
            have E9 := pair_at (K := K) 4 4 td9 tl9 s9
            obtain ⟨td10, tl10⟩ := Dn9.off n10
            have s10 := hide_new (d := d) (l := l) (o := .tup [.int 6, .int 2]) n10
            have Dn10 := Dn9.set (o := .tup [.int 6, .int 2]) td10 tl10
            have E10 := pair_at (K := K) 6 2 td10 tl10 s10
            obtain ⟨Ld, Ll⟩ := Dn10.off nL
            have DL := Dn10.set (o := .lst [.ref t1, .ref t2, .ref t3, .ref t4, .ref t5, .ref t6, .ref t7, .ref t8, .ref t9, .ref t10]) Ld Ll
            have sL := hide_new (d := d) (l := l) (o := .lst [.ref t1, .ref t2, .ref t3, .ref t4, .ref t5, .ref t6, .ref t7, .ref t8, .ref t9, .ref t10]) nL
            have k10 := sL
            have k9 := s10.trans k10
            have k8 := s9.trans k9
            have k7 := s8.trans k8
            have k6 := s7.trans k7
            have k5 := s6.trans k6
            have k4 := s5.trans k5
            have k3 := s4.trans k4
            have k2 := s3.trans k3
            have k1 := s2.trans k2
            refine ⟨d, l, L, [.ref t1, .ref t2, .ref t3, .ref t4, .ref t5, .ref t6, .ref t7, .ref t8, .ref t9, .ref t10], rfl, DL, .inl (.inl (by rw [hide_eq Ld Ll, upd_same])), (by show 1 ≤ 10; decide), (by show 10 ≤ 1000; decide), fun H' x D' S' hx => ?_⟩
            simp only [List.mem_cons, List.not_mem_nil, or_false] at hx
            rcases hx with rfl | rfl | rfl | rfl | rfl | rfl | rfl | rfl | rfl | rfl
            · exact go _ _ ⟨t1, 1, 6, rfl, D', seqT_same (k1.trans S') E1, by decide, by decide, by decide, by decide⟩
            · exact go _ _ ⟨t2, 2, 6, rfl, D', seqT_same (k2.trans S') E2, by decide, by decide, by decide, by decide⟩
            · exact go _ _ ⟨t3, 3, 6, rfl, D', seqT_same (k3.trans S') E3, by decide, by decide, by decide, by decide⟩
            · exact go _ _ ⟨t4, 6, 3, rfl, D', seqT_same (k4.trans S') E4, by decide, by decide, by decide, by decide⟩
            · exact go _ _ ⟨t5, 4, 5, rfl, D', seqT_same (k5.trans S') E5, by decide, by decide, by decide, by decide⟩
            · exact go _ _ ⟨t6, 5, 4, rfl, D', seqT_same (k6.trans S') E6, by decide, by decide, by decide, by decide⟩
            · exact go _ _ ⟨t7, 3, 5, rfl, D', seqT_same (k7.trans S') E7, by decide, by decide, by decide, by decide⟩
            · exact go _ _ ⟨t8, 2, 5, rfl, D', seqT_same (k8.trans S') E8, by decide, by decide, by decide, by decide⟩
            · exact go _ _ ⟨t9, 4, 4, rfl, D', seqT_same (k9.trans S') E9, by decide, by decide, by decide, by decide⟩
            · exact go _ _ ⟨t10, 6, 2, rfl, D', seqT_same (k10.trans S') E10, by decide, by decide, by decide, by decide⟩
          · exact go _ _ ⟨z, 1 + r1, 1 + r2, rfl, D7, seqT_same S7 hz, by omega, by omega, by omega, by omega⟩
        · exact go _ _ ⟨z, 1 + r1, 1 + r2, rfl, D6, hz, by omega, by omega, by omega, by omega⟩
      · rintro σ H6 ⟨z, R, B, rfl, D6, hz, r1, r2, b1, b2⟩
        refine ⟨_, rfl, _, rfl, d, l, z, R, B, rfl, D6, hz, r1, r2, b1, b2, fun H7 pv7 ds D7 S7 pok hp7 => ?_⟩
        refine ⟨_, rfl, pv7, R, B, ds, rfl, hp7.un, pok, fun H3 rp xs S3 hxs rds => ?_⟩
        refine ⟨rp, rfl, ⟨_, .inl (.inl hxs)⟩, fun TD nTD => ?_⟩
        have l66 := told_len pok
        have lxs := rds.len
        refine lc_it (walk_list (xs := xs)) (fun i H' => Same H3 H' ∧ ∃ acc, H' TD = some (.lst acc) ∧ DqAll K H3 acc (((toldL R B ds).take i).map toldD)) ⟨same_new nTD, [], upd_same, by rw [List.take_zero]; exact .nil⟩ (fun i H' _ hP => .inl (.inl (hP.1 _ _ hxs))) ?_ ?_
        · rintro i x H4 H5 hi ⟨S4, acc, hT, dq⟩ ⟨rfl, hx⟩
          obtain ⟨T, eT, q1, y, t, rfl, hq1, ht⟩ := rds.at hx
          have lacc := dq.len
          rw [List.length_map, List.length_take] at lacc
          refine ⟨q1, _, rfl, seqT_same S4 hq1, rfl, _, _, rfl, _, _, rfl, rfl, rfl, ?_⟩
          refine ⟨_, rfl, acc, hT, small1000 (by omega), same_put S4 nTD, _, upd_same, ?_⟩
          rw [take_succ eT, List.map_append]
          exact dq.app (.cons (told_dq ht) .nil)
        · rintro H4 ⟨S4, acc, hT, dq⟩
          rw [List.take_of_length_le (by omega)] at dq
          have D3 := D7.same S3
          have D4 := D3.same S4
          have S34 : Same (hide H7 d l) (hide H4 d l) := hide_mono (S3.trans S4)
          have hp4 := hp7.to S34
          obtain ⟨TDd, TDl⟩ := D3.off nTD
          have ht4 : Dq K (hide H4 d l) (.ref TD) (.list ((toldL R B ds).map toldD)) := .lst (.inl (.inl (by rw [hide_eq TDd TDl]; exact hT))) ((tolds_hide D3 dq).to (hide_mono S4))
          apply share2 (P := fun σ H => ∃ (mp : Addr) (ms : List Int), σ = [some (.ref a), some (.ref d), some (.int i), some (.ref z), some pv7, some (.ref TD), some (.ref mp), y7, y8, y9, none, none] ∧ Deck H d l ∧ Same (hide H4 d l) (hide H d l) ∧ SqL K (hide H d l) mp (ms.map V.int) ∧ 1 ≤ ms.length ∧ ms.length ≤ 1000 ∧ ∀ x ∈ ms, 0 ≤ x ∧ x ≤ big)
          · intro go
            refine ⟨_, rfl, _, _, rfl, rfl, _, rfl, ite2 (fun _ => ?_) (fun _ => ?_)⟩
            · refine ⟨(by show 5 ≤ sizeLine; decide), fun m nm => ?_⟩
              obtain ⟨md, ml⟩ := D4.off nm
              exact go _ _ ⟨m, [0, 1, 2, 5, 9], rfl, D4.new nm, hide_new nm, .inl (.inl ((hide_eq md ml).trans upd_same)), by decide, by decide, by decide⟩
            · refine ⟨_, _, rfl, rfl, ⟨by decide, by decide, by decide⟩, _, _, rfl, rfl, ⟨by decide, by decide, by decide⟩, (by show 4 ≤ sizeLine; decide), fun m nm => ?_⟩
              obtain ⟨md, ml⟩ := D4.off nm
              exact go _ _ ⟨m, [0, 10 ^ (30 : Int).toNat, 10 ^ (30 : Int).toNat, 1], rfl, D4.new nm, hide_new nm, .inl (.inl ((hide_eq md ml).trans upd_same)), by decide, by decide, by decide⟩
          · rintro σ H8 ⟨mp, ms, rfl, D8, S48, hm, m1, m2, mb⟩
            have hp8 := hp4.to S48
            have ht8 := ht4.to S48
            refine ⟨_, rfl, _, rfl, _, rfl, _, rfl, d, l, mp, pv7, .ref TD, R, B, ds, ms, rfl, D8, hp8, ht8, hm, m1, m2, mb, pok, fun H9 cv C D9 S9 G hc => ?_⟩
            have cb : ∀ own ∈ C, own.length ≤ 6 ∧ ∀ x ∈ own, 0 ≤ x ∧ x ≤ big := fun own ho => by
              refine ⟨Nat.le_trans (good_len G own ho) b2, ?_⟩
              obtain ⟨j, hj, e⟩ := List.mem_iff_getElem.mp ho
              have hj2 : j < ds.length := G.len ▸ hj
              exact (G.row j own ds[j] (by rw [List.getElem?_eq_getElem hj, e]) (List.getElem?_eq_getElem hj2)).2
            have lC : C.length = ds.length := G.len
            have tmC : Tm 900 10 (countsD C) := (tm_rows cb).tup.mono (by have := pok.d2; omega) (by omega)
            have hp9 := hp8.to S9
            have ht9 := ht8.to S9
            refine ⟨_, rfl, _, rfl, _, rfl, _, rfl, rfl, pv7, .ref TD, cv, _, R, B, ds, countsD C, rfl, hp9.un, ht9.un, hc.un, tmC, pok, fun HA SA => ?_⟩
            refine ⟨_, rfl, iteF ?_⟩
            have DA := D9.same SA
            have S9A : Same (hide H9 d l) (hide HA d l) := hide_mono SA
            refine ⟨2, rfl, by omega, by omega, ?_⟩
            refine for_it walk_range0 (fun k σ H' => ∃ y8 y9, σ = [some (.ref a), some (.ref d), some (.int i), some (.ref z), some pv7, some (.ref TD), some (.ref mp), some cv, y8, y9, none, none] ∧ Deck H' d l ∧ Same (hide HA d l) (hide H' d l))
              ⟨_, _, rfl, DA, Same.refl _⟩ (fun _ _ _ _ _ => trivial) ?_ ?_
            · rintro k v σ HB0 HB hk ⟨y8, y9, rfl, DB, SB⟩ ⟨rfl, rfl⟩
              have S9B := S9A.trans SB
              refine ⟨_, rfl, _, rfl, _, rfl, _, rfl, d, l, cv, C, rfl, DB, hc.to S9B, by have := pok.d1; omega, by have := pok.d2; omega, cb, fun HC v x DC SC hx tx => ?_⟩
              have S9C := S9B.trans SC
              refine ⟨_, rfl, _, rfl, rfl, pv7, .ref TD, v, _, R, B, ds, x, rfl, (hp9.to S9C).un, (ht9.to S9C).un, hx.un, tx, pok, fun HD SD => ?_⟩
              exact ⟨_, rfl, iteF ⟨_, _, rfl, DC.same SD, SB.trans (SC.trans (hide_mono SD))⟩⟩
            · rintro σ HB ⟨y8, y9, rfl, DB, SB⟩
              exact ⟨_, _, _, _, _, _, _, _, rfl, DB⟩
    · rintro σ H2 ⟨y2, y3, y4, y5, y6, y7, y8, y9, rfl, D2⟩
      refine ⟨1, rfl, (by show 3 ≤ sizeLine; decide), fun t1 n1 => ⟨1, rfl, (by show 3 ≤ sizeLine; decide), fun t2 n2 => ⟨1, rfl, (by show 3 ≤ sizeLine; decide), fun t3 n3 => ⟨(by show 3 ≤ sizeLine; decide), fun tt ntt => ⟨(by show 3 ≤ sizeLine; decide), fun pl npl => ?_⟩⟩⟩⟩⟩
      have E1 : Dq K (upd _ t1 (.tup [.int (-1), .int 0, .int 0])) (.ref t1) (doorD ⟨-1, 0, 0⟩) := .newT (.cons (.int (-1)) (.cons (.int 0) (.cons (.int 0) .nil))) n1
      have E2 : Dq K (upd _ t2 (.tup [.int (-1), .int 0, .int 0])) (.ref t2) (doorD ⟨-1, 0, 0⟩) := .newT (.cons (.int (-1)) (.cons (.int 0) (.cons (.int 0) .nil))) n2
      have E3 : Dq K (upd _ t3 (.tup [.int 0, .int (-1), .int 0])) (.ref t3) (doorD ⟨0, -1, 0⟩) := .newT (.cons (.int 0) (.cons (.int (-1)) (.cons (.int 0) .nil))) n3
      have s2 := same_new (o := .tup [.int (-1), .int 0, .int 0]) n2
      have s3 := same_new (o := .tup [.int 0, .int (-1), .int 0]) n3
      have ET := Dq.newT (.cons (E1.to (s2.trans s3)) (.cons (E2.to s3) (.cons E3 .nil))) ntt
      have EP := Dq.newT (.cons (.int (K := K) 1) (.cons (.int 2) (.cons ET .nil))) npl
      have hpl : Dq K _ (.ref pl) (planD 1 2 [⟨-1, 0, 0⟩, ⟨-1, 0, 0⟩, ⟨0, -1, 0⟩]) := EP
      have pok : PlanOk 1 2 [⟨-1, 0, 0⟩, ⟨-1, 0, 0⟩, ⟨0, -1, 0⟩] := by
        refine ⟨by decide, by decide, by decide, by decide, by decide, by decide, fun d hd => ?_⟩
        simp only [List.mem_cons, List.not_mem_nil, or_false] at hd
        rcases hd with rfl | rfl | rfl
        · exact .inl ⟨rfl, by decide, by decide, rfl⟩
        · exact .inl ⟨rfl, by decide, by decide, rfl⟩
        · exact .inr (.inl ⟨by decide, by decide, rfl, rfl⟩)
      generalize eds : ([⟨-1, 0, 0⟩, ⟨-1, 0, 0⟩, ⟨0, -1, 0⟩] : List Door) = ds at hpl pok
      refine ⟨_, rfl, (.ref pl), 1, 2, ds, rfl, hpl, pok, fun H3 rp xs S3 hxs rds => ?_⟩
      refine ⟨rp, rfl, ⟨_, .inl (.inl hxs)⟩, fun TD nTD => ?_⟩
      have l66 := told_len pok
      have lxs := rds.len
      refine lc_it (walk_list (xs := xs)) (fun i H' => Same H3 H' ∧ ∃ acc, H' TD = some (.lst acc) ∧ DqAll K H3 acc (((toldL 1 2 ds).take i).map toldD)) ⟨same_new nTD, [], upd_same, by rw [List.take_zero]; exact .nil⟩ (fun i H' _ hP => .inl (.inl (hP.1 _ _ hxs))) ?_ ?_
      · rintro i x H4 H5 hi ⟨S4, acc, hT, dq⟩ ⟨rfl, hx⟩
        obtain ⟨T, eT, q1, y, t, rfl, hq1, ht⟩ := rds.at hx
        have lacc := dq.len
        rw [List.length_map, List.length_take] at lacc
        refine ⟨q1, _, rfl, seqT_same S4 hq1, rfl, _, _, rfl, _, _, rfl, rfl, rfl, ?_⟩
        refine ⟨_, rfl, acc, hT, small1000 (by omega), same_put S4 nTD, _, upd_same, ?_⟩
        rw [take_succ eT, List.map_append]
        exact dq.app (.cons (told_dq ht) .nil)
      · rintro H4 ⟨S4, acc, hT, dq⟩
        rw [List.take_of_length_le (by omega)] at dq
        have hp4 := hpl.to (S3.trans S4)
        have ht4 : Dq K H4 (.ref TD) (.list ((toldL 1 2 ds).map toldD)) := .lst (.inl (.inl hT)) (dq.to S4)
        refine ⟨(by show 3 ≤ sizeLine; decide), fun T nT => ⟨T, rfl, ⟨_, .inl (.inl upd_same)⟩, ?_⟩⟩
        have sT := same_new (o := .tup [.int 0, .int 1, .int 2]) nT
        refine for_it (walk_tup (xs := [.int 0, .int 1, .int 2])) (fun i σ H' => ∃ y9, σ = [some (.ref a), some (.ref d), y2, y3, some (.ref pl), some (.ref TD), y6, y7, y8, y9, none, none] ∧ Same (upd H4 T (.tup [.int 0, .int 1, .int 2])) H')
          ⟨_, rfl, Same.refl _⟩ (fun i σ H' _ hP => ?_) ?_ ?_
        · obtain ⟨_, _, hS⟩ := hP
          exact seqT_same hS (.inl (.inl upd_same))
        · rintro i x σ H5 H6 hi ⟨y9, rfl, hS⟩ ⟨rfl, hx⟩
          obtain ⟨k, rfl, hk⟩ : ∃ k : Nat, x = .int k ∧ k ≤ 2 := by
            have := List.mem_of_getElem? hx
            simp only [List.mem_cons, List.not_mem_nil, or_false] at this
            rcases this with e | e | e
            · exact ⟨0, e, by decide⟩
            · exact ⟨1, e, by decide⟩
            · exact ⟨2, e, by decide⟩
          have e30 : (10 : Int) ^ (30 : Int).toNat = big := by decide
          refine ⟨_, rfl, _, rfl, _, _, rfl, rfl, ⟨by decide, by decide, by decide⟩, _, _, rfl, rfl, (by show 2 ≤ sizeLine; decide), fun a1 na1 => ⟨_, rfl, (by show 2 ≤ sizeLine; decide), fun a2 na2 => ⟨(by show 2 ≤ sizeLine; decide), fun a3 na3 => ⟨(by show 3 ≤ sizeLine; decide), fun c nc => ?_⟩⟩⟩⟩
          have G1 := Dq.newT (.cons (.int (K := K) ((10 : Int) ^ (30 : Int).toNat - 1)) (.cons (.int 0) .nil)) na1
          have G2 := Dq.newT (.cons (.int (K := K) 1) (.cons (.int (k : Int)) .nil)) na2
          have G3 := Dq.newT (.cons (.int (K := K) 0) (.cons (.int 1) .nil)) na3
          have u1 := same_new (o := .tup [.int ((10 : Int) ^ (30 : Int).toNat - 1), .int 0]) na1
          have u2 := same_new (o := .tup [.int 1, .int (k : Int)]) na2
          have u3 := same_new (o := .tup [.int 0, .int 1]) na3
          have GC := Dq.newT (.cons (G1.to (u2.trans u3)) (.cons (G2.to u3) (.cons G3 .nil))) nc
          have uc := same_new (o := .tup [.ref a1, .ref a2, .ref a3]) nc
          have S6 := hS.trans (u1.trans (u2.trans (u3.trans uc)))
          have tm : Tm 900 10 (.tuple [.tuple [.int ((10 : Int) ^ (30 : Int).toNat - 1), .int 0], .tuple [.int 1, .int (k : Int)], .tuple [.int 0, .int 1]]) := by
            rw [e30]
            refine (Tm.tup (k := 1) (.cons (Tm.tup (.cons (.int (by decide +kernel)) (.cons (.nat (i := 0) (by omega)) .nil))) (.cons (Tm.tup (.cons (.nat (i := 1) (by omega)) (.cons (.nat (by omega)) .nil))) (.cons (Tm.tup (.cons (.nat (i := 0) (by omega)) (.cons (.nat (i := 1) (by omega)) .nil))) (TmA.nil.mono (Nat.le_refl _) (by omega)))))).mono (by omega) (by omega)
          refine ⟨.ref pl, .ref TD, .ref c, false, 1, 2, ds, _, rfl, hp4.to (sT.trans S6), ht4.to (sT.trans S6), GC, tm, pok, fun H7 S7 => ?_⟩
          exact ⟨_, rfl, iteF ⟨_, rfl, S6.trans S7⟩⟩
        · rintro σ H5 ⟨y9, rfl, hS⟩
          exact q _
end
end K8

namespace K8
open PySem PySem.Spec PyProof.Rows L2

/-! ## what the top has written -/
def DefAt (K : PySem.W.Frag) (mg : Str → Option Value) (x : Str) (i : Nat) : Prop := ∃ (f : Addr) (fd : FuncData), Fun K x x (topS i) f fd ∧ mg x = some (.ref f)
theorem def_at {K : PySem.W.Frag} {h : Heap} {mg : Str → Option Value} {x : Str} {i : Nat} {f : Addr} {od an : Option Addr} {sl : Array (Option Value)} {oc kV dc pm cd ct : Value} (X : K.In h) (G : h.Ns mainGlobals mg)
    (a : PySem.W.nsIn K mainGlobals x = some (some (.ref f))) (l : K.lookup f = some ⟨oc, od, .func (PySem.W.fnOf x x (defArgs (topS i)) (defBody (topS i)) (defScope (topS i)) .none kV dc pm an cd ct), sl⟩) (c : PySem.W.codeIn K cd x = true) (k : PySem.W.keepIn K (.ref f) = true) :
    DefAt K mg x i := ⟨f, _, fun_mk (st := topS i) l c k, PySem.W.mg_of X G a⟩
section
variable {P : Program} {w : World} {K : PySem.W.Frag} {mg : Str → Option Value} {base : Heap} {x p1 p2 : Str} {i k : Nat} {ps : List Str} {sp : Sp} {CX : CXT}
theorem DefAt.has (D : DefAt K mg x i) (ok : ∀ f fd, Fun K x x (topS i) f fd → FnOk P w K mg base CX k f fd ps sp)
    (b : ∀ (kV doc pm : Value) (an : Option Addr) (cdv ct : Value) (us : List Value), us.length = ps.length → bindArgs (PySem.W.fnOf x x (defArgs (topS i)) (defBody (topS i)) (defScope (topS i)) .none kV doc pm an cdv ct) ⟨us, []⟩ = pure (ps.zip us)) : Has P w K mg base CX k x ps sp := by
  obtain ⟨f, fd, F, g⟩ := D
  exact ⟨f, fd, ok f fd F, g, F.kp, F.binds b⟩
theorem DefAt.hasK (D : DefAt K mg x i) (ok : ∀ f fd, Fun K x x (topS i) f fd → FnOk P w K mg base CX k f fd [p1, p2] sp)
    (b : ∀ (kV doc pm : Value) (an : Option Addr) (cdv ct : Value) (us : List Value), us.length = 2 → bindArgs (PySem.W.fnOf x x (defArgs (topS i)) (defBody (topS i)) (defScope (topS i)) .none kV doc pm an cdv ct) ⟨us, []⟩ = pure ([p1, p2].zip us))
    (sw : ∀ (kV doc pm : Value) (an : Option Addr) (cdv ct a b : Value), bindArgs (PySem.W.fnOf x x (defArgs (topS i)) (defBody (topS i)) (defScope (topS i)) .none kV doc pm an cdv ct) ⟨[], [(p2, a), (p1, b)]⟩ = pure [(p1, b), (p2, a)]) : HasK P w K mg base CX k x p1 p2 sp := by
  obtain ⟨f, fd, F, g⟩ := D
  refine ⟨f, fd, ok f fd F, g, F.kp, F.binds b, ?_⟩
  obtain ⟨oc, od, kV, doc, pm, an, cdv, ct, osl, rfl, lk, hcd⟩ := F.ex
  exact fun s a b => .of_eq (sw _ _ _ _ _ _ a b)
theorem DefAt.hasG (D : DefAt K mg x i) (ok : ∀ f fd, Fun K x x (topS i) f fd → FnG P w K mg base k f fd ps sp)
    (b : ∀ (kV doc pm : Value) (an : Option Addr) (cdv ct : Value) (us : List Value), us.length = ps.length → bindArgs (PySem.W.fnOf x x (defArgs (topS i)) (defBody (topS i)) (defScope (topS i)) .none kV doc pm an cdv ct) ⟨us, []⟩ = pure (ps.zip us)) : HasG P w K mg base k x ps sp := by
  obtain ⟨f, fd, F, g⟩ := D
  exact ⟨f, fd, ok f fd F, g, F.kp, F.binds b⟩
end
/-! ## the two error classes -/
def initS (i : Nat) : Stmt := match topS i with
  | .ClassDef _ _ _ body _ _ _ _ _ _ _ => body.getD 0 (.Pass ⟨0, 0, 0, 0⟩)
  | _ => .Pass ⟨0, 0, 0, 0⟩
theorem ok_bad {w : World} {K : PySem.W.Frag} {mg : Str → Option Value} {base : Heap} {C f cc cda : Addr} {kV dc pm ct oc : Value} {an od : Option Addr} {osl : Array (Option Value)} (c : IniC K P0 C f cc cda "error") (mS : mg "super" = none)
    (hf : K.lookup f = some ⟨oc, od, .func (PySem.W.ksFn "__init__" "BadTally.__init__" (defArgs (initS 3)) (defBody (initS 3)) (defScope (initS 3)) .none kV dc pm an (.ref cda) ct cc), osl⟩) (hcd : PySem.W.codeIn K (.ref cda) "BadTally.__init__" = true) :
    FnOk P0 w K mg base CX0 1 f (PySem.W.ksFn "__init__" "BadTally.__init__" (defArgs (initS 3)) (defBody (initS 3)) (defScope (initS 3)) .none kV dc pm an (.ref cda) ct cc) ["self", "error"] (spInit C "error") :=
  ok_init rfl c mS (by decide +kernel) hf hcd rfl rfl (by decide +kernel) (by decide +kernel) (by decide +kernel) (by decide +kernel) (by decide +kernel) (fun _ => rfl) (fun _ => rfl)
theorem ok_many {w : World} {K : PySem.W.Frag} {mg : Str → Option Value} {base : Heap} {C f cc cda : Addr} {kV dc pm ct oc : Value} {an od : Option Addr} {osl : Array (Option Value)} (c : IniC K P0 C f cc cda "limit") (mS : mg "super" = none)
    (hf : K.lookup f = some ⟨oc, od, .func (PySem.W.ksFn "__init__" "TooMany.__init__" (defArgs (initS 4)) (defBody (initS 4)) (defScope (initS 4)) .none kV dc pm an (.ref cda) ct cc), osl⟩) (hcd : PySem.W.codeIn K (.ref cda) "TooMany.__init__" = true) :
    FnOk P0 w K mg base CX0 1 f (PySem.W.ksFn "__init__" "TooMany.__init__" (defArgs (initS 4)) (defBody (initS 4)) (defScope (initS 4)) .none kV dc pm an (.ref cda) ct cc) ["self", "limit"] (spInit C "limit") :=
  ok_init rfl c mS (by decide +kernel) hf hcd rfl rfl (by decide +kernel) (by decide +kernel) (by decide +kernel) (by decide +kernel) (by decide +kernel) (fun _ => rfl) (fun _ => rfl)
end K8

namespace K8
open PySem PySem.Spec PyProof.Rows L2

structure Facts (K : PySem.W.Frag) (mg : Str → Option Value) : Prop where
  d6 : DefAt K mg "is_integer" 6
  d8 : DefAt K mg "beats_of" 8
  d10 : DefAt K mg "is_count" 10
  d12 : DefAt K mg "come_to" 12
  d13 : DefAt K mg "gone_from" 13
  d14 : DefAt K mg "waits_of" 14
  d15 : DefAt K mg "are_counts" 15
  d16 : DefAt K mg "counts_error" 16
  d17 : DefAt K mg "tally_of_plan" 17
  d19 : DefAt K mg "_law_deck" 19
  d20 : DefAt K mg "_law_draw" 20
  d21 : DefAt K mg "_law_pick" 21
  d22 : DefAt K mg "_law_shuffled" 22
  d23 : DefAt K mg "_law_plan" 23
  d24 : DefAt K mg "_law_place" 24
  d25 : DefAt K mg "_law_roads" 25
  d27 : DefAt K mg "_law_tally_due" 27
  d28 : DefAt K mg "_law_moved" 28
  d29 : DefAt K mg "_law_is_count" 29
  d30 : DefAt K mg "_law_due" 30
  d31 : DefAt K mg "_law_heard" 31
  d32 : DefAt K mg "_law_is_right" 32
  d33 : DefAt K mg "_law_drawn" 33
  d34 : DefAt K mg "_law_spoilt" 34
  d35 : DefAt K mg "law" 35
  z_isinstance : mg "isinstance" = none
  z_int : mg "int" = none
  z_bool : mg "bool" = none
  z_max : mg "max" = none
  z_zip : mg "zip" = none
  z_sum : mg "sum" = none
  z_len : mg "len" = none
  z_range : mg "range" = none
  z_tuple : mg "tuple" = none
  z_enumerate : mg "enumerate" = none
  z_list : mg "list" = none
  z_abs : mg "abs" = none
  z_all : mg "all" = none
  z_repr : mg "repr" = none
  z_super : mg "super" = none
  big : ∃ tk, mg "MAX_COUNT" = some (.int big tk)
  err : ∃ CT CB CM, ErrC K mg CT CB CM ∧ ∀ (w : World) (base : Heap), HasE P0 w K mg base CB "BadTally" "error" ∧ HasE P0 w K mg base CM "TooMany" "limit"
theorem law_goes {w : World} {K : PySem.W.Frag} {mg : Str → Option Value} (D : Facts K mg) (base : Heap) {f : Addr} {fd : FuncData} (F : Fun K "law" "law" sLaw f fd) : FnG P0 w K mg base 8 f fd ["_law_script"] (spLaw K) := by
  obtain ⟨tk, mM⟩ := D.big
  obtain ⟨CT, CB, CM, er, he⟩ := D.err
  obtain ⟨TB, TM⟩ := he w base
  have C6 := D.d6.has (P := P0) (w := w) (base := base) (fun _ _ F => ok_is_integer F D.z_isinstance D.z_int D.z_bool) (fun _ _ _ _ _ _ us hl => match us, hl with | [_], _ => rfl)
  have C8 := D.d8.has (P := P0) (w := w) (base := base) (fun _ _ F => ok_beats_of F D.z_max) (fun _ _ _ _ _ _ us hl => match us, hl with | [_, _], _ => rfl)
  have C10 := D.d10.has (P := P0) (w := w) (base := base) (fun _ _ F => ok_is_count F C6 mM) (fun _ _ _ _ _ _ us hl => match us, hl with | [_], _ => rfl)
  have C12 := D.d12.has (P := P0) (w := w) (base := base) (fun _ _ F => ok_come_to F D.z_zip) (fun _ _ _ _ _ _ us hl => match us, hl with | [_, _, _, _], _ => rfl)
  have C13 := D.d13.has (P := P0) (w := w) (base := base) (fun _ _ F => ok_gone_from F D.z_zip D.z_sum D.z_len) (fun _ _ _ _ _ _ us hl => match us, hl with | [_, _, _, _], _ => rfl)
  have C14 := D.d14.has (P := P0) (w := w) (base := base) (fun _ _ F => ok_waits_of F C12 C13 D.z_range D.z_sum) (fun _ _ _ _ _ _ us hl => match us, hl with | [_, _], _ => rfl)
  have C15 := D.d15.has (P := P0) (w := w) (base := base) (fun _ _ F => ok_are_counts F C10 D.z_isinstance D.z_tuple D.z_len) (fun _ _ _ _ _ _ us hl => match us, hl with | [_, _], _ => rfl)
  have C16 := D.d16.hasK (P := P0) (w := w) (base := base) (p1 := "plan") (p2 := "value") (fun _ _ F => ok_counts_error F C15 C8 C14 D.z_isinstance D.z_tuple D.z_len D.z_enumerate) (fun _ _ _ _ _ _ us hl => match us, hl with | [_, _], _ => rfl) (fun _ _ _ _ _ _ _ _ => rfl)
  have C17 := D.d17.hasK (P := P0) (w := w) (base := base) (p1 := "plan") (p2 := "counts") (fun _ _ F => ok_tally F C16.has C14 TB TM mM D.z_list D.z_max D.z_tuple) (fun _ _ _ _ _ _ us hl => match us, hl with | [_, _], _ => rfl) (fun _ _ _ _ _ _ _ _ => rfl)
  have C19 := D.d19.has (P := P0) (w := w) (base := base) (fun _ _ F => ok_deck F D.z_len D.z_abs D.z_int) (fun _ _ _ _ _ _ us hl => match us, hl with | [_], _ => rfl)
  have C20 := D.d20.has (P := P0) (w := w) (base := base) (fun _ _ F => ok_draw F D.z_int) (fun _ _ _ _ _ _ us hl => match us, hl with | [_, _], _ => rfl)
  have C21 := D.d21.has (P := P0) (w := w) (base := base) (fun _ _ F => ok_pick F C20 D.z_len) (fun _ _ _ _ _ _ us hl => match us, hl with | [_, _], _ => rfl)
  have C22 := D.d22.has (P := P0) (w := w) (base := base) (fun _ _ F => ok_shuf F C20 D.z_len D.z_list) (fun _ _ _ _ _ _ us hl => match us, hl with | [_, _], _ => rfl)
  have C23 := D.d23.has (P := P0) (w := w) (base := base) (fun _ _ F => ok_plan F C20 C21 C22 D.z_range D.z_tuple) (fun _ _ _ _ _ _ us hl => match us, hl with | [_, _], _ => rfl)
  have C24 := D.d24.has (P := P0) (w := w) (base := base) (fun _ _ F => ok_place F ) (fun _ _ _ _ _ _ us hl => match us, hl with | [_, _, _], _ => rfl)
  have C25 := D.d25.has (P := P0) (w := w) (base := base) (fun _ _ F => ok_roads F C24 D.z_range D.z_enumerate) (fun _ _ _ _ _ _ us hl => match us, hl with | [_], _ => rfl)
  have C28 := D.d28.has (P := P0) (w := w) (base := base) (fun _ _ F => ok_moved F ) (fun _ _ _ _ _ _ us hl => match us, hl with | [_, _, _, _, _], _ => rfl)
  have C27 := D.d27.has (P := P0) (w := w) (base := base) (fun _ _ F => ok_due0 F C28 D.z_range D.z_enumerate D.z_len D.z_tuple) (fun _ _ _ _ _ _ us hl => match us, hl with | [_, _, _], _ => rfl)
  have C29 := D.d29.has (P := P0) (w := w) (base := base) (fun _ _ F => ok_lcount F D.z_isinstance D.z_int D.z_bool) (fun _ _ _ _ _ _ us hl => match us, hl with | [_], _ => rfl)
  have C30 := D.d30.has (P := P0) (w := w) (base := base) (fun _ _ F => ok_due F C29 C27 D.z_enumerate D.z_len D.z_tuple D.z_isinstance D.z_all) (fun _ _ _ _ _ _ us hl => match us, hl with | [_, _, _], _ => rfl)
  have C31 := D.d31.has (P := P0) (w := w) (base := base) (fun _ _ F => ok_heard F C17 er D.z_isinstance) (fun _ _ _ _ _ _ us hl => match us, hl with | [_, _, _], _ => rfl)
  have C32 := D.d32.hasG (P := P0) (w := w) (base := base) (fun _ _ F => ok_right F C16 C30 C31 D.z_repr D.z_max) (fun _ _ _ _ _ _ us hl => match us, hl with | [_, _, _, _], _ => rfl)
  have C33 := D.d33.has (P := P0) (w := w) (base := base) (fun _ _ F => ok_drawn F C21 D.z_range D.z_len D.z_tuple) (fun _ _ _ _ _ _ us hl => match us, hl with | [_, _, _, _], _ => rfl)
  have C34 := D.d34.has (P := P0) (w := w) (base := base) (fun _ _ F => ok_spoilt F C20 C21 D.z_len D.z_list) (fun _ _ _ _ _ _ us hl => match us, hl with | [_, _], _ => rfl)
  exact ok_law F C19 C20 C21 C23 C25 C33 C34 C32 D.z_range
theorem fin {w : World} {K : PySem.W.Frag} {mg : Str → Option Value} {h : Heap} {fa : Addr} (KX : K.In h) (hmg : mg "law" = some (.ref fa)) (D : Facts K mg) :
    ∃ fd : FuncData, (∀ (s : Shared) (u : Value), BindsTo s fd ⟨[u], []⟩ [("_law_script", u)]) ∧ ∀ base : Heap, K.In base → base.Ns mainGlobals mg → FnG P0 w K mg base 8 fa fd ["_law_script"] (spLaw K) := by
  obtain ⟨f, fd, F, g⟩ := id D.d35
  obtain rfl : fa = f := by
    have e := hmg.symm.trans g
    injection e with e
    injection e
  refine ⟨fd, ?_, fun base _ _ => law_goes D base F⟩
  obtain ⟨oc, od, kV, doc, pm, an, cdv, ct, osl, rfl, lk, hcd⟩ := F.ex
  exact fun s u => .of_eq rfl
theorem err_mk {K : PySem.W.Frag} {h : Heap} {mg : Str → Option Value} {CT CB CM fB fM : Addr} (X : K.In h) (G : h.Ns mainGlobals mg) (aT : PySem.W.nsIn K mainGlobals "TripError" = some (some (.ref CT)))
    (op : PySem.W.nsIn K cStatics "thirdparty.any" = some none) (hn : PySem.W.specialIn K (.builtin "object.__class__") "__get__" = some (some (.builtin "getset_descriptor.__get__"))) (ht : PySem.W.takesIn K (.builtin "object.__class__") = some true) (zS : PySem.W.nsIn K mainGlobals "super" = some none)
    {nmB qB : Str} {NB : Addr} {bsB bmB : List Value} {snB : List Str} {subB : List Value} {abB : Bool} {colB : Option Bool} {ddB : Option Addr} {k0B k1B k2B k3B k5B : Option Value}
    {kVB dcB pmB ctB ocB clB cclB : Value} {anB odB cldB cddB : Option Addr} {oslB cslB ccsB : Array (Option Value)} {ccB cdaB : Addr} {vsB : Array Value} {fileB : Str} {tfB : Tok}
    (aB : PySem.W.nsIn K mainGlobals "BadTally" = some (some (.ref CB))) (xB : K.lookup CB = some (excClassObj nmB qB CB NB bsB bmB true snB subB abB colB ddB k0B k1B k2B k3B k5B "ValueError.__new__")) (rB : PySem.HandSPX.refsVE bmB = true)
    (saB : PySem.W.findIn K (.ref CB) "__setattr__" = some (some (.builtin "object.__setattr__"))) (exB : PySem.W.subIn K (.ref CB) (.type "BaseException") = some true) (tyB : PySem.W.typeIn K (.ref CB) = some (.type "type")) (kpB : PySem.W.keepIn K (.ref CB) = true)
    (iB : PySem.W.findIn K (.ref CB) "__init__" = some (some (.ref fB))) (tB : PySem.W.typeIn K (.ref fB) = some (.type "function"))
    (lB : K.lookup fB = some ⟨ocB, odB, .func (PySem.W.ksFn "__init__" "BadTally.__init__" (defArgs (initS 3)) (defBody (initS 3)) (defScope (initS 3)) .none kVB dcB pmB anB (.ref cdaB) ctB ccB), oslB⟩) (cB : PySem.W.codeIn K (.ref cdaB) "BadTally.__init__" = true)
    (suB : PySem.W.ks_superIn K CB CB "__init__" = some (some (.builtin "ValueError.__init__"))) (seB : PySem.W.mroIn K CB (.ref CB) = some true) (vB : PySem.W.subIn K (.ref CB) (.type "ValueError") = some true) (noB : PySem.W.findIn K (.ref CB) "error" = some none)
    (ceB : K.lookup ccB = some ⟨clB, cldB, .cell (some (.ref CB)), cslB⟩) (cdB : K.lookup cdaB = some ⟨cclB, cddB, .fields vsB, ccsB⟩) (v2B : vsB[2]? = some (.str fileB tfB)) (fiB : ((P0.main.file : Str) == fileB) = true)
    (gaB : PySem.W.findIn K (.ref CB) "__getattribute__" = some (some (.builtin "BaseException.__getattribute__"))) (ggB : PySem.W.findIn K (.ref CB) "__getattr__" = some none) (hdB : PySem.W.hasDictIn K CB = true)
    (haB : PySem.W.findIn K (.ref CB) "__class__" = some (some (.builtin "object.__class__"))) (hmB : PySem.W.mroIn K CB (.type "object") = some true) (kiB : PySem.W.kitOne K (.ref CB) (.ref CT) = some true) (xxB : PySem.W.exmOne K (.ref CB) (.ref CB) = some true)
    {nmM qM : Str} {NM : Addr} {bsM bmM : List Value} {snM : List Str} {subM : List Value} {abM : Bool} {colM : Option Bool} {ddM : Option Addr} {k0M k1M k2M k3M k5M : Option Value}
    {kVM dcM pmM ctM ocM clM cclM : Value} {anM odM cldM cddM : Option Addr} {oslM cslM ccsM : Array (Option Value)} {ccM cdaM : Addr} {vsM : Array Value} {fileM : Str} {tfM : Tok}
    (aM : PySem.W.nsIn K mainGlobals "TooMany" = some (some (.ref CM))) (xM : K.lookup CM = some (excClassObj nmM qM CM NM bsM bmM true snM subM abM colM ddM k0M k1M k2M k3M k5M "ValueError.__new__")) (rM : PySem.HandSPX.refsVE bmM = true)
    (saM : PySem.W.findIn K (.ref CM) "__setattr__" = some (some (.builtin "object.__setattr__"))) (exM : PySem.W.subIn K (.ref CM) (.type "BaseException") = some true) (tyM : PySem.W.typeIn K (.ref CM) = some (.type "type")) (kpM : PySem.W.keepIn K (.ref CM) = true)
    (iM : PySem.W.findIn K (.ref CM) "__init__" = some (some (.ref fM))) (tM : PySem.W.typeIn K (.ref fM) = some (.type "function"))
    (lM : K.lookup fM = some ⟨ocM, odM, .func (PySem.W.ksFn "__init__" "TooMany.__init__" (defArgs (initS 4)) (defBody (initS 4)) (defScope (initS 4)) .none kVM dcM pmM anM (.ref cdaM) ctM ccM), oslM⟩) (cM : PySem.W.codeIn K (.ref cdaM) "TooMany.__init__" = true)
    (suM : PySem.W.ks_superIn K CM CM "__init__" = some (some (.builtin "ValueError.__init__"))) (seM : PySem.W.mroIn K CM (.ref CM) = some true) (vM : PySem.W.subIn K (.ref CM) (.type "ValueError") = some true) (noM : PySem.W.findIn K (.ref CM) "limit" = some none)
    (ceM : K.lookup ccM = some ⟨clM, cldM, .cell (some (.ref CM)), cslM⟩) (cdM : K.lookup cdaM = some ⟨cclM, cddM, .fields vsM, ccsM⟩) (v2M : vsM[2]? = some (.str fileM tfM)) (fiM : ((P0.main.file : Str) == fileM) = true)
    (gaM : PySem.W.findIn K (.ref CM) "__getattribute__" = some (some (.builtin "BaseException.__getattribute__"))) (ggM : PySem.W.findIn K (.ref CM) "__getattr__" = some none) (hdM : PySem.W.hasDictIn K CM = true)
    (haM : PySem.W.findIn K (.ref CM) "__class__" = some (some (.builtin "object.__class__"))) (hmM : PySem.W.mroIn K CM (.type "object") = some true) (kiM : PySem.W.kitOne K (.ref CM) (.ref CT) = some true) (xxM : PySem.W.exmOne K (.ref CM) (.ref CM) = some true)
    (mb : PySem.W.exmOne K (.ref CM) (.ref CB) = some false) :
    ∃ CT CB CM, ErrC K mg CT CB CM ∧ ∀ (w : World) (base : Heap), HasE P0 w K mg base CB "BadTally" "error" ∧ HasE P0 w K mg base CM "TooMany" "limit" := by
  have mS := PySem.W.mg_none_of X G zS
  have oxB : OexC K CB := ⟨⟨_, _, _, _, _, _, _, _, _, _, _, _, _, _, _, xB, rB⟩, saB, exB, tyB, kpB⟩
  have icB : IniC K P0 CB fB ccB cdaB "error" := ⟨oxB, suB, seB, vB, op, noB, ⟨_, _, _, ceB⟩, ⟨_, _, _, _, _, _, cdB, v2B, fiB⟩⟩
  have oxM : OexC K CM := ⟨⟨_, _, _, _, _, _, _, _, _, _, _, _, _, _, _, xM, rM⟩, saM, exM, tyM, kpM⟩
  have icM : IniC K P0 CM fM ccM cdaM "limit" := ⟨oxM, suM, seM, vM, op, noM, ⟨_, _, _, ceM⟩, ⟨_, _, _, _, _, _, cdM, v2M, fiM⟩⟩
  refine ⟨CT, CB, CM, ⟨PySem.W.mg_of X G aT, PySem.W.mg_of X G aB, PySem.W.mg_of X G aM, ⟨gaB, ggB, exB, hdB⟩, ⟨gaM, ggM, exM, hdM⟩, noB, noM, ⟨gaB, ggB, exB, hdB, haB, hn, ht, hmB⟩, ⟨gaM, ggM, exM, hdM, haM, hn, ht, hmM⟩, kiB, kiM, xxB, mb, xxM⟩, fun w base => ⟨?_, ?_⟩⟩
  · exact ⟨oxB, PySem.W.mg_of X G aB, fB, _, iB, tB, ok_bad icB mS lB cB, .all fun us hl => match us, hl with | [_, _], _ => rfl⟩
  · exact ⟨oxM, PySem.W.mg_of X G aM, fM, _, iM, tM, ok_many icM mS lM cM, .all fun us hl => match us, hl with | [_, _], _ => rfl⟩
end K8

open PySem PySem.W PyProof.Rows
set_option maxHeartbeats 0 in
theorem PySem.Challenge.cw_suretrips_k88_whole_counts_and_who_lacks_holds : PySem.Challenge.rw_suretrips_k88_whole_counts_and_who_lacks.Holds := by
  w_on; o_law; k_head; (case hw => w_witness2)
  k_fill
  refine K8.walk_ofG (l := PySem.Challenge.rw_suretrips_k88_whole_counts_and_who_lacks) (n := 63) (k := 8) (x := "_law_script") (sp := fun w => K8.spLaw _) rfl (by decide) rfl ⟨rfl, by decide, by decide⟩ (fun w h Y => PySem.W.kIn_of Y) ?F (fun _ _ a ns hl hS => ⟨a, ns, rfl, hS, hl, fun _ => rfl⟩)
  case F =>
    intro w mg fa h KX G XP hmg
    refine K8.fin KX hmg ?facts
    case facts =>
      constructor
      · refine' K8.def_at KX G ?a ?l ?c ?k
        (case a => k_is); (case l => k_is); (case c => k_is); (case k => k_is)
      · refine' K8.def_at KX G ?a ?l ?c ?k
        (case a => k_is); (case l => k_is); (case c => k_is); (case k => k_is)
      · refine' K8.def_at KX G ?a ?l ?c ?k
        (case a => k_is); (case l => k_is); (case c => k_is); (case k => k_is)
      · refine' K8.def_at KX G ?a ?l ?c ?k
        (case a => k_is); (case l => k_is); (case c => k_is); (case k => k_is)
      · refine' K8.def_at KX G ?a ?l ?c ?k
        (case a => k_is); (case l => k_is); (case c => k_is); (case k => k_is)
      · refine' K8.def_at KX G ?a ?l ?c ?k
        (case a => k_is); (case l => k_is); (case c => k_is); (case k => k_is)
      · refine' K8.def_at KX G ?a ?l ?c ?k
        (case a => k_is); (case l => k_is); (case c => k_is); (case k => k_is)
      · refine' K8.def_at KX G ?a ?l ?c ?k
        (case a => k_is); (case l => k_is); (case c => k_is); (case k => k_is)
      · refine' K8.def_at KX G ?a ?l ?c ?k
        (case a => k_is); (case l => k_is); (case c => k_is); (case k => k_is)
      · refine' K8.def_at KX G ?a ?l ?c ?k
        (case a => k_is); (case l => k_is); (case c => k_is); (case k => k_is)
      · refine' K8.def_at KX G ?a ?l ?c ?k
        (case a => k_is); (case l => k_is); (case c => k_is); (case k => k_is)
      · refine' K8.def_at KX G ?a ?l ?c ?k
        (case a => k_is); (case l => k_is); (case c => k_is); (case k => k_is)
      · refine' K8.def_at KX G ?a ?l ?c ?k
        (case a => k_is); (case l => k_is); (case c => k_is); (case k => k_is)
      · refine' K8.def_at KX G ?a ?l ?c ?k
        (case a => k_is); (case l => k_is); (case c => k_is); (case k => k_is)
      · refine' K8.def_at KX G ?a ?l ?c ?k
        (case a => k_is); (case l => k_is); (case c => k_is); (case k => k_is)
      · refine' K8.def_at KX G ?a ?l ?c ?k
        (case a => k_is); (case l => k_is); (case c => k_is); (case k => k_is)
      · refine' K8.def_at KX G ?a ?l ?c ?k
        (case a => k_is); (case l => k_is); (case c => k_is); (case k => k_is)
      · refine' K8.def_at KX G ?a ?l ?c ?k
        (case a => k_is); (case l => k_is); (case c => k_is); (case k => k_is)
      · refine' K8.def_at KX G ?a ?l ?c ?k
        (case a => k_is); (case l => k_is); (case c => k_is); (case k => k_is)
      · refine' K8.def_at KX G ?a ?l ?c ?k
        (case a => k_is); (case l => k_is); (case c => k_is); (case k => k_is)
      · refine' K8.def_at KX G ?a ?l ?c ?k
        (case a => k_is); (case l => k_is); (case c => k_is); (case k => k_is)
      · refine' K8.def_at KX G ?a ?l ?c ?k
        (case a => k_is); (case l => k_is); (case c => k_is); (case k => k_is)
      · refine' K8.def_at KX G ?a ?l ?c ?k
        (case a => k_is); (case l => k_is); (case c => k_is); (case k => k_is)
      · refine' K8.def_at KX G ?a ?l ?c ?k
        (case a => k_is); (case l => k_is); (case c => k_is); (case k => k_is)
      · refine' K8.def_at KX G ?a ?l ?c ?k
        (case a => k_is); (case l => k_is); (case c => k_is); (case k => k_is)
      · exact PySem.W.mg_none_of KX G (by k_is)
      · exact PySem.W.mg_none_of KX G (by k_is)
      · exact PySem.W.mg_none_of KX G (by k_is)
      · exact PySem.W.mg_none_of KX G (by k_is)
      · exact PySem.W.mg_none_of KX G (by k_is)
      · exact PySem.W.mg_none_of KX G (by k_is)
      · exact PySem.W.mg_none_of KX G (by k_is)
      · exact PySem.W.mg_none_of KX G (by k_is)
      · exact PySem.W.mg_none_of KX G (by k_is)
      · exact PySem.W.mg_none_of KX G (by k_is)
      · exact PySem.W.mg_none_of KX G (by k_is)
      · exact PySem.W.mg_none_of KX G (by k_is)
      · exact PySem.W.mg_none_of KX G (by k_is)
      · exact PySem.W.mg_none_of KX G (by k_is)
      · exact PySem.W.mg_none_of KX G (by k_is)
      · obtain ⟨v, e, r⟩ := XP.2.val ("MAX_COUNT", _) (List.mem_cons_self ..)
        cases r
        exact ⟨_, e⟩
      · refine' K8.err_mk KX G ?aT ?op ?hn ?ht ?zS ?aB ?xB ?rB ?saB ?exB ?tyB ?kpB ?iB ?tB ?lB ?cB ?suB ?seB ?vB ?noB ?ceB ?cdB ?v2B ?fiB ?gaB ?ggB ?hdB ?haB ?hmB ?kiB ?xxB ?aM ?xM ?rM ?saM ?exM ?tyM ?kpM ?iM ?tM ?lM ?cM ?suM ?seM ?vM ?noM ?ceM ?cdM ?v2M ?fiM ?gaM ?ggM ?hdM ?haM ?hmM ?kiM ?xxM ?mb
        (case aT => k_is)
        (case op => k_is)
        (case hn => k_is)
        (case ht => k_is)
        (case zS => k_is)
        (case aB => k_is)
        (case xB => k_is)
        (case rB => rfl)
        (case saB => k_is)
        (case exB => k_is)
        (case tyB => k_is)
        (case kpB => k_is)
        (case iB => k_is)
        (case tB => k_is)
        (case lB => k_is)
        (case cB => k_is)
        (case suB => kernel_rfl)
        (case seB => k_is)
        (case vB => k_is)
        (case noB => k_is)
        (case ceB => k_is)
        (case cdB => k_is)
        (case v2B => rfl)
        (case fiB => decide +kernel)
        (case gaB => k_is)
        (case ggB => k_is)
        (case hdB => k_is)
        (case haB => k_is)
        (case hmB => k_is)
        (case kiB => kernel_rfl)
        (case xxB => kernel_rfl)
        (case aM => k_is)
        (case xM => k_is)
        (case rM => rfl)
        (case saM => k_is)
        (case exM => k_is)
        (case tyM => k_is)
        (case kpM => k_is)
        (case iM => k_is)
        (case tM => k_is)
        (case lM => k_is)
        (case cM => k_is)
        (case suM => kernel_rfl)
        (case seM => k_is)
        (case vM => k_is)
        (case noM => k_is)
        (case ceM => k_is)
        (case cdM => k_is)
        (case v2M => rfl)
        (case fiM => decide +kernel)
        (case gaM => k_is)
        (case ggM => k_is)
        (case hdM => k_is)
        (case haM => k_is)
        (case hmM => k_is)
        (case kiM => kernel_rfl)
        (case xxM => kernel_rfl)
        (case mb => kernel_rfl)

