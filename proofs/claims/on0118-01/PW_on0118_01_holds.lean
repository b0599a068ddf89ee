import PyProof.Rows.All
import Wide.All
import OpenK.AllK
import Wide.FinOn
import PySem.Challenge.RW_on0118_01
set_option Elab.async false
set_option maxRecDepth 100000
namespace Mine
open PySem PySem.W PyProof.Rows PySem.Calls
/-! text VC1 -/

/-! abstract values, their reading in a heap -/
inductive AV where
  | none
  | bool (b : Bool)
  | int (i : Int)
  | str (x : Str)
  | tup (l : List AV)
  | ref (a : Addr)
  deriving Inhabited

noncomputable abbrev tupO (vs : List Value) : Obj := { cls := .type "tuple", data := .seq vs.toArray }

mutual
noncomputable def HRel (h : Heap) : AV → Value → Prop
  | .none, v => v = .none
  | .bool b, v => v = .bool b
  | .int i, v => ∃ t, v = .int i t
  | .str x, v => ∃ t, v = .str x t
  | .tup l, v => ∃ a vs, v = .ref a ∧ h.get? a = some (tupO vs) ∧ HRels h l vs
  | .ref a, v => v = .ref a
noncomputable def HRels (h : Heap) : List AV → List Value → Prop
  | [], vs => vs = []
  | x :: l, vs => ∃ v r, vs = v :: r ∧ HRel h x v ∧ HRels h l r
end

/-- all tuples stay -/
noncomputable def TupLe (h h' : Heap) : Prop := ∀ a vs, h.get? a = some (tupO vs) → h'.get? a = some (tupO vs)
theorem TupLe.refl (h : Heap) : TupLe h h := fun _ _ e => e
theorem TupLe.trans {a b c : Heap} (x : TupLe a b) (y : TupLe b c) : TupLe a c := fun p vs e => y p vs (x p vs e)

mutual
theorem HRel.le {h h' : Heap} (k : TupLe h h') : ∀ {x : AV} {v : Value}, HRel h x v → HRel h' x v
  | .none, _, e => by simpa only [HRel] using e
  | .bool _, _, e => by simpa only [HRel] using e
  | .int _, _, e => by simpa only [HRel] using e
  | .str _, _, e => by simpa only [HRel] using e
  | .ref _, _, e => by simpa only [HRel] using e
  | .tup l, v, e => by
    simp only [HRel] at e ⊢
    obtain ⟨a, vs, e1, e2, e3⟩ := e
    exact ⟨a, vs, e1, k _ _ e2, HRels.le k e3⟩
theorem HRels.le {h h' : Heap} (k : TupLe h h') : ∀ {l : List AV} {vs : List Value}, HRels h l vs → HRels h' l vs
  | [], _, e => by simpa only [HRels] using e
  | _ :: _, _, e => by
    simp only [HRels] at e ⊢
    obtain ⟨v, r, e1, e2, e3⟩ := e
    exact ⟨v, r, e1, HRel.le k e2, HRels.le k e3⟩
end

theorem HRels.length {h : Heap} : ∀ {l : List AV} {vs : List Value}, HRels h l vs → vs.length = l.length
  | [], _, e => by simp only [HRels] at e; subst e; rfl
  | _ :: _, _, e => by
    simp only [HRels] at e
    obtain ⟨v, r, rfl, _, e3⟩ := e
    simp [HRels.length e3]
theorem HRels.get {h : Heap} : ∀ {l : List AV} {vs : List Value}, HRels h l vs → ∀ {i : Nat} {x : AV}, l[i]? = some x → ∃ v, vs[i]? = some v ∧ HRel h x v
  | [], _, _, i, x, e => by simp at e
  | y :: l, _, e, i, x, q => by
    simp only [HRels] at e
    obtain ⟨v, r, rfl, e2, e3⟩ := e
    cases i with
    | zero =>
      simp only [List.getElem?_cons_zero, Option.some.injEq] at q
      subst q
      exact ⟨v, rfl, e2⟩
    | succ i =>
      simp only [List.getElem?_cons_succ] at q
      obtain ⟨w, hw, hr⟩ := HRels.get e3 q
      exact ⟨w, by simpa using hw, hr⟩
theorem HRels.append {h : Heap} : ∀ {l : List AV} {vs : List Value} {l' : List AV} {vs' : List Value}, HRels h l vs → HRels h l' vs' → HRels h (l ++ l') (vs ++ vs')
  | [], _, _, _, e, e' => by simp only [HRels] at e; subst e; exact e'
  | _ :: _, _, _, _, e, e' => by
    simp only [HRels] at e
    obtain ⟨v, r, rfl, e2, e3⟩ := e
    simp only [List.cons_append, HRels]
    exact ⟨v, _, rfl, e2, HRels.append e3 e'⟩
theorem HRels.take {h : Heap} : ∀ (n : Nat) {l : List AV} {vs : List Value}, HRels h l vs → HRels h (l.take n) (vs.take n)
  | 0, _, _, _ => by simp [HRels]
  | n + 1, [], _, e => by simp only [HRels] at e; subst e; simp [HRels]
  | n + 1, _ :: _, _, e => by
    simp only [HRels] at e
    obtain ⟨v, r, rfl, e2, e3⟩ := e
    simp only [List.take_succ_cons, HRels]
    exact ⟨v, _, rfl, e2, HRels.take n e3⟩
theorem HRels.drop {h : Heap} : ∀ (n : Nat) {l : List AV} {vs : List Value}, HRels h l vs → HRels h (l.drop n) (vs.drop n)
  | 0, _, _, e => e
  | n + 1, [], _, e => by simp only [HRels] at e; subst e; simp [HRels]
  | n + 1, _ :: _, _, e => by
    simp only [HRels] at e
    obtain ⟨v, r, rfl, e2, e3⟩ := e
    exact HRels.drop n e3
theorem HRels.set {h : Heap} : ∀ {l : List AV} {vs : List Value}, HRels h l vs → ∀ (i : Nat) {x : AV} {v : Value}, HRel h x v → HRels h (l.set i x) (vs.set i v)
  | [], _, e, i, x, v, _ => by simp only [HRels] at e; subst e; simp [HRels]
  | _ :: _, _, e, i, x, v, q => by
    simp only [HRels] at e
    obtain ⟨w, r, rfl, e2, e3⟩ := e
    cases i with
    | zero => simp only [List.set_cons_zero, HRels]; exact ⟨v, r, rfl, q, e3⟩
    | succ i => simp only [List.set_cons_succ, HRels]; exact ⟨w, _, rfl, e2, HRels.set e3 i q⟩

/-! mutable objects -/
inductive MO where
  | list (l : List AV)
  | cell (v : Option AV)
  | inst (C d : Addr)
  | attrs (l : List (Str × AV))
  | tab (l : List ((Int × Int) × Int))
  deriving Inhabited

noncomputable abbrev Locals := Str → Option AV
noncomputable abbrev Store := Addr → Option MO
noncomputable def Locals.set (lo : Locals) (x : Str) (v : AV) : Locals := fun y => if y = x then some v else lo y
noncomputable def Store.set (σ : Store) (a : Addr) (m : MO) : Store := fun b => if b = a then some m else σ b
theorem Locals.set_same {lo : Locals} {x : Str} {v : AV} : lo.set x v x = some v := if_pos rfl
theorem Locals.set_ne {lo : Locals} {x y : Str} {v : AV} (h : y ≠ x) : lo.set x v y = lo y := if_neg h
theorem Store.set_same {σ : Store} {a : Addr} {m : MO} : σ.set a m a = some m := if_pos rfl
theorem Store.set_ne {σ : Store} {a b : Addr} {m : MO} (h : b ≠ a) : σ.set a m b = σ b := if_neg h
theorem Store.set_set {σ : Store} {a : Addr} {m m' : MO} : (σ.set a m).set a m' = σ.set a m' := by
  funext b; unfold Store.set; split <;> simp_all
theorem Store.set_comm {σ : Store} {a b : Addr} {m m' : MO} (h : a ≠ b) : (σ.set a m).set b m' = (σ.set b m').set a m := by
  funext c; unfold Store.set; split <;> split <;> simp_all
theorem Store.set_eq {σ : Store} {a : Addr} {m : MO} (h : σ a = some m) : σ.set a m = σ := by
  funext b; unfold Store.set; split
  · rename_i e; rw [e, h]
  · rfl

/-- the entries of an own object's dict, read by names -/
noncomputable def AttrRel (h : Heap) (l : List (Str × AV)) (es : List DictEntry) : Prop :=
  ∀ x, match l.lookup x with
    | some av => ∃ v, getL x es = some (some v) ∧ HRel h av v
    | none => getL x es = some none


/-- the rows of a dict keyed by pairs of ints -/
noncomputable def TabRel (h : Heap) : List (List Int × Addr × Value) → List ((Int × Int) × Int) → Prop
  | [], [] => True
  | (k, ka, v) :: xs, ((a, b), n) :: l => k = [a, b] ∧ (∃ t t', h.get? ka = some (tupO [.int a t, .int b t'])) ∧ (∃ t, v = .int n t) ∧ TabRel h xs l
  | _, _ => False
theorem TabRel.le {h h' : Heap} (k : TupLe h h') : ∀ {xs : List (List Int × Addr × Value)} {l : List ((Int × Int) × Int)}, TabRel h xs l → TabRel h' xs l
  | [], [], _ => trivial
  | [], _ :: _, e => e.elim
  | _ :: _, [], e => e.elim
  | (_, _, _) :: _, ((_, _), _) :: _, ⟨e1, ⟨t, t', e2⟩, e3, e4⟩ => ⟨e1, ⟨t, t', k _ _ e2⟩, e3, TabRel.le k e4⟩

structure G where
  prog : Program
  w : World
  K : Frag
  p : Program
  loose : List Str
  mean : ExcName → Option Value
  mg : Str → Option Value
  mb : Str → Option Value
  fz : Addr → Option (List Int)
  fn : Str → Addr
noncomputable abbrev G.M (g : G) : Model := model g.prog g.w
noncomputable abbrev G.knd (g : G) : HeapKind g.prog g.w (List Int) := tupleKind (intKind g.prog g.w)

noncomputable def MRel (g : G) (h : Heap) (a : Addr) : MO → Prop
  | .list l => ∃ vs n, h.get? a = some (listOf vs.toArray n) ∧ HRels h l vs
  | .cell v => ∃ o v', h.get? a = some o ∧ o.data = .cell v' ∧ (match v with | none => True | some av => ∃ x, v' = some x ∧ HRel h av x)
  | .inst C d => h.get? a = some (instObj C d)
  | .attrs l => ∃ es n, h.get? a = some (dictOf es n) ∧ AttrRel h l es ∧ es.length ≤ l.length
  | .tab l => (a == sysModules) = false ∧ ∃ xs, h.DictOfH g.knd a xs ∧ TabRel h xs l

theorem AttrRel.le {h h' : Heap} (k : TupLe h h') {l : List (Str × AV)} {es : List DictEntry} (e : AttrRel h l es) : AttrRel h' l es := by
  intro x
  have := e x
  revert this
  split
  · rintro ⟨v, e1, e2⟩; exact ⟨v, e1, e2.le k⟩
  · exact id
theorem key_le {g : G} {h h' : Heap} (k : TupLe h h') : ∀ {xs : List (List Int × Addr × Value)} {l : List ((Int × Int) × Int)}, TabRel h xs l → ∀ x ∈ xs, g.knd.is h' x.1 x.2.1
  | [], [], _, _, q => nomatch q
  | [], _ :: _, e, _, _ => e.elim
  | _ :: _, [], e, _, _ => e.elim
  | (_, ka, _) :: _, ((a, b), _) :: _, ⟨e1, ⟨t, t', e2⟩, _, e4⟩, x, q => by
    rcases List.mem_cons.mp q with rfl | q
    · subst e1
      exact ⟨_, _, _, k _ _ e2, rfl, rfl, .cons (by simp [intKind, Value.isInt]) (.cons (by simp [intKind, Value.isInt]) .nil)⟩
    · exact key_le k e4 x q
theorem MRel.keep {g : G} {h h' : Heap} {a : Addr} (k : TupLe h h') (ha : ∀ o, h.get? a = some o → h'.get? a = some o) : ∀ {mo : MO}, MRel g h a mo → MRel g h' a mo
  | .list _, ⟨vs, n, e1, e2⟩ => ⟨vs, n, ha _ e1, e2.le k⟩
  | .cell none, ⟨o, v', e1, e2, e3⟩ => ⟨o, v', ha _ e1, e2, e3⟩
  | .cell (some _), ⟨o, v', e1, e2, ⟨x, e3, e4⟩⟩ => ⟨o, v', ha _ e1, e2, x, e3, e4.le k⟩
  | .inst _ _, e => ha _ e
  | .attrs _, ⟨es, n, e1, e2, e3⟩ => ⟨es, n, ha _ e1, e2.le k, e3⟩
  | .tab _, ⟨hm, xs, ⟨o, es, ep, d1, d2, d3, d4, _, d6⟩, e2⟩ => ⟨hm, xs, ⟨o, es, ep, ha _ d1, d2, d3, d4, key_le k e2, d6⟩, e2.le k⟩
theorem MRel.alive {g : G} {h : Heap} {a : Addr} : ∀ {mo : MO}, MRel g h a mo → ∃ o, h.get? a = some o ∧ ∀ vs, o ≠ tupO vs
  | .list _, ⟨_, _, e1, _⟩ => ⟨_, e1, fun vs q => by have := congrArg Obj.cls q; simp at this⟩
  | .cell _, ⟨o, _, e1, e2, _⟩ => ⟨o, e1, fun vs q => by subst q; cases e2⟩
  | .inst _ _, e => ⟨_, e, fun vs q => by cases q⟩
  | .attrs _, ⟨_, _, e1, _⟩ => ⟨_, e1, fun vs q => by have := congrArg Obj.cls q; simp at this⟩
  | .tab _, ⟨_, _, ⟨o, _, _, d1, _, d3, _⟩, _⟩ => ⟨o, d1, fun vs q => by subst q; cases d3⟩

noncomputable def defNames : List Str := ["full_table", "var_table", "cofactor", "depends", "cube_table", "cover_table", "isop", "opposed", "other_side", "rule_positive", "rule_negative", "smart_and", "literal_chain", "commonest_literal", "factor",
  "tree_size", "build_tree", "best_tree", "Aig", "_law_feed", "_law_pick", "_law_at", "_law_cost", "_law_run", "_law_bit", "_law_built"]
noncomputable def bltNames : List Str := ["len", "abs", "max", "min", "list", "range"]
structure Cx where
  A₀ : Around
  base : Heap
  h₀ : Heap
  outer : List Env
  L : Addr
  cn : Str
  cs : Scope
  a : Addr
  ccd : Value
  cl : List (Str × Addr)
  dp : Nat
  un : Nat
  gd : Option (List Code)
noncomputable abbrev Cx.env (c : Cx) : Env := envX c.cn c.cs c.L c.a c.ccd c.cl
noncomputable abbrev Cx.A (c : Cx) : Around := { handled := none, depth := c.dp, frames := some (c.env :: c.outer), guards := c.gd, units := c.un }

structure Cx.Ok (g : G) (c : Cx) : Prop where
  B : Below c.A₀ c.base c.outer c.h₀
  X : g.K.In c.h₀
  T : Top g.p g.loose g.mean g.mg g.mb c.h₀
  hk : c.cs.kind = .function
  fz : ∀ a l, g.fz a = some l → ∃ vs, c.h₀.IsList a vs.toArray ∧ IntsAre vs l
  gen : c.cs.isGenerator = false
  co : c.cs.isCoroutine = false
  tree : g.prog.given.tree = none
  imp : importsNone g.p = true
  blt : ∀ f ∈ bltNames, nsIn g.K mainGlobals f = some none
  fns : ∀ f ∈ defNames, nsIn g.K mainGlobals f = some (some (.ref (g.fn f))) ∧ keepIn g.K (.ref (g.fn f)) = true

noncomputable abbrev Led := List (Addr × Obj)
structure St (g : G) (c : Cx) (lo : Locals) (σ : Store) (X : Led) (s : Shared) : Prop where
  fr : ∃ m, Fr c.h₀ c.L s.heap m ∧ ∀ x av, lo x = some av → ∃ v, m x = some v ∧ HRel s.heap av v
  loc : ∀ x av, lo x = some av → c.cs.names.lookup x = some .local ∧ (x == ("__debug__" : Str)) = false
  so : ∀ a mo, σ a = some mo → MRel g s.heap a mo ∧ a ≠ c.L ∧ c.h₀.get? a = none
  xs : ∀ q ∈ X, s.heap.get? q.1 = some q.2 ∧ q.1 ≠ c.L ∧ c.h₀.get? q.1 = none ∧ σ q.1 = none

structure Ev (s s' : Shared) : Prop where
  gens : s'.gens = s.gens
  drawn : s'.drawn = s.drawn
  os : s'.os = s.os
  tup : TupLe s.heap s'.heap
theorem Ev.refl (s : Shared) : Ev s s := ⟨rfl, rfl, rfl, .refl _⟩
theorem Ev.trans {a b c : Shared} (x : Ev a b) (y : Ev b c) : Ev a c := ⟨y.gens.trans x.gens, y.drawn.trans x.drawn, y.os.trans x.os, x.tup.trans y.tup⟩

section
variable {g : G} {c : Cx} {lo : Locals} {σ : Store} {X : Led} {s : Shared}

theorem St.free {a : Addr} (S : St g c lo σ X s) (h : s.heap.get? a = none) : σ a = none ∧ a ≠ c.L ∧ c.h₀.get? a = none := by
  refine ⟨?_, ?_, ?_⟩
  · cases q : σ a with
    | none => rfl
    | some mo => obtain ⟨o, e, _⟩ := (S.so a mo q).1.alive; rw [h] at e; cases e
  · rintro rfl
    obtain ⟨m, ⟨⟨o, _, _, e, _⟩, _, _⟩, _⟩ := S.fr
    rw [h] at e; cases e
  · cases q : c.h₀.get? a with
    | none => rfl
    | some o =>
      obtain ⟨m, F, _⟩ := S.fr
      rw [F.keep _ _ q] at h; cases h
theorem get_size (h : Heap) : h.get? h.objs.size = none := by
  cases q : h.get? h.objs.size with
  | none => rfl
  | some o => exact absurd (Heap.lt_size q) (Nat.lt_irrefl _)

/-- a step that keeps every object -/
theorem St.keep {h' : Heap} {tk : Nat} (S : St g c lo σ X s) (k : ∀ b o, s.heap.get? b = some o → h'.get? b = some o) :
    St g c lo σ X { s with heap := h', toks := tk } ∧ Ev s { s with heap := h', toks := tk } := by
  have kt : TupLe s.heap h' := fun a vs e => k _ _ e
  obtain ⟨m, F, hm⟩ := S.fr
  exact ⟨⟨⟨m, F.keeps k, fun x av e => let ⟨v, e1, e2⟩ := hm x av e; ⟨v, e1, e2.le kt⟩⟩, S.loc, fun a mo e => let ⟨e1, e2⟩ := S.so a mo e; ⟨e1.keep kt (fun o q => k _ _ q), e2⟩,
    fun q hq => let ⟨e1, e2⟩ := S.xs q hq; ⟨k _ _ e1, e2⟩⟩, rfl, rfl, rfl, kt⟩
/-- a new object joins the store -/
theorem St.join {a : Addr} {mo : MO} {s' : Shared} (S : St g c lo σ X s) (S' : St g c lo σ X s') (h : s.heap.get? a = none) (e : MRel g s'.heap a mo) : St g c lo (σ.set a mo) X s' := by
  obtain ⟨f1, f2, f3⟩ := S.free h
  refine ⟨S'.fr, S'.loc, fun b mo' q => ?_, fun q hq => ?_⟩
  · unfold Store.set at q
    split at q
    · rename_i e'
      cases q; subst e'; exact ⟨e, f2, f3⟩
    · exact S'.so b mo' q
  · obtain ⟨e1, e2, e3, e4⟩ := S'.xs q hq
    have : q.1 ≠ a := by
      rintro rfl
      have := (S.xs q hq).1
      rw [h] at this; cases this
    exact ⟨e1, e2, e3, by rw [Store.set_ne this]; exact e4⟩
/-- an object of the store is changed -/
theorem St.upd {a : Addr} {mo mo' : MO} {h' : Heap} {tk : Nat} (S : St g c lo σ X s) (e : σ a = some mo) (hs : Heap.SameBut a s.heap h') (e' : TupLe s.heap h' → MRel g h' a mo') :
    St g c lo (σ.set a mo') X { s with heap := h', toks := tk } ∧ Ev s { s with heap := h', toks := tk } := by
  obtain ⟨m0, m1, m2⟩ := S.so a mo e
  obtain ⟨oa, ha, hna⟩ := m0.alive
  have kt : TupLe s.heap h' := fun b vs q => by
    by_cases hb : b = a
    · subst hb
      rw [ha] at q
      exact absurd (Option.some.inj q) (hna vs)
    · exact (hs.2 b hb).trans q
  obtain ⟨m, F, hm⟩ := S.fr
  refine ⟨⟨⟨m, F.change hs m1 m2, fun x av e => let ⟨v, e1, e2⟩ := hm x av e; ⟨v, e1, e2.le kt⟩⟩, S.loc, fun b mo'' q => ?_, fun q hq => ?_⟩, rfl, rfl, rfl, kt⟩
  · unfold Store.set at q
    split at q
    · rename_i e''
      cases q; subst e''; exact ⟨e' kt, m1, m2⟩
    · rename_i hb
      obtain ⟨e1, e2⟩ := S.so b mo'' q
      exact ⟨e1.keep kt fun o q => (hs.2 b hb).trans q, e2⟩
  · obtain ⟨e1, e2, e3, e4⟩ := S.xs q hq
    have hne : q.1 ≠ a := by rintro rfl; rw [e4] at e; cases e
    exact ⟨(hs.2 _ hne).trans e1, e2, e3, by rw [Store.set_ne hne]; exact e4⟩
/-- a local name is bound -/
theorem St.bind {x : Str} {av : AV} {v : Value} {m : Str → Option Value} {h' : Heap} {tk : Nat} (S : St g c lo σ X s) (F : Fr c.h₀ c.L s.heap m) (hm : ∀ y aw, lo y = some aw → ∃ v, m y = some v ∧ HRel s.heap aw v)
    (hx : c.cs.names.lookup x = some .local ∧ (x == ("__debug__" : Str)) = false) (hv : HRel s.heap av v)
    (hn : h'.Ns c.L (fun y => if y = x then some v else m y)) (hs : Heap.SameBut c.L s.heap h') :
    St g c (lo.set x av) σ X { s with heap := h', toks := tk } ∧ Ev s { s with heap := h', toks := tk } := by
  have kt : TupLe s.heap h' := fun b vs q => by
    by_cases hb : b = c.L
    · subst hb
      obtain ⟨o, es, ep, ho, hd, _⟩ := F.ns
      rw [ho] at q
      cases Option.some.inj q
      cases hd
    · exact (hs.2 b hb).trans q
  refine ⟨⟨⟨_, F.set hn hs, fun y aw e => ?_⟩, fun y aw e => ?_, fun a mo e => let ⟨e1, e2, e3⟩ := S.so a mo e; ⟨e1.keep kt fun o q => (hs.2 a e2).trans q, e2, e3⟩,
    fun q hq => let ⟨e1, e2, e3⟩ := S.xs q hq; ⟨(hs.2 _ e2).trans e1, e2, e3⟩⟩, rfl, rfl, rfl, kt⟩
  · unfold Locals.set at e
    split at e
    · rename_i q
      cases e
      exact ⟨v, if_pos q, hv.le kt⟩
    · rename_i q
      obtain ⟨u, e1, e2⟩ := hm y aw e
      exact ⟨u, (if_neg q).trans e1, e2.le kt⟩
  · unfold Locals.set at e
    split at e
    · rename_i q; rw [q]; exact hx
    · exact S.loc y aw e
theorem St.toks {tk : Nat} (S : St g c lo σ X s) : St g c lo σ X { s with toks := tk } ∧ Ev s { s with toks := tk } := S.keep (h' := s.heap) fun _ _ e => e
/-- part of the store is forgotten -/
theorem St.less {σ' : Store} (S : St g c lo σ X s) (h : ∀ a mo, σ' a = some mo → σ a = some mo) : St g c lo σ' X s :=
  ⟨S.fr, S.loc, fun a mo e => S.so a mo (h a mo e), fun q hq => let ⟨e1, e2, e3, e4⟩ := S.xs q hq; ⟨e1, e2, e3, by
    cases q' : σ' q.1 with
    | none => rfl
    | some mo => rw [h _ _ q'] at e4; cases e4⟩⟩
theorem St.lessLo {lo' : Locals} (S : St g c lo σ X s) (h : ∀ a mo, lo' a = some mo → lo a = some mo) : St g c lo' σ X s := by
  obtain ⟨m, F, hm⟩ := S.fr
  exact ⟨⟨m, F, fun x av e => hm x av (h _ _ e)⟩, fun x av e => S.loc x av (h _ _ e), S.so, S.xs⟩

/-- the whole ledger: whatever lives, is not the frame's and did not stand in the base -/
noncomputable def led (c : Cx) (h : Heap) : Led := (List.range h.objs.size).filterMap fun a => match h.get? a with
  | some o => if a ≠ c.L ∧ (c.h₀.get? a).isNone = true then some (a, o) else none
  | none => none
theorem mem_led {h : Heap} {a : Addr} {o : Obj} : (a, o) ∈ led c h ↔ h.get? a = some o ∧ a ≠ c.L ∧ c.h₀.get? a = none := by
  unfold led
  rw [List.mem_filterMap]
  constructor
  · rintro ⟨b, hb, e⟩
    split at e
    · rename_i o' ho
      split at e
      · rename_i q
        cases e
        exact ⟨ho, q.1, by simpa using q.2⟩
      · cases e
    · cases e
  · rintro ⟨e1, e2, e3⟩
    refine ⟨a, List.mem_range.mpr (Heap.lt_size e1), ?_⟩
    rw [e1]
    simp [e2, e3]
theorem led_news (h : Heap) : News c.h₀ c.L h (led c h) := fun _ hq => mem_led.mp hq
end

/-! text VC2 -/

inductive AF where
  | next
  | brk
  | cont
  | ret (v : AV)
noncomputable def FRel (h : Heap) : AF → Flow → Prop
  | .next, f => f = .next
  | .brk, f => f = .brk
  | .cont, f => f = .cont
  | .ret v, f => ∃ x, f = .ret x ∧ HRel h v x

noncomputable def NoE : Value → Shared → Prop := fun _ _ => False
noncomputable def Ret (g : G) (c : Cx) (lo : Locals) (X : Led) (s : Shared) (P : AV → Store → Prop) (v : Value) (s' : Shared) : Prop :=
  ∃ av σ', P av σ' ∧ HRel s'.heap av v ∧ St g c lo σ' X s' ∧ Ev s s'
noncomputable def RetB (g : G) (c : Cx) (lo : Locals) (X : Led) (s : Shared) (P : Bool → Store → Prop) (v : Bool) (s' : Shared) : Prop :=
  ∃ σ', P v σ' ∧ St g c lo σ' X s' ∧ Ev s s'
noncomputable def RetU (g : G) (c : Cx) (lo : Locals) (X : Led) (s : Shared) (P : Store → Prop) (_ : Unit) (s' : Shared) : Prop :=
  ∃ σ', P σ' ∧ St g c lo σ' X s' ∧ Ev s s'
noncomputable def RetS (g : G) (c : Cx) (lo : Locals) (X : Led) (s : Shared) (P : List AV → Store → Prop) (vs : List Value) (s' : Shared) : Prop :=
  ∃ avs σ', P avs σ' ∧ HRels s'.heap avs vs ∧ St g c lo σ' X s' ∧ Ev s s'
noncomputable def RetF (g : G) (c : Cx) (X : Led) (s : Shared) (P : AF → Locals → Store → Prop) (f : Flow) (s' : Shared) : Prop :=
  ∃ af lo' σ', P af lo' σ' ∧ FRel s'.heap af f ∧ St g c lo' σ' X s' ∧ Ev s s'

noncomputable def AE (g : G) (c : Cx) (e : Expr) (lo : Locals) (σ : Store) (P : AV → Store → Prop) : Prop :=
  ∀ X s, St g c lo σ X s → wpAny g.M c.A (eval e c.env) (Ret g c lo X s P) NoE s
noncomputable def AT (g : G) (c : Cx) (e : Expr) (lo : Locals) (σ : Store) (P : Bool → Store → Prop) : Prop :=
  ∀ X s, St g c lo σ X s → wpAny g.M c.A (isTrue e c.env (eval e c.env)) (RetB g c lo X s P) NoE s
noncomputable def AEs (g : G) (c : Cx) (es : List Expr) (lo : Locals) (σ : Store) (P : List AV → Store → Prop) : Prop :=
  ∀ pos X s, St g c lo σ X s → wpAny g.M c.A (spliced (backTo pos (starEach es c.env))) (RetS g c lo X s P) NoE s
noncomputable def AX (g : G) (c : Cx) (t : Stmt) (lo : Locals) (σ : Store) (P : AF → Locals → Store → Prop) : Prop :=
  ∀ X s, St g c lo σ X s → wpAny g.M c.A (exec t c.env) (RetF g c X s P) NoE s
noncomputable def AXs (g : G) (c : Cx) (ts : List Stmt) (lo : Locals) (σ : Store) (P : AF → Locals → Store → Prop) : Prop :=
  ∀ X s, St g c lo σ X s → wpAny g.M c.A (execs ts c.env) (RetF g c X s P) NoE s
/-- a step on one value, on two -/
noncomputable def AO1 (g : G) (c : Cx) (f : Value → Sem Value) (a : AV) (lo : Locals) (σ : Store) (P : AV → Store → Prop) : Prop :=
  ∀ X s v, St g c lo σ X s → HRel s.heap a v → wpAny g.M c.A (f v) (Ret g c lo X s P) NoE s
noncomputable def AB1 (g : G) (c : Cx) (f : Value → Sem Bool) (a : AV) (lo : Locals) (σ : Store) (P : Bool → Store → Prop) : Prop :=
  ∀ X s v, St g c lo σ X s → HRel s.heap a v → wpAny g.M c.A (f v) (RetB g c lo X s P) NoE s
noncomputable def AO2 (g : G) (c : Cx) (f : Value → Value → Sem Value) (a b : AV) (lo : Locals) (σ : Store) (P : AV → Store → Prop) : Prop :=
  ∀ X s v u, St g c lo σ X s → HRel s.heap a v → HRel s.heap b u → wpAny g.M c.A (f v u) (Ret g c lo X s P) NoE s
noncomputable def AU3 (g : G) (c : Cx) (f : Value → Value → Value → Sem Unit) (a b d : AV) (lo : Locals) (σ : Store) (P : Store → Prop) : Prop :=
  ∀ X s v u x, St g c lo σ X s → HRel s.heap a v → HRel s.heap b u → HRel s.heap d x → wpAny g.M c.A (f v u x) (RetU g c lo X s P) NoE s
noncomputable def AOs (g : G) (c : Cx) (f : List Value → Sem Value) (as : List AV) (lo : Locals) (σ : Store) (P : AV → Store → Prop) : Prop :=
  ∀ X s vs, St g c lo σ X s → HRels s.heap as vs → wpAny g.M c.A (f vs) (Ret g c lo X s P) NoE s
/-- a call of a def, a class, a method's def: from any frame of that depth -/
noncomputable def CallP (g : G) (dp un : Nat) (f : Value) (as : List AV) (σ : Store) (P : AV → Store → Prop) : Prop :=
  ∀ (c : Cx), c.Ok g → c.dp = dp → c.un = un → ∀ lo, AOs g c (fun vs => call f vs) as lo σ P
noncomputable def CallN (g : G) (dp un : Nat) (f : Str) (as : List AV) (σ : Store) (P : AV → Store → Prop) : Prop :=
  CallP g dp un (.ref (g.fn f)) as σ P

section
variable {g : G} {c : Cx} {lo : Locals} {σ : Store} {X : Led} {s s' : Shared}

theorem noE {α : Type} {M : Model} {A : Around} {t : Sem α} {Q Q' : α → Shared → Prop} {E : Value → Shared → Prop} (h : wpAny M A t Q NoE s) (k : ∀ a s, Q a s → Q' a s) : wpAny M A t Q' E s :=
  wpAny_mono h k fun _ _ x => x.elim
theorem Ret.after {P : AV → Store → Prop} {v : Value} {s'' : Shared} (e : Ev s s') (h : Ret g c lo X s' P v s'') : Ret g c lo X s P v s'' :=
  let ⟨a, b, c, d, f, q⟩ := h; ⟨a, b, c, d, f, e.trans q⟩
theorem RetB.after {P : Bool → Store → Prop} {v : Bool} {s'' : Shared} (e : Ev s s') (h : RetB g c lo X s' P v s'') : RetB g c lo X s P v s'' :=
  let ⟨b, c, f, q⟩ := h; ⟨b, c, f, e.trans q⟩
theorem RetU.after {P : Store → Prop} {v : Unit} {s'' : Shared} (e : Ev s s') (h : RetU g c lo X s' P v s'') : RetU g c lo X s P v s'' :=
  let ⟨b, c, f, q⟩ := h; ⟨b, c, f, e.trans q⟩
theorem RetS.after {P : List AV → Store → Prop} {v : List Value} {s'' : Shared} (e : Ev s s') (h : RetS g c lo X s' P v s'') : RetS g c lo X s P v s'' :=
  let ⟨a, b, c, d, f, q⟩ := h; ⟨a, b, c, d, f, e.trans q⟩
theorem RetF.after {P : AF → Locals → Store → Prop} {v : Flow} {s'' : Shared} (e : Ev s s') (h : RetF g c X s' P v s'') : RetF g c X s P v s'' :=
  let ⟨a, b, d, f, h1, h2, q⟩ := h; ⟨a, b, d, f, h1, h2, e.trans q⟩
/-- a value at hand, no object touched -/
theorem ret_now {P : AV → Store → Prop} {av : AV} {v : Value} {tk : Nat} (S : St g c lo σ X s) (p : P av σ) (r : HRel s.heap av v) : Ret g c lo X s P v { s with toks := tk } :=
  ⟨av, σ, p, r, (S.toks (tk := tk)).1, (S.toks (tk := tk)).2⟩
theorem ret_same {P : AV → Store → Prop} {av : AV} {v : Value} (S : St g c lo σ X s) (p : P av σ) (r : HRel s.heap av v) : Ret g c lo X s P v s := ⟨av, σ, p, r, S, .refl _⟩

theorem hint {h : Heap} {i : Int} {t : Tok} : HRel h (.int i) (.int i t) := by simp only [HRel]; exact ⟨t, rfl⟩
theorem hbool {h : Heap} {b : Bool} : HRel h (.bool b) (.bool b) := by simp only [HRel]
theorem hnone {h : Heap} : HRel h .none .none := by simp only [HRel]
theorem hstr {h : Heap} {x : Str} {t : Tok} : HRel h (.str x) (.str x t) := by simp only [HRel]; exact ⟨t, rfl⟩
theorem href {h : Heap} {a : Addr} : HRel h (.ref a) (.ref a) := by simp only [HRel]

/-! ### making tuples and lists -/
theorem newTuple_A {as : List AV} {P : AV → Store → Prop} (p : P (.tup as) σ) (hl : as.length ≤ sizeLine) : AOs g c newTuple as lo σ P := by
  intro X s vs S r
  have hsz : vs.length ≤ sizeLine := by rw [r.length]; exact hl
  refine wpAny_newObj_type ?_ (by show vs.toArray.size ≤ sizeLine; rw [List.size_toArray]; exact hsz)
  obtain ⟨S', E⟩ := S.keep (h' := s.heap.push (tupO vs)) (tk := s.toks) fun _ _ e => Heap.get?_push_of_some _ e
  refine ⟨.tup as, σ, p, ?_, S', E⟩
  simp only [HRel]
  exact ⟨_, vs, rfl, Heap.get?_push_size _ rfl, r.le E.tup⟩
theorem newList_A {as : List AV} {P : AV → Store → Prop} (p : ∀ a, σ a = none → P (.ref a) (σ.set a (.list as))) (hl : as.length ≤ sizeLine) : AOs g c newList as lo σ P := by
  intro X s vs S r
  have hsz : vs.length ≤ sizeLine := by rw [r.length]; exact hl
  refine wpAny_newObj_type ?_ (by show vs.toArray.size ≤ sizeLine; rw [List.size_toArray]; exact hsz)
  obtain ⟨S', E⟩ := S.keep (h' := s.heap.push { cls := .type "list", data := .seq vs.toArray }) (tk := s.toks) fun _ _ e => Heap.get?_push_of_some _ e
  exact ⟨.ref _, _, p _ (S.free (get_size _)).1, href, S.join S' (get_size _) ⟨vs, 0, Heap.get?_push_size _ rfl, r.le E.tup⟩, E⟩

/-! ### arithmetic -/
noncomputable def binW (dp : Nat) (op : Operator) (a b : AV) (σ : Store) (P : AV → Store → Prop) : Prop :=
  match a, b with
  | .int x, .int y => (match op with
    | .Add => P (.int (x + y)) σ
    | .Sub => P (.int (x - y)) σ
    | .Mult => IntMulOk x y ∧ P (.int (x * y)) σ
    | .FloorDiv => y ≠ 0 ∧ dp + Builtin.pylongFrames < recursionLimit ∧ P (.int (x.fdiv y)) σ
    | .Mod => y ≠ 0 ∧ P (.int (x.fmod y)) σ
    | .LShift => 0 ≤ y ∧ y ≤ 1000000 ∧ x.natAbs < 2 ^ 64 ∧ P (.int (x * 2 ^ y.toNat)) σ
    | .RShift => 0 ≤ y ∧ P (.int (x.fdiv (2 ^ y.toNat))) σ
    | .Pow => 0 ≤ y ∧ y ≤ 1000000 ∧ x.natAbs < 2 ^ 64 ∧ P (.int (x ^ y.toNat)) σ
    | .BitAnd => P (.int (Builtin.bitAnd x y)) σ
    | .BitOr => P (.int (Builtin.bitOr x y)) σ
    | .BitXor => P (.int (Builtin.bitXor x y)) σ
    | _ => False)
  | .ref p, .ref q => op = .Add ∧ ∃ l r, σ p = some (.list l) ∧ σ q = some (.list r) ∧ l.length + r.length ≤ sizeLine ∧ ∀ d, σ d = none → P (.ref d) (σ.set d (.list (l ++ r)))
  | _, _ => False

theorem MRel.isList {h : Heap} {a : Addr} {l : List AV} (m : MRel g h a (.list l)) : ∃ vs, h.IsList a vs.toArray ∧ HRels h l vs :=
  let ⟨vs, n, e, r⟩ := m; ⟨vs, ⟨_, e, rfl, n, rfl⟩, r⟩

theorem nolimit (O : c.Ok g) (S : St g c lo σ X s) : s.heap.NoLimit := by
  obtain ⟨m, F, _⟩ := S.fr
  exact O.T.nolimit.keeps F.keep

theorem pylong_room (O : c.Ok g) (S : St g c lo σ X s) (h : c.dp + Builtin.pylongFrames < recursionLimit) : PylongRoom g.M c.A s := by
  obtain ⟨m, F, _⟩ := S.fr
  exact PylongRoom.of (nolimit O S) h (SeerAt.of (Heap.NoSeer.keeps (O.T.seer O.imp) F.keep) O.tree rfl O.gen O.co rfl rfl)
/-- what the frame and the whole ledger keep, the heap keeps, but for the frame's own names -/
theorem led_keeps {m : Str → Option Value} {h h' : Heap} {news : Led} (F : Fr c.h₀ c.L h m) (F' : Fr c.h₀ c.L h' m) (N : News c.h₀ c.L h' news) (sub : ∀ q ∈ led c h, q ∈ news) : ∀ b o, b ≠ c.L → h.get? b = some o → h'.get? b = some o := by
  intro b o hb e
  cases q : c.h₀.get? b with
  | some o' =>
    have := F.keep _ _ q
    rw [e] at this
    cases this
    exact F'.keep _ _ q
  | none => exact (N _ (sub _ (mem_led.mpr ⟨e, hb, q⟩))).1
/-- a rule of the library that hands on frame and ledger -/
theorem St.byLed {h' : Heap} {tk : Nat} {m : Str → Option Value} {news : Led} (S : St g c lo σ X s) (F : Fr c.h₀ c.L s.heap m) (hm : ∀ x av, lo x = some av → ∃ v, m x = some v ∧ HRel s.heap av v)
    (F' : Fr c.h₀ c.L h' m) (N : News c.h₀ c.L h' news) (sub : ∀ q ∈ led c s.heap, q ∈ news) :
    St g c lo σ X { s with heap := h', toks := tk } ∧ Ev s { s with heap := h', toks := tk } := by
  have k := led_keeps F F' N sub
  have kt : TupLe s.heap h' := fun a vs e => by
    refine k _ _ ?_ e
    rintro rfl
    obtain ⟨o, es, ep, ho, hd, _⟩ := F.ns
    rw [ho] at e
    cases Option.some.inj e
    cases hd
  exact ⟨⟨⟨m, F', fun x av e => let ⟨v, e1, e2⟩ := hm x av e; ⟨v, e1, e2.le kt⟩⟩, S.loc, fun a mo e => let ⟨e1, e2, e3⟩ := S.so a mo e; ⟨e1.keep kt (fun o q => k _ _ e2 q), e2, e3⟩,
    fun q hq => let ⟨e1, e2, e3⟩ := S.xs q hq; ⟨k _ _ e2 e1, e2, e3⟩⟩, rfl, rfl, rfl, kt⟩

theorem binW_ok (O : c.Ok g) {op : Operator} {a b : AV} {P : AV → Store → Prop} (h : binW c.dp op a b σ P) : AO2 g c (binaryOp op) a b lo σ P := by
  intro X s v u S ra rb
  unfold binW at h
  split at h
  · rename_i x y
    simp only [HRel] at ra rb
    obtain ⟨t, rfl⟩ := ra
    obtain ⟨t', rfl⟩ := rb
    split at h
    · exact add_int (ret_now S h hint)
    · exact sub_int (ret_now S h hint)
    · exact mul_int (ret_now S h.2 hint) h.1
    · exact floordiv_int h.1 (ret_now S h.2.2 hint) (Or.inr (pylong_room O S h.2.1))
    · exact mod_int' h.1 (ret_now S h.2 hint)
    · exact lshift_int_small h.1 h.2.1 h.2.2.1 (ret_now S h.2.2.2 hint)
    · exact rshift_int h.1 (ret_now S h.2 hint)
    · exact pow_int_small h.1 h.2.1 h.2.2.1 (ret_now S h.2.2.2 hint)
    · exact and_int (ret_now S h hint)
    · exact or_int (ret_now S h hint)
    · exact xor_int (ret_now S h hint)
    · exact h.elim
  · rename_i p q
    simp only [HRel] at ra rb
    subst ra rb
    obtain ⟨rfl, l, r, e1, e2, hsz, k⟩ := h
    obtain ⟨vs, hl, r1⟩ := (S.so _ _ e1).1.isList
    obtain ⟨ws, hr, r2⟩ := (S.so _ _ e2).1.isList
    obtain ⟨m, F, hm⟩ := S.fr
    refine add_arrays F (led_news s.heap) hl hr (fun h' F' N' => ?_) (by rw [List.size_toArray, List.size_toArray, r1.length, r2.length]; exact hsz)
    obtain ⟨S', E⟩ := S.byLed (tk := s.toks) F hm F' N' fun _ hq => .tail _ hq
    refine ⟨.ref _, _, k _ (S.free (get_size _)).1, href, S.join S' (get_size _) ⟨vs ++ ws, 0, (N' _ (.head _)).1, (r1.le E.tup).append (r2.le E.tup)⟩, E⟩
  · exact h.elim

noncomputable def unW (op : UnaryOp) (a : AV) (σ : Store) (P : AV → Store → Prop) : Prop :=
  match a with
  | .int x => (match op with
    | .Invert => P (.int (Builtin.bitNot x)) σ
    | .USub => P (.int (-x)) σ
    | _ => False)
  | _ => False
theorem unW_ok {op : UnaryOp} {a : AV} {P : AV → Store → Prop} (h : unW op a σ P) : AO1 g c (unaryOp op) a lo σ P := by
  intro X s v S ra
  unfold unW at h
  split at h
  · simp only [HRel] at ra
    obtain ⟨t, rfl⟩ := ra
    split at h
    · exact invert_int (ret_now S h hint)
    · exact neg_int (ret_now S h hint)
    · exact h.elim
  · exact h.elim

noncomputable def iopW (op : Operator) (a b : AV) (σ : Store) (P : AV → Store → Prop) : Prop :=
  match a, b with
  | .int x, .int y => (match op with
    | .Add => P (.int (x + y)) σ
    | .Sub => P (.int (x - y)) σ
    | .BitAnd => P (.int (Builtin.bitAnd x y)) σ
    | .BitOr => P (.int (Builtin.bitOr x y)) σ
    | _ => False)
  | _, _ => False
theorem iopW_ok {op : Operator} {a b : AV} {P : AV → Store → Prop} (h : iopW op a b σ P) : AO2 g c (inplaceOp op) a b lo σ P := by
  intro X s v u S ra rb
  unfold iopW at h
  split at h
  · simp only [HRel] at ra rb
    obtain ⟨t, rfl⟩ := ra
    obtain ⟨t', rfl⟩ := rb
    split at h
    · exact iadd_int (ret_now S h hint)
    · exact isub_int (ret_now S h hint)
    · exact iand_int (ret_now S h hint)
    · exact ior_int (ret_now S h hint)
    · exact h.elim
  · exact h.elim

noncomputable def truthW (a : AV) (σ : Store) (P : Bool → Prop) : Prop :=
  match a with
  | .none => P false
  | .bool b => P b
  | .int i => P (decide (i ≠ 0))
  | .ref p => ∃ l, σ p = some (.list l) ∧ (l.length : Int) < 2 ^ 63 ∧ P (decide (l ≠ []))
  | _ => False
theorem truthW_ok {a : AV} {P : Bool → Store → Prop} (h : truthW a σ fun b => P b σ) : AB1 g c truthy a lo σ P := by
  intro X s v S ra
  unfold truthW at h
  split at h
  · simp only [HRel] at ra; subst ra
    exact truthy_none ⟨_, h, S, .refl _⟩
  · simp only [HRel] at ra; subst ra
    exact wpAny_truthy_bool ⟨_, h, S, .refl _⟩
  · rename_i i
    simp only [HRel] at ra
    obtain ⟨t, rfl⟩ := ra
    refine truthy_int ⟨_, ?_, S, .refl _⟩
    have e : (i != 0) = decide (i ≠ 0) := by rw [Bool.eq_iff_iff]; simp
    rw [e]; exact h
  · obtain ⟨l, e1, hsz, p⟩ := h
    simp only [HRel] at ra; subst ra
    obtain ⟨vs, hl, r1⟩ := (S.so _ _ e1).1.isList
    refine wpAny_truthy_list hl (by rw [List.size_toArray, r1.length]; exact hsz) ⟨_, ?_, S.toks.1, S.toks.2⟩
    have e : (!vs.toArray.isEmpty) = decide (l ≠ []) := by
      have q := r1.length
      cases l <;> cases vs <;> simp_all
    rw [e]; exact p
  · exact h.elim
end
/-! text VC3 -/

mutual
noncomputable def AV.pd : AV → Option PyData
  | .none => some .none
  | .bool b => some (.bool b)
  | .int i => some (.int i)
  | .str x => some (.str x)
  | .tup l => (AV.pds l).map .tuple
  | .ref _ => Option.none
noncomputable def AV.pds : List AV → Option (List PyData)
  | [] => some []
  | x :: l => match AV.pd x, AV.pds l with
    | some d, some ds => some (d :: ds)
    | _, _ => Option.none
end
noncomputable def AV.sd (σ : Store) : AV → Option PyData
  | .ref a => match σ a with
    | some (.list l) => (AV.pds l).map .list
    | _ => Option.none
  | v => v.pd

mutual
theorem HRel.reads {h : Heap} : ∀ {x : AV} {v : Value} {d : PyData}, HRel h x v → x.pd = some d → ∃ as, Reads h v d as
  | .none, _, _, e, q => by simp only [AV.pd, Option.some.injEq] at q; subst q; simp only [HRel] at e; subst e; exact ⟨_, Reads.none⟩
  | .bool b, _, _, e, q => by simp only [AV.pd, Option.some.injEq] at q; subst q; simp only [HRel] at e; subst e; exact ⟨_, Reads.bool b⟩
  | .int i, _, _, e, q => by simp only [AV.pd, Option.some.injEq] at q; subst q; simp only [HRel] at e; obtain ⟨t, rfl⟩ := e; exact ⟨_, Reads.int i t⟩
  | .str x, _, _, e, q => by simp only [AV.pd, Option.some.injEq] at q; subst q; simp only [HRel] at e; obtain ⟨t, rfl⟩ := e; exact ⟨_, Reads.str x t⟩
  | .ref _, _, _, _, q => by simp [AV.pd] at q
  | .tup l, v, d, e, q => by
    simp only [HRel] at e
    obtain ⟨a, vs, rfl, e2, e3⟩ := e
    simp only [AV.pd, Option.map_eq_some_iff] at q
    obtain ⟨ds, q, rfl⟩ := q
    obtain ⟨as, r⟩ := HRels.reads e3 q
    exact ⟨as, reads_tuple_at e2 rfl rfl (by simpa using r)⟩
theorem HRels.reads {h : Heap} : ∀ {l : List AV} {vs : List Value} {ds : List PyData}, HRels h l vs → AV.pds l = some ds → ∃ as, ReadsAll h vs ds as
  | [], _, _, e, q => by simp only [AV.pds, Option.some.injEq] at q; subst q; simp only [HRels] at e; subst e; exact ⟨_, ReadsAll.nil⟩
  | x :: l, _, ds, e, q => by
    simp only [HRels] at e
    obtain ⟨v, r, rfl, e2, e3⟩ := e
    simp only [AV.pds] at q
    split at q
    · rename_i d ds' q1 q2
      cases q
      obtain ⟨as, r1⟩ := HRel.reads e2 q1
      obtain ⟨bs, r2⟩ := HRels.reads e3 q2
      exact ⟨_, ReadsAll.cons r1 r2⟩
    · cases q
end

noncomputable def AV.isNone : AV → Bool
  | .none => true
  | _ => false

section
variable {g : G} {c : Cx} {lo : Locals} {σ : Store} {X : Led} {s s' : Shared}

theorem St.reads (S : St g c lo σ X s) {x : AV} {v : Value} {d : PyData} (e : HRel s.heap x v) (q : x.sd σ = some d) : ∃ as, Reads s.heap v d as := by
  unfold AV.sd at q
  split at q
  · rename_i a
    simp only [HRel] at e
    subst e
    split at q
    · rename_i l hl
      obtain ⟨vs, n, e1, r⟩ := (S.so _ _ hl).1
      simp only [Option.map_eq_some_iff] at q
      obtain ⟨ds, q, rfl⟩ := q
      obtain ⟨as, r1⟩ := r.reads q
      exact ⟨_, reads_list_at e1 rfl rfl (by simpa using r1)⟩
    · cases q
  · exact e.reads q

/-! ### comparisons -/
noncomputable def eqW (un : Nat) (a b : AV) (σ : Store) (P : Bool → Prop) : Prop :=
  match a, b with
  | .int x, .int y => P (decide (x = y))
  | .str x, .str y => P (decide (x = y))
  | a, b => ∃ da db, a.sd σ = some da ∧ b.sd σ = some db ∧ da.canLay0 = true ∧ db.canLay0 = true ∧ un + min da.depth db.depth < cLine ∧ P (da.eqv db)
noncomputable def inW (un : Nat) (a b : AV) (σ : Store) (P : Bool → Prop) : Prop :=
  match a, b with
  | .int x, .tup l => un + 2 < cLine ∧ ∃ xs : List Int, l = xs.map AV.int ∧ P (decide (x ∈ xs))
  | .int x, .ref p => un + 2 < cLine ∧ ∃ xs : List Int, σ p = some (.list (xs.map AV.int)) ∧ P (decide (x ∈ xs))
  | .str x, .tup l => un + 2 < cLine ∧ PyData.strOk x = true ∧ ∃ xs : List Str, l = xs.map AV.str ∧ (∀ y ∈ xs, PyData.strOk y = true) ∧ P (decide (x ∈ xs))
  | _, _ => False
noncomputable def cmpW (un : Nat) (op : CmpOp) (a b : AV) (σ : Store) (P : Bool → Prop) : Prop :=
  match op with
  | .Is => b.isNone = true ∧ P a.isNone
  | .IsNot => b.isNone = true ∧ P (!a.isNone)
  | .In => inW un a b σ P
  | .NotIn => inW un a b σ fun q => P (!q)
  | .Eq => eqW un a b σ P
  | .NotEq => eqW un a b σ fun q => P (!q)
  | .Lt => match a, b with | .int x, .int y => P (decide (x < y)) | _, _ => False
  | .LtE => match a, b with | .int x, .int y => P (decide (x ≤ y)) | _, _ => False
  | .Gt => match a, b with | .int x, .int y => P (decide (x > y)) | _, _ => False
  | .GtE => match a, b with | .int x, .int y => P (decide (x ≥ y)) | _, _ => False

theorem pds_ints : ∀ xs : List Int, AV.pds (xs.map AV.int) = some (xs.map PyData.int)
  | [] => rfl
  | x :: xs => by simp only [List.map_cons, AV.pds, AV.pd, pds_ints xs]
theorem pds_strs : ∀ xs : List Str, AV.pds (xs.map AV.str) = some (xs.map PyData.str)
  | [] => rfl
  | x :: xs => by simp only [List.map_cons, AV.pds, AV.pd, pds_strs xs]
theorem lay_ints : ∀ xs : List Int, PyData.canLayAll0 (xs.map PyData.int) = true
  | [] => rfl
  | x :: xs => by simp [PyData.canLayAll0, PyData.canLay0, lay_ints xs]
theorem lay_strs : ∀ xs : List Str, (∀ y ∈ xs, PyData.strOk y = true) → PyData.canLayAll0 (xs.map PyData.str) = true
  | [], _ => rfl
  | x :: xs, h => by simp [PyData.canLayAll0, PyData.canLay0, lay_strs xs fun y hy => h y (.tail _ hy), h x (.head _)]
theorem any_ints (x : Int) : ∀ xs : List Int, ((xs.map PyData.int).any fun y => PyData.eqv y (.int x)) = decide (x ∈ xs)
  | [] => (decide_eq_false (by exact fun h => nomatch h)).symm
  | y :: xs => by
    rw [List.map_cons, List.any_cons, any_ints x xs]
    show ((y == x) || decide (x ∈ xs)) = decide (x ∈ y :: xs)
    by_cases h : y = x
    · subst h; rw [beq_self_eq_true, Bool.true_or, decide_eq_true List.mem_cons_self]
    · have e : (y == x) = false := beq_eq_false_iff_ne.mpr h
      rw [e, Bool.false_or]
      by_cases k : x ∈ xs
      · rw [decide_eq_true k, decide_eq_true (List.mem_cons_of_mem _ k)]
      · rw [decide_eq_false k, decide_eq_false fun q => (List.mem_cons.mp q).elim (fun z => h z.symm) k]
theorem any_strs (x : Str) : ∀ xs : List Str, ((xs.map PyData.str).any fun y => PyData.eqv y (.str x)) = decide (x ∈ xs)
  | [] => (decide_eq_false (by exact fun h => nomatch h)).symm
  | y :: xs => by
    rw [List.map_cons, List.any_cons, any_strs x xs]
    show ((y == x) || decide (x ∈ xs)) = decide (x ∈ y :: xs)
    by_cases h : y = x
    · subst h; rw [beq_self_eq_true, Bool.true_or, decide_eq_true List.mem_cons_self]
    · have e : (y == x) = false := beq_eq_false_iff_ne.mpr h
      rw [e, Bool.false_or]
      by_cases k : x ∈ xs
      · rw [decide_eq_true k, decide_eq_true (List.mem_cons_of_mem _ k)]
      · rw [decide_eq_false k, decide_eq_false fun q => (List.mem_cons.mp q).elim (fun z => h z.symm) k]

theorem ret_bool {P : Bool → Prop} {b : Bool} (S : St g c lo σ X s) (p : P b) : Ret g c lo X s (fun v σ' => ∃ b, v = .bool b ∧ σ' = σ ∧ P b) (.bool b) s := ret_same S ⟨b, rfl, rfl, p⟩ hbool

theorem eqW_ok {neg : Bool} {a b : AV} {P : Bool → Prop} (h : eqW c.un a b σ fun q => P (neg ^^ q)) :
    AO2 g c (compareOp (if neg then .NotEq else .Eq)) a b lo σ fun v σ' => ∃ b, v = .bool b ∧ σ' = σ ∧ P b := by
  intro X s v u S ra rb
  unfold eqW at h
  split at h
  · rename_i x y
    simp only [HRel] at ra rb
    obtain ⟨t, rfl⟩ := ra
    obtain ⟨t', rfl⟩ := rb
    cases neg with
    | false => exact eq_int (ret_bool S (by simpa [BEq.beq] using h))
    | true => exact ne_int (ret_bool S (by simpa [bne, BEq.beq] using h))
  · rename_i x y
    simp only [HRel] at ra rb
    obtain ⟨t, rfl⟩ := ra
    obtain ⟨t', rfl⟩ := rb
    cases neg with
    | false => exact eq_str (ret_bool S (by simpa [BEq.beq] using h))
    | true => exact ne_str (ret_bool S (by simpa [bne, BEq.beq] using h))
  · obtain ⟨da, db, e1, e2, l1, l2, r, p⟩ := h
    obtain ⟨as, q1⟩ := S.reads ra e1
    obtain ⟨bs, q2⟩ := S.reads rb e2
    cases neg with
    | false => exact SeqAt.compareEq_reads q1 q2 l1 l2 r (ret_bool S (by simpa using p))
    | true => exact SeqAt.compareNe_reads q1 q2 l1 l2 r (ret_bool S (by simpa using p))

theorem inW_ok {neg : Bool} {a b : AV} {P : Bool → Prop} (h : inW c.un a b σ fun q => P (neg ^^ q)) :
    AO2 g c (compareOp (if neg then .NotIn else .In)) a b lo σ fun v σ' => ∃ b, v = .bool b ∧ σ' = σ ∧ P b := by
  intro X s v u S ra rb
  have dep : ∀ (un : Nat), un + 2 < cLine → ∀ xs : List PyData, (∀ x ∈ xs, x.depth = 0) → ∀ d : PyData, d.depth = 0 → un + 1 + min (PyData.depthAll xs) d.depth < cLine := by
    intro un hu xs hx d hd
    rw [hd, Nat.min_zero]; (first | lia | omega)
  unfold inW at h
  split at h
  · rename_i x l
    obtain ⟨hu, xs, rfl, p⟩ := h
    simp only [HRel] at ra
    obtain ⟨t, rfl⟩ := ra
    obtain ⟨as, q⟩ := rb.reads (d := .tuple (xs.map PyData.int)) (by simp only [AV.pd, pds_ints]; rfl)
    have hr := dep c.un hu (xs.map PyData.int) (by simp [PyData.depth]) (.int x) (by simp [PyData.depth])
    cases neg with
    | false => exact SeqAt.in_tuple_reads q (Reads.int x t) (lay_ints xs) rfl hr (ret_bool S (by rw [any_ints]; simpa using p))
    | true => exact SeqAt.notIn_tuple_reads q (Reads.int x t) (lay_ints xs) rfl hr (ret_bool S (by rw [any_ints]; simpa using p))
  · rename_i x l
    obtain ⟨hu, xs, hl, p⟩ := h
    simp only [HRel] at ra
    obtain ⟨t, rfl⟩ := ra
    obtain ⟨as, q⟩ := S.reads rb (d := .list (xs.map PyData.int)) (by simp only [AV.sd, hl, pds_ints]; rfl)
    have hr := dep c.un hu (xs.map PyData.int) (by simp [PyData.depth]) (.int x) (by simp [PyData.depth])
    cases neg with
    | false => exact SeqAt.in_list_reads q (Reads.int x t) (lay_ints xs) rfl hr (ret_bool S (by rw [any_ints]; simpa using p))
    | true => exact SeqAt.notIn_list_reads q (Reads.int x t) (lay_ints xs) rfl hr (ret_bool S (by rw [any_ints]; simpa using p))
  · rename_i x l
    obtain ⟨hu, hx, xs, rfl, hy, p⟩ := h
    simp only [HRel] at ra
    obtain ⟨t, rfl⟩ := ra
    obtain ⟨as, q⟩ := rb.reads (d := .tuple (xs.map PyData.str)) (by simp only [AV.pd, pds_strs]; rfl)
    have hr := dep c.un hu (xs.map PyData.str) (by simp [PyData.depth]) (.str x) (by simp [PyData.depth])
    cases neg with
    | false => exact SeqAt.in_tuple_reads q (Reads.str x t) (lay_strs xs hy) hx hr (ret_bool S (by rw [any_strs]; simpa using p))
    | true => exact SeqAt.notIn_tuple_reads q (Reads.str x t) (lay_strs xs hy) hx hr (ret_bool S (by rw [any_strs]; simpa using p))
  · exact h.elim

theorem cmpW_ok {op : CmpOp} {a b : AV} {P : Bool → Prop} (h : cmpW c.un op a b σ P) :
    AO2 g c (compareOp op) a b lo σ fun v σ' => ∃ b, v = .bool b ∧ σ' = σ ∧ P b := by
  cases op with
  | Eq => exact eqW_ok (neg := false) (by simp only [Bool.false_xor]; exact h)
  | NotEq => exact eqW_ok (neg := true) (by simp only [Bool.true_xor]; exact h)
  | In => exact inW_ok (neg := false) (by simp only [Bool.false_xor]; exact h)
  | NotIn => exact inW_ok (neg := true) (by simp only [Bool.true_xor]; exact h)
  | Is =>
    intro X s v u S ra rb
    obtain ⟨hb, p⟩ := h
    cases b <;> simp only [AV.isNone, Bool.false_eq_true] at hb
    simp only [HRel] at rb; subst rb
    cases a <;> simp only [HRel, AV.isNone] at ra p
    · subst ra; exact is_none_none (ret_bool S p)
    · subst ra; exact is_bool_none (ret_bool S p)
    · obtain ⟨t, rfl⟩ := ra; exact is_int_none (ret_bool S p)
    · obtain ⟨t, rfl⟩ := ra; exact is_str_none (ret_bool S p)
    · obtain ⟨t, _, rfl, _⟩ := ra; exact is_ref_none (ret_bool S p)
    · subst ra; exact is_ref_none (ret_bool S p)
  | IsNot =>
    intro X s v u S ra rb
    obtain ⟨hb, p⟩ := h
    cases b <;> simp only [AV.isNone, Bool.false_eq_true] at hb
    simp only [HRel] at rb; subst rb
    cases a <;> simp only [HRel, AV.isNone, Bool.not_true, Bool.not_false] at ra p
    · subst ra; exact isnot_none_none (ret_bool S p)
    · subst ra; exact isnot_bool_none (ret_bool S p)
    · obtain ⟨t, rfl⟩ := ra; exact isnot_int_none (ret_bool S p)
    · obtain ⟨t, rfl⟩ := ra; exact isnot_str_none (ret_bool S p)
    · obtain ⟨t, _, rfl, _⟩ := ra; exact isnot_ref_none (ret_bool S p)
    · subst ra; exact isnot_ref_none (ret_bool S p)
  | Lt =>
    intro X s v u S ra rb
    simp only [cmpW] at h
    split at h
    · simp only [HRel] at ra rb; obtain ⟨t, rfl⟩ := ra; obtain ⟨t', rfl⟩ := rb
      exact lt_int (ret_bool S h)
    · exact h.elim
  | LtE =>
    intro X s v u S ra rb
    simp only [cmpW] at h
    split at h
    · simp only [HRel] at ra rb; obtain ⟨t, rfl⟩ := ra; obtain ⟨t', rfl⟩ := rb
      exact le_int (ret_bool S h)
    · exact h.elim
  | Gt =>
    intro X s v u S ra rb
    simp only [cmpW] at h
    split at h
    · simp only [HRel] at ra rb; obtain ⟨t, rfl⟩ := ra; obtain ⟨t', rfl⟩ := rb
      exact gt_int (ret_bool S h)
    · exact h.elim
  | GtE =>
    intro X s v u S ra rb
    simp only [cmpW] at h
    split at h
    · simp only [HRel] at ra rb; obtain ⟨t, rfl⟩ := ra; obtain ⟨t', rfl⟩ := rb
      exact ge_int (ret_bool S h)
    · exact h.elim
end
/-! text VC4 -/

section
variable {g : G} {c : Cx} {lo : Locals} {σ : Store} {X : Led} {s s' : Shared}

theorem MRel.listObj {h : Heap} {a : Addr} {l : List AV} (m : MRel g h a (.list l)) : ∃ vs n, h.get? a = some (listOf vs.toArray n) ∧ HRels h l vs := m

/-! ### items -/
noncomputable def itemW (a b : AV) (σ : Store) (P : AV → Store → Prop) : Prop :=
  match b with
  | .int k => 0 ≤ k ∧ k < 2 ^ 63 ∧ (match a with
    | .tup l => ∃ x, l[k.toNat]? = some x ∧ P x σ
    | .ref p => ∃ l x, σ p = some (.list l) ∧ l[k.toNat]? = some x ∧ P x σ
    | _ => False)
  | _ => False
noncomputable def notSlice : Expr → Bool
  | .Slice .. => false
  | _ => true
theorem subscripted_plain {slice : Expr} (h : notSlice slice = true) (o i : Value) : subscripted slice false o i = operate [o, i] (getItem o i) := by
  cases slice <;> first | rfl | cases h
theorem itemW_ok {value slice : Expr} (hs : notSlice slice = true) {a b : AV} {P : AV → Store → Prop} (h : itemW a b σ P) : AO2 g c (subscriptTail value slice) a b lo σ P := by
  intro X s v u S ra rb
  unfold itemW at h
  split at h
  · rename_i k
    obtain ⟨h0, h1, h⟩ := h
    simp only [HRel] at rb
    obtain ⟨t, rfl⟩ := rb
    split at h
    · rename_i l
      obtain ⟨x, hx, p⟩ := h
      simp only [HRel] at ra
      obtain ⟨a, vs, rfl, e1, r⟩ := ra
      obtain ⟨y, hy, ry⟩ := r.get hx
      have hlt : k.toNat < vs.length := (List.getElem?_eq_some_iff.mp hy).1
      have hj : seqIndex? k vs.length = some k.toNat := by
        unfold seqIndex?
        have e1 : ¬ (k < 0) := by (first | lia | omega)
        simp only [e1, if_false]
        rw [if_pos (by rw [decide_eq_true h0, decide_eq_true (show k < vs.length by (first | lia | omega))]; rfl)]
      exact item_tupleT ⟨_, e1, rfl, 0, rfl⟩ (by (first | lia | omega)) h1 hj hy (ret_same S p ry) (subscripted_plain hs _ _)
    · rename_i q
      obtain ⟨l, x, hl, hx, p⟩ := h
      simp only [HRel] at ra
      subst ra
      obtain ⟨vs, hli, r⟩ := (S.so _ _ hl).1.isList
      obtain ⟨y, hy, ry⟩ := r.get hx
      exact tail_any hli.typeIs slot_list_getitem.lookup (wpAny_getItem_list hli h0 h1 (by simpa using hy) (ret_same S p ry)) (subscripted_plain hs _ _)
    · exact h.elim
  · exact h.elim

/-! ### slices -/
theorem pick_upto {vs : List Value} {l : List AV} {h : Heap} {y : Int} (r : HRels h l vs) (h0 : 0 ≤ y) : (slicePick vs.toArray none (some y) none) = (vs.take y.toNat).toArray := by
  have e : sliceBounds none (some y) none vs.toArray.size = (((0 : Nat) : Int), ((min y.toNat vs.toArray.size : Nat) : Int), 1) := by
    simp only [sliceBounds, Option.getD_none, show (1 : Int) > 0 by decide, if_true, if_neg (show ¬ (y < 0) by (first | lia | omega))]
    congr 1
    congr 1
    (first | lia | omega)
  rw [kmk_pick_nat _ e]
  show ((vs.drop 0).take (min y.toNat vs.toArray.size - 0)).toArray = _
  rw [List.drop_zero, Nat.sub_zero, List.size_toArray, kmk_take_min]
theorem pick_from {vs : List Value} {l : List AV} {h : Heap} {x : Int} (r : HRels h l vs) (h0 : 0 ≤ x) : (slicePick vs.toArray (some x) none none) = (vs.drop x.toNat).toArray := by
  have e : sliceBounds (some x) none none vs.toArray.size = (((min x.toNat vs.toArray.size : Nat) : Int), ((vs.toArray.size : Nat) : Int), 1) := by
    simp only [sliceBounds, Option.getD_none, show (1 : Int) > 0 by decide, if_true, if_neg (show ¬ (x < 0) by (first | lia | omega))]
    congr 1
    (first | lia | omega)
  rw [kmk_pick_nat _ e]
  show ((vs.drop (min x.toNat vs.toArray.size)).take (vs.toArray.size - min x.toNat vs.toArray.size)).toArray = _
  rw [List.size_toArray, kmk_drop_min, List.take_of_length_le (by rw [List.length_drop]; (first | lia | omega))]

/-- the list behind a value: of the store, or one that stands for good -/
noncomputable def listAt (g : G) (σ : Store) (a : AV) (l : List AV) : Prop :=
  ∃ p, a = .ref p ∧ (σ p = some (.list l) ∨ ∃ ns, g.fz p = some ns ∧ l = ns.map AV.int)
theorem hrels_ints {h : Heap} : ∀ {vs : List Value} {ns : List Int}, IntsAre vs ns → HRels h (ns.map AV.int) vs
  | _, _, .nil => by simp only [List.map_nil, HRels]
  | _, _, .cons n t r => by simp only [List.map_cons, HRels]; exact ⟨_, _, rfl, hint, hrels_ints r⟩
theorem ints_hrels {h : Heap} : ∀ {vs : List Value} {ns : List Int}, HRels h (ns.map AV.int) vs → IntsAre vs ns
  | vs, [], e => by simp only [List.map_nil, HRels] at e; subst e; exact .nil
  | vs, n :: ns, e => by
    simp only [List.map_cons, HRels] at e
    obtain ⟨v, r, rfl, e2, e3⟩ := e
    simp only [HRel] at e2
    obtain ⟨t, rfl⟩ := e2
    exact .cons n t (ints_hrels e3)
theorem listAt_ok (O : c.Ok g) (S : St g c lo σ X s) {a : AV} {l : List AV} (h : listAt g σ a l) : ∃ p vs, a = .ref p ∧ s.heap.IsList p vs.toArray ∧ HRels s.heap l vs := by
  obtain ⟨p, rfl, h | ⟨ns, e, rfl⟩⟩ := h
  · obtain ⟨vs, hl, r⟩ := (S.so _ _ h).1.isList
    exact ⟨p, vs, rfl, hl, r⟩
  · obtain ⟨vs, hl, hi⟩ := O.fz p ns e
    obtain ⟨m, F, _⟩ := S.fr
    exact ⟨p, vs, rfl, hl.at fun o q => F.keep _ _ q, hrels_ints hi⟩

theorem slice_A {value slice : Expr} {l l' : List AV} {p : Addr} {vs ws : List Value} {vl vu : Value} {lo' hi : Option Int} {P : AV → Store → Prop}
    (S : St g c lo σ X s) (hl : s.heap.IsList p vs.toArray) (r : HRels s.heap l vs) (pl : IsPart vl lo') (pu : IsPart vu hi) (e : slicePick vs.toArray lo' hi none = ws.toArray) (r' : HRels s.heap l' ws)
    (hsz : l.length ≤ sizeLine) (k : ∀ d, σ d = none → P (.ref d) (σ.set d (.list l')))
    (hs : ∀ o i, subscripted slice false o i = operate [i, o] (getItem o i)) :
    wpAny g.M c.A (subscriptTail value slice (.ref p) (.ref s.heap.objs.size)) (Ret g c lo X s P) NoE { s with heap := s.heap.push { cls := .type "slice", data := .fields #[vl, vu, .none] } } := by
  have hl' := hl.push { cls := .type "slice", data := .fields #[vl, vu, .none] }
  refine tail_any (Heap.IsList.typeIs (s := { s with heap := s.heap.push { cls := .type "slice", data := .fields #[vl, vu, .none] } }) hl') list_getitem_lookup
    (wpAny_getItem_list_slice hl' (Heap.IsSliceOf.new ..) pl pu .none (by simp) ?_ (by rw [List.size_toArray, r.length]; exact hsz)) (hs _ _)
  rw [e]
  obtain ⟨S1, E1⟩ := S.keep (h' := s.heap.push { cls := .type "slice", data := .fields #[vl, vu, .none] }) (tk := s.toks) fun _ _ e => Heap.get?_push_of_some _ e
  obtain ⟨S2, E2⟩ := S1.keep (h' := (s.heap.push { cls := .type "slice", data := .fields #[vl, vu, .none] }).push { cls := .type "list", data := .seq ws.toArray }) (tk := s.toks) fun _ _ e => Heap.get?_push_of_some _ e
  exact ⟨.ref _, _, k _ (S1.free (get_size _)).1, href, S1.join S2 (get_size _) ⟨ws, 0, Heap.get?_push_size _ rfl, r'.le (E1.trans E2).tup⟩, E1.trans E2⟩

/-! ### stores into lists -/
section

theorem setItem_at {prog : Program} {w : World} {A : Around} {E : Value → Shared → Prop} {s : Shared} {l : Addr} {vs : List Value} {n : Nat} {k : Int} {t : Tok} {v : Value} {Q : Unit → Shared → Prop}
    (ho : s.heap.get? l = some (listOf vs.toArray n)) (h0 : 0 ≤ k) (hk : k < vs.length) (hfit : k < 2 ^ 63) (hQ : Q () { s with heap := s.heap.update l (Obj.mapSeq (·.setIfInBounds k.toNat v)) }) :
    wpAny (model prog w) A (setItem (.ref l) (.int k t) v) Q E s := by
  have hl : s.heap.IsList l vs.toArray := ⟨_, ho, rfl, n, rfl⟩
  unfold setItem
  refine wpAny_holding ?_
  refine wpAny_bind (wpAny_sequenceKey hl.typeIs (by decide) ?_)
  refine wpAny_bind (wpAny_callSpecial?_slot (name := Str.ofString "__setitem__") hl.typeIs slot_list_setitem
    (wpAny_call_entry slot_list_setitem hl.typeIs entry_list_setitem ?_ (args_list_setitem _ _ _)))
  show wpAny _ _ (Builtin.List.listSubscript? (.int k t) >>= _) _ _ s
  refine wpAny_bind (wpAny_listSubscript_int (fitsIndex_of h0 hfit) ?_)
  clear hfit
  obtain ⟨j, rfl⟩ := Int.eq_ofNat_of_zero_le h0
  show wpAny _ _ ((seqItemAt l j >>= fun r => pure (r.map (j, ·))) >>= _) _ _ s
  refine wpAny_bind (wpAny_bind (wpAny_seqItemAt ho rfl (wpAny_pure ?_)))
  have hj : j < vs.length := by (first | lia | omega)
  rw [show vs.toArray[j]? = some vs[j] by simp [hj]]
  show wpAny _ _ (setSeqItemAt l j v >>= _) _ _ s
  refine wpAny_bind (wpAny_setSeqItemAt ho rfl ?_)
  exact wpAny_pure ⟨.none, rfl, wpAny_pure hQ⟩
end

theorem setSeq_obj (vs : List Value) (n j : Nat) (x : Value) : some (Obj.mapSeq (·.setIfInBounds j x) (W.listOf vs.toArray n)) = some (W.listOf (vs.set j x).toArray n) := by
  have e : (vs.toArray.setIfInBounds j x) = (vs.set j x).toArray := by simp
  have e2 : (vs.set j x).toArray.size = vs.toArray.size := by simp
  unfold Obj.mapSeq W.listOf
  simp only [e, e2, beq_self_eq_true, if_true]

noncomputable def setItemW (a b d : AV) (σ : Store) (P : Store → Prop) : Prop :=
  match a, b with
  | .ref p, .int k => ∃ l, σ p = some (.list l) ∧ 0 ≤ k ∧ k < 2 ^ 63 ∧ k < l.length ∧ P (σ.set p (.list (l.set k.toNat d)))
  | _, _ => False
theorem setItemW_ok {a b d : AV} {P : Store → Prop} (h : setItemW a b d σ P) : AU3 g c setItem a b d lo σ P := by
  intro X s v u x S ra rb rd
  unfold setItemW at h
  split at h
  · rename_i p k
    obtain ⟨l, hl, h0, h1, h2, q⟩ := h
    simp only [HRel] at ra rb
    subst ra
    obtain ⟨t, rfl⟩ := rb
    obtain ⟨vs, n, e1, r⟩ := (S.so _ _ hl).1
    have hlen := r.length
    obtain ⟨j, rfl⟩ := Int.eq_ofNat_of_zero_le h0
    refine setItem_at e1 h0 (by rw [hlen]; exact h2) h1 ?_
    obtain ⟨S', E⟩ := S.upd (mo' := .list (l.set j d)) (tk := s.toks) hl (Heap.SameBut.update _ _ (Obj.mapSeq (·.setIfInBounds j x))) fun k => ⟨vs.set j x, _, by
      rw [Heap.get?_update_self _ e1 (by rfl)]
      exact setSeq_obj vs n j x, (r.le k).set j (rd.le k)⟩
    exact ⟨_, q, S', E⟩
  · exact h.elim
end
/-! text VC5 -/

section
variable {g : G} {c : Cx} {lo : Locals} {σ : Store} {X : Led} {s s' : Shared}

/-! ### methods of lists -/
noncomputable def appendW (p : Addr) (as : List AV) (σ : Store) (P : AV → Store → Prop) : Prop :=
  match as with
  | [x] => ∃ l, σ p = some (.list l) ∧ l.length ≤ sizeLine ∧ P .none (σ.set p (.list (l ++ [x])))
  | _ => False
theorem appendW_ok {p : Addr} {as : List AV} {P : AV → Store → Prop} (h : appendW p as σ P) : AOs g c (fun vs => call (.builtin "list.append") ([.ref p] ++ vs)) as lo σ P := by
  intro X s vs S r
  unfold appendW at h
  split at h
  · rename_i x
    obtain ⟨l, hl, hsz, q⟩ := h
    simp only [HRels] at r
    obtain ⟨v, _, rfl, rv, rfl⟩ := r
    obtain ⟨ws, n, e1, rl⟩ := (S.so _ _ hl).1
    refine append_at e1 (fun h' hs' ho' => ?_) (by rw [List.size_toArray, rl.length]; exact hsz)
    obtain ⟨S', E⟩ := S.upd (mo' := .list (l ++ [x])) (tk := s.toks) hl hs' fun k => ⟨ws ++ [v], n + 1, by rw [ho']; simp, (rl.le k).append (by simp only [HRels]; exact ⟨v, [], rfl, rv.le k, rfl⟩)⟩
    exact ⟨_, _, q, hnone, S', E⟩
  · exact h.elim
noncomputable def indexW (p : Addr) (as : List AV) (σ : Store) (P : AV → Store → Prop) : Prop :=
  match as with
  | [.int x] => ∃ xs : List Int, σ p = some (.list (xs.map AV.int)) ∧ (PyData.list (xs.map .int)).layable0 = true ∧ x ∈ xs ∧ P (.int (xs.idxOf x : Nat)) σ
  | _ => False
theorem indexW_ok {p : Addr} {as : List AV} {P : AV → Store → Prop} (h : indexW p as σ P) : AOs g c (fun vs => call (.builtin "list.index") ([.ref p] ++ vs)) as lo σ P := by
  intro X s vs S r
  unfold indexW at h
  split at h
  · rename_i x
    obtain ⟨xs, hl, hlay, hx, q⟩ := h
    simp only [HRels, HRel] at r
    obtain ⟨v, _, rfl, ⟨t, rfl⟩, rfl⟩ := r
    obtain ⟨ws, hli, rl⟩ := (S.so _ _ hl).1.isList
    exact index_list_ints hli (ints_hrels rl) hlay hx (ret_now S q hint)
  · exact h.elim

/-! ### a dict keyed by pairs -/
theorem tab_at {h : Heap} {a b : Int} : ∀ {xs : List (List Int × Addr × Value)} {l : List ((Int × Int) × Int)}, TabRel h xs l →
    match l.lookup (a, b) with
    | some n => ∃ t, (atKey xs [a, b]).map (·.2) = some (.int n t)
    | none => atKey xs [a, b] = none
  | [], [], _ => by simp [atKey]
  | [], _ :: _, e => e.elim
  | _ :: _, [], e => e.elim
  | (k, ka, v) :: xs, ((a', b'), n) :: l, ⟨e1, _, ⟨t, e3⟩, e4⟩ => by
    subst e1 e3
    have ih := tab_at (a := a) (b := b) e4
    rw [List.lookup_cons]
    by_cases q : (a, b) = (a', b')
    · cases q
      rw [beq_self_eq_true]
      exact ⟨t, by simp [atKey]⟩
    · have q2 : ((a, b) == (a', b')) = false := beq_eq_false_iff_ne.mpr q
      have q3 : ¬ ([a', b'] = [a, b]) := fun z => q (by simp only [List.cons.injEq, and_true] at z; rw [z.1, z.2])
      rw [q2]
      have e5 : atKey (([a', b'], ka, Value.int n t) :: xs) [a, b] = atKey xs [a, b] := by
        unfold atKey
        rw [List.find?_cons_of_neg (by simpa using q3)]
      rw [e5]
      exact ih
noncomputable def tgetW (un : Nat) (p : Addr) (as : List AV) (σ : Store) (P : AV → Store → Prop) : Prop :=
  match as with
  | [.tup [.int a, .int b], .int d] => un + 2 < cLine ∧ ∃ l, σ p = some (.tab l) ∧ P (.int ((l.lookup (a, b)).getD d)) σ
  | _ => False
theorem tup_key {h : Heap} {a b : Int} {v : Value} (r : HRel h (.tup [.int a, .int b]) v) : ∃ ka, v = .ref ka ∧ (∃ t t', h.get? ka = some (tupO [.int a t, .int b t'])) := by
  simp only [HRel, HRels] at r
  obtain ⟨ka, vs, rfl, e, v1, r1, rfl, ⟨t, rfl⟩, v2, r2, rfl, ⟨t', rfl⟩, rfl⟩ := r
  exact ⟨ka, rfl, t, t', e⟩
theorem key_is {h : Heap} {a b : Int} {ka : Addr} {t t' : Tok} (e : h.get? ka = some (tupO [.int a t, .int b t'])) : g.knd.is h [a, b] ka :=
  ⟨_, _, _, e, rfl, rfl, .cons (by simp [intKind, Value.isInt]) (.cons (by simp [intKind, Value.isInt]) .nil)⟩
theorem tgetW_ok {p : Addr} {as : List AV} {P : AV → Store → Prop} (h : tgetW c.un p as σ P) : AOs g c (fun vs => call (.builtin "dict.get") ([.ref p] ++ vs)) as lo σ P := by
  intro X s vs S r
  unfold tgetW at h
  split at h
  · rename_i a b d
    obtain ⟨hu, l, hl, q⟩ := h
    simp only [HRels] at r
    obtain ⟨v, _, rfl, rk, v2, _, rfl, rd, rfl⟩ := r
    simp only [HRel] at rd
    obtain ⟨t, rfl⟩ := rd
    obtain ⟨ka, rfl, t1, t2, ek⟩ := tup_key rk
    obtain ⟨hm, xs, hd, hr⟩ := (S.so _ _ hl).1
    have at_ := tab_at (a := a) (b := b) hr
    refine call_meetsIn PySem.F.slot_dict_get hd.typeIs PySem.F.entry_dict_get (PySem.F.args_dict_get_3 _ _ _) (meetsH_dict_get_default g.knd p ka hm (.int d t)) ⟨tupleKind_room_in1 (by show c.un + 1 < _; (first | lia | omega)), [a, b], xs, key_is ek, hd, ?_⟩
    split at at_
    · rename_i n e
      obtain ⟨t', e'⟩ := at_
      rw [e']
      rw [e] at q
      exact ret_now S q hint
    · rename_i e
      rw [at_]
      rw [e] at q
      exact ret_now S q hint
  · exact h.elim
theorem TabRel.push {h : Heap} {a b n : Int} {ka : Addr} {t t' u : Tok} (e : h.get? ka = some (tupO [.int a t, .int b t'])) : ∀ {xs : List (List Int × Addr × Value)} {l : List ((Int × Int) × Int)}, TabRel h xs l →
    TabRel h (xs ++ [([a, b], ka, .int n u)]) (l ++ [((a, b), n)])
  | [], [], _ => ⟨rfl, ⟨t, t', e⟩, ⟨u, rfl⟩, trivial⟩
  | [], _ :: _, q => q.elim
  | _ :: _, [], q => q.elim
  | (_, _, _) :: _, ((_, _), _) :: _, ⟨e1, e2, e3, e4⟩ => ⟨e1, e2, e3, TabRel.push e e4⟩
theorem TabRel.length {h : Heap} : ∀ {xs : List (List Int × Addr × Value)} {l : List ((Int × Int) × Int)}, TabRel h xs l → xs.length = l.length
  | [], [], _ => rfl
  | [], _ :: _, q => q.elim
  | _ :: _, [], q => q.elim
  | (_, _, _) :: _, ((_, _), _) :: _, ⟨_, _, _, e4⟩ => congrArg (· + 1) (TabRel.length e4)
noncomputable def tsetW (un : Nat) (a b d : AV) (σ : Store) (P : Store → Prop) : Prop :=
  match a, b, d with
  | .ref p, .tup [.int x, .int y], .int n => un + 2 < cLine ∧ ∃ l, σ p = some (.tab l) ∧ l.lookup (x, y) = none ∧ l.length ≤ sizeLine ∧ P (σ.set p (.tab (l ++ [((x, y), n)])))
  | _, _, _ => False
theorem tsetW_ok {a b d : AV} {P : Store → Prop} (h : tsetW c.un a b d σ P) : AU3 g c setItem a b d lo σ P := by
  intro X s v u z S ra rb rd
  unfold tsetW at h
  split at h
  · rename_i p x y n
    obtain ⟨hu, l, hl, hno, hsz, q⟩ := h
    simp only [HRel] at ra
    subst ra
    obtain ⟨ka, rfl, t1, t2, ek⟩ := tup_key rb
    simp only [HRel] at rd
    obtain ⟨t, rfl⟩ := rd
    obtain ⟨hm, xs, hd, hr⟩ := (S.so _ _ hl).1
    have at_ := tab_at (a := x) (b := y) hr
    rw [hno] at at_
    refine wpAny_setItem_heap (knd := g.knd) (tupleKind_room_in1 (by show c.un + 1 < _; (first | lia | omega))) (key_is ek) hd (fun h' hd' hs' => ?_) (by rw [hr.length]; exact hsz)
    obtain ⟨S', E⟩ := S.upd (mo' := .tab (l ++ [((x, y), n)])) (tk := s.toks + g.knd.draws [x, y]) hl hs' fun k => ⟨hm, _, hd', by
      rw [storedH_new at_]
      exact (hr.le k).push (k _ _ ek)⟩
    exact ⟨_, q, S', E⟩
  · exact h.elim

/-! ### built-in functions -/
noncomputable def bltW (f : Str) (as : List AV) (σ : Store) (P : AV → Store → Prop) : Prop :=
  if f = "len" then (match as with
    | [.ref p] => ∃ l, σ p = some (.list l) ∧ (l.length : Int) < 2 ^ 63 ∧ P (.int l.length) σ
    | [.tup l] => (l.length : Int) < 2 ^ 63 ∧ P (.int l.length) σ
    | _ => False)
  else if f = "abs" then (match as with
    | [.int x] => P (.int (if x < 0 then -x else x)) σ
    | _ => False)
  else if f = "max" then (match as with
    | [.int x, .int y] => P (.int (if y > x then y else x)) σ
    | _ => False)
  else if f = "min" then (match as with
    | [.int x, .int y] => P (.int (if y < x then y else x)) σ
    | _ => False)
  else if f = "list" then (match as with
    | [.ref p] => ∃ l, σ p = some (.list l) ∧ l.length ≤ sizeLine ∧ ∀ d, σ d = none → P (.ref d) (σ.set d (.list l))
    | _ => False)
  else False
noncomputable def bltV (f : Str) : Value := if f = "list" then .type "list" else .builtin f.toString
theorem bltW_len {as : List AV} {P : AV → Store → Prop} (h : bltW "len" as σ P) : AOs g c (fun vs => call (.builtin "len") vs) as lo σ P := by
  intro X s vs S r
  unfold bltW at h
  rw [if_pos rfl] at h
  split at h
  · obtain ⟨l, hl, hsz, q⟩ := h
    simp only [HRels, HRel] at r
    obtain ⟨v, _, rfl, rfl, rfl⟩ := r
    obtain ⟨ws, hli, rl⟩ := (S.so _ _ hl).1.isList
    have e : (List.toArray ws).size = l.length := by rw [List.size_toArray, rl.length]
    exact call_len_list hli (by rw [e]; exact hsz) (by rw [e]; exact ret_now S q hint)
  · obtain ⟨hsz, q⟩ := h
    rename_i l
    simp only [HRels, HRel] at r
    obtain ⟨v, _, rfl, ⟨a, ws, rfl, e1, rl⟩, rfl⟩ := r
    have e : (List.toArray ws).size = l.length := by rw [List.size_toArray, rl.length]
    exact len_tuple ⟨_, e1, rfl, 0, rfl⟩ (by rw [e]; exact hsz) (by rw [e]; exact ret_now S q hint)
  · exact h.elim
theorem bltW_abs {as : List AV} {P : AV → Store → Prop} (h : bltW "abs" as σ P) : AOs g c (fun vs => call (.builtin "abs") vs) as lo σ P := by
  intro X s vs S r
  unfold bltW at h
  rw [if_neg (by decide), if_pos rfl] at h
  split at h
  · simp only [HRels, HRel] at r
    obtain ⟨v, _, rfl, ⟨t, rfl⟩, rfl⟩ := r
    exact call_abs_int fun u tk => ret_now S h hint
  · exact h.elim
theorem bltW_max {as : List AV} {P : AV → Store → Prop} (h : bltW "max" as σ P) : AOs g c (fun vs => call (.builtin "max") vs) as lo σ P := by
  intro X s vs S r
  unfold bltW at h
  rw [if_neg (by decide), if_neg (by decide), if_pos rfl] at h
  split at h
  · simp only [HRels, HRel] at r
    obtain ⟨v, _, rfl, ⟨t, rfl⟩, v2, _, rfl, ⟨t', rfl⟩, rfl⟩ := r
    obtain ⟨m, F, hm⟩ := S.fr
    refine max_two_N rfl F (led_news s.heap) fun h' tk F' N' => ?_
    obtain ⟨S', E⟩ := S.byLed (tk := tk) F hm F' N' fun _ hq => hq
    exact ⟨_, _, h, hint, S', E⟩
  · exact h.elim
theorem bltW_min {as : List AV} {P : AV → Store → Prop} (h : bltW "min" as σ P) : AOs g c (fun vs => call (.builtin "min") vs) as lo σ P := by
  intro X s vs S r
  unfold bltW at h
  rw [if_neg (by decide), if_neg (by decide), if_neg (by decide), if_pos rfl] at h
  split at h
  · simp only [HRels, HRel] at r
    obtain ⟨v, _, rfl, ⟨t, rfl⟩, v2, _, rfl, ⟨t', rfl⟩, rfl⟩ := r
    obtain ⟨m, F, hm⟩ := S.fr
    refine min_two_N rfl F (led_news s.heap) fun h' tk F' N' => ?_
    obtain ⟨S', E⟩ := S.byLed (tk := tk) F hm F' N' fun _ hq => hq
    exact ⟨_, _, h, hint, S', E⟩
  · exact h.elim
theorem bltW_list {as : List AV} {P : AV → Store → Prop} (h : bltW "list" as σ P) : AOs g c (fun vs => call (.type "list") vs) as lo σ P := by
  intro X s vs S r
  unfold bltW at h
  rw [if_neg (by decide), if_neg (by decide), if_neg (by decide), if_neg (by decide), if_pos rfl] at h
  split at h
  · obtain ⟨l, hl, hsz, q⟩ := h
    simp only [HRels, HRel] at r
    obtain ⟨v, _, rfl, rfl, rfl⟩ := r
    obtain ⟨ws, n, e1, rl⟩ := (S.so _ _ hl).1
    refine call_list_seq (T := "list") _ (.inl rfl) e1 rfl rfl (fun h' c' hk hD => ?_) (by rw [List.size_toArray, rl.length]; exact hsz)
    obtain ⟨S', E⟩ := S.keep (tk := s.toks) hk
    exact ⟨_, _, q _ (S.free (get_size _)).1, href, S.join S' (get_size _) ⟨ws, c', hD, rl.le E.tup⟩, E⟩
  · exact h.elim

/-! ### attributes of own objects -/
noncomputable def AttrIn (g : G) (C : Addr) (n : Str) : Prop := plainGet g.K C n = true ∧ hasDictIn g.K C = true ∧ ∃ attr, findIn g.K (.ref C) n = some attr ∧ noGet g.K attr = true
noncomputable def attrW (g : G) (a : AV) (n : Str) (σ : Store) (P : AV → Store → Prop) : Prop :=
  ∃ x C d l av, a = .ref x ∧ σ x = some (.inst C d) ∧ σ d = some (.attrs l) ∧ l.lookup n = some av ∧ AttrIn g C n ∧ P av σ
theorem handed_of {h : Heap} {av : AV} {v : Value} (r : HRel h av v) : handedIn v = true := by
  cases av <;> simp only [HRel] at r
  · subst r; rfl
  · subst r; rfl
  · obtain ⟨t, rfl⟩ := r; rfl
  · obtain ⟨t, rfl⟩ := r; rfl
  · obtain ⟨a, _, rfl, _⟩ := r; rfl
  · subst r; rfl
theorem St.inst (S : St g c lo σ X s) {x C d : Addr} {l : List (Str × AV)} (e1 : σ x = some (.inst C d)) (e2 : σ d = some (.attrs l)) : ∃ es n, W.InstAt s.heap x (instObj C d) C (some (dictOf es n)) ∧ AttrRel s.heap l es := by
  have q1 := (S.so _ _ e1).1
  obtain ⟨es, n, q2, r, _⟩ := (S.so _ _ e2).1
  exact ⟨es, n, ⟨q1, rfl, rfl, q2⟩, r⟩
theorem attrW_ok (O : c.Ok g) {ex : Bool} {a : AV} {n : Str} {P : AV → Store → Prop} (h : attrW g a n σ P) : AO1 g c (fun v => getAttr v n ex) a lo σ P := by
  intro X s v S ra
  obtain ⟨x, C, d, l, av, rfl, e1, e2, e3, ⟨a1, a2, attr, a3, a4⟩, q⟩ := h
  simp only [HRel] at ra
  subst ra
  obtain ⟨es, k, I, r⟩ := S.inst e1 e2
  obtain ⟨m, F, hm⟩ := S.fr
  have := r n
  rw [e3] at this
  obtain ⟨u, e4, e5⟩ := this
  exact get_own F O.X I a1 a2 a3 a4 e4 (handed_of e5) (ret_now S q e5)
noncomputable def MethIn (g : G) (C : Addr) (n : Str) (f : Addr) : Prop := plainGet g.K C n = true ∧ findIn g.K (.ref C) n = some (some (.ref f)) ∧ isFn g.K (.ref f) = true ∧ keepIn g.K (.ref f) = true
end
/-! text VC6 -/

noncomputable def noStar : List Expr → Bool
  | [] => true
  | .Starred .. :: _ => false
  | _ :: r => noStar r
theorem starEach_cons {e : Expr} {r : List Expr} (h : noStar (e :: r) = true) (env : Env) : starEach (e :: r) env = (false, eval e env) :: starEach r env := by
  cases e <;> first | rfl | cases h
theorem noStar_tail {e : Expr} {r : List Expr} (h : noStar (e :: r) = true) : noStar r = true := by
  cases e <;> first | exact h | cases h
theorem noStar_any (pos : Pos) (env : Env) : ∀ {r : List Expr}, noStar r = true → (backTo pos (starEach r env)).any (·.1) = false
  | [], _ => rfl
  | e :: r, h => by
    rw [starEach_cons h env]
    show (false || (backTo pos (starEach r env)).any (·.1)) = false
    rw [noStar_any pos env (noStar_tail h)]
    rfl

section
variable {g : G} {c : Cx} {lo : Locals} {σ : Store} {X : Led} {s s' : Shared}

/-! ### names -/
noncomputable def nameW (c : Cx) (x : Str) (lo : Locals) (σ : Store) (P : AV → Store → Prop) : Prop :=
  match lo x with
  | some av => P av σ
  | none => ∃ a av, c.cl.lookup x = some a ∧ (c.cs.names.lookup x = some .cell ∨ (c.cs.names.lookup x = some .free ∧ (x == ("__classdict__" : Str)) = false)) ∧ (x == ("__debug__" : Str)) = false ∧ σ a = some (.cell (some av)) ∧ P av σ
theorem nameW_load (O : c.Ok g) {x : Str} {P : AV → Store → Prop} (h : nameW c x lo σ P) (S : St g c lo σ X s) : (x == ("__debug__" : Str)) = false ∧ wpAny g.M c.A (loadName c.env x) (Ret g c lo X s P) NoE s := by
  unfold nameW at h
  split at h
  · rename_i av e
    obtain ⟨m, F, hm⟩ := S.fr
    obtain ⟨v, e1, r⟩ := hm x av e
    exact ⟨(S.loc x av e).2, wpAny_loadName_local O.hk (S.loc x av e).1 F.ns e1 (ret_same S h r)⟩
  · obtain ⟨a, av, e1, e2, e3, e4, p⟩ := h
    obtain ⟨o, v', q1, q2, x', q3, r⟩ := (S.so _ _ e4).1
    subst q3
    refine ⟨e3, ?_⟩
    rcases e2 with e2 | ⟨e2, e5⟩
    · exact wpAny_loadName_cell O.hk e2 e1 ⟨o, q1, q2⟩ (ret_same S p r)
    · exact wpAny_loadName_free O.hk e2 e1 ⟨o, q1, q2⟩ (ret_same S p r) e5
theorem nameW_ok (O : c.Ok g) {x : Str} {pos : Pos} {P : AV → Store → Prop} (h : nameW c x lo σ P) : AE g c (.Name x pos) lo σ P := by
  intro X s S
  obtain ⟨e, h⟩ := nameW_load O h S
  exact wpAny_Name h e
/-- the name may be bound here -/
noncomputable def okN (c : Cx) (x : Str) : Prop := c.cs.names.lookup x = some .local ∧ (x == ("__debug__" : Str)) = false
theorem store_ok (O : c.Ok g) {x : Str} {av : AV} {v : Value} (hx : okN c x) (S : St g c lo σ X s) (r : HRel s.heap av v) {Q : Unit → Shared → Prop} {E : Value → Shared → Prop}
    (k : ∀ s', St g c (lo.set x av) σ X s' → Ev s s' → Q () s') : wpAny g.M c.A (storeName c.env x v) Q E s := by
  obtain ⟨m, F, hm⟩ := S.fr
  refine wpAny_storeName_local hx.1 F.ns (fun h' hn hs => ?_) (by show (c.cs.kind == .class || (c.cs.kind == .module && c.L != mainGlobals)) = false; rw [O.hk]; rfl)
  obtain ⟨S', E'⟩ := S.bind (tk := s.toks + 1) F hm hx r hn hs
  exact k _ S' E'

/-! ### arguments -/
theorem AEs_nil {P : List AV → Store → Prop} (h : P [] σ) : AEs g c [] lo σ P := fun _ X s S => wpAny_items_nil ⟨[], σ, h, by simp only [HRels], S, .refl _⟩
theorem AEs_cons {e : Expr} {r : List Expr} {P : List AV → Store → Prop} (hs : noStar (e :: r) = true) (h : AE g c e lo σ fun a σ₁ => AEs g c r lo σ₁ fun as σ₂ => P (a :: as) σ₂) : AEs g c (e :: r) lo σ P := by
  intro pos X s S
  refine wpAny_items_cons (noE (h X s S) fun v s₁ q => ?_) (starEach_cons hs _)
  obtain ⟨a, σ₁, h₁, r₁, S₁, E₁⟩ := q
  refine noE (h₁ pos X s₁ S₁) fun vs s₂ q => ?_
  obtain ⟨as, σ₂, h₂, r₂, S₂, E₂⟩ := q
  refine ⟨a :: as, σ₂, h₂, ?_, S₂, E₁.trans E₂⟩
  simp only [HRels]
  exact ⟨v, vs, rfl, r₁.le E₂.tup, r₂⟩

/-! ### calls -/
theorem St.kin (O : c.Ok g) (S : St g c lo σ X s) : g.K.In s.heap := by
  obtain ⟨m, F, _⟩ := S.fr
  exact O.X.keeps F.keep
theorem call_first0 (O : c.Ok g) {pos : Pos} {f : Value} {first : List Value} {fa : List AV} {P : AV → Store → Prop} (hk : keepIn g.K f = true)
    (h : AOs g c (fun vs => call f vs) (fa ++ []) lo σ P) (S : St g c lo σ X s) (rf : HRels s.heap fa first) :
    wpAny g.M c.A (callWith pos f first (backTo pos (starEach [] c.env)) []) (Ret g c lo X s P) NoE s :=
  callWith_K0 (S.kin O) hk (h X s _ S (rf.append (by simp only [HRels])))
theorem call_first1 (O : c.Ok g) {pos : Pos} {f : Value} {first : List Value} {fa : List AV} {e : Expr} {r : List Expr} {P : AV → Store → Prop} (hs : noStar (e :: r) = true) (hk : keepIn g.K f = true)
    (h : AEs g c (e :: r) lo σ fun as σ₁ => AOs g c (fun vs => call f vs) (fa ++ as) lo σ₁ P) (S : St g c lo σ X s) (rf : HRels s.heap fa first) :
    wpAny g.M c.A (callWith pos f first (backTo pos (starEach (e :: r) c.env)) []) (Ret g c lo X s P) NoE s := by
  refine callWith_K (O.X) hk (noE (h pos X s S) fun vs s₁ q => ?_) (starEach_cons hs _) (noStar_any _ _ (noStar_tail hs))
  obtain ⟨as, σ₁, h₁, r₁, S₁, E₁⟩ := q
  exact ⟨S₁.kin O, noE (h₁ X s₁ _ S₁ ((rf.le E₁.tup).append r₁)) fun v s₂ q => q.after E₁⟩

/-- a call of a name of the module: a def, a class -/
theorem callN_ok (O : c.Ok g) {f : Str} {np pos : Pos} {args : List Expr} {P : AV → Store → Prop} (hs : noStar args = true) (hg : c.cs.names.lookup f = some .globalImplicit) (hd : (f == ("__debug__" : Str)) = false)
    {fa : Addr} (h1 : nsIn g.K mainGlobals f = some (some (.ref fa))) (h2 : keepIn g.K (.ref fa) = true)
    (h : match args with
      | [] => AOs g c (fun vs => call (.ref fa) vs) [] lo σ P
      | e :: r => AEs g c (e :: r) lo σ fun as σ₁ => AOs g c (fun vs => call (.ref fa) vs) as lo σ₁ P) :
    AE g c (.Call (.Name f np) args [] pos) lo σ P := by
  intro X s S
  obtain ⟨m, F, hm⟩ := S.fr
  refine Call_ (nameX_K F O.X (topRead_of O.T) h1 ?_ O.hk hg hd) rfl
  cases args with
  | nil => exact call_first0 (fa := []) O h2 h S (by simp only [HRels])
  | cons e r => exact call_first1 (fa := []) O hs h2 h S (by simp only [HRels])
theorem builtin_val {f : Str} (h : f ∈ bltNames) : ∃ v, bootBuiltins f = some v ∧ f ≠ "__name__" ∧ v = (if f = "list" then .type "list" else if f = "range" then .type "range" else if f = "len" then .builtin "len" else if f = "abs" then .builtin "abs" else if f = "max" then .builtin "max" else .builtin "min") := by
  simp only [bltNames, List.mem_cons, List.not_mem_nil, or_false] at h
  rcases h with rfl | rfl | rfl | rfl | rfl | rfl
  · exact ⟨_, PyProof.Rows.Boot.«len», by decide, by decide⟩
  · exact ⟨_, PyProof.Rows.Boot.«abs», by decide, by decide⟩
  · exact ⟨_, PyProof.Rows.Boot.«max», by decide, by decide⟩
  · exact ⟨_, PyProof.Rows.Boot.«min», by decide, by decide⟩
  · exact ⟨_, PyProof.Rows.Boot.«list», by decide, by decide⟩
  · exact ⟨_, PyProof.Rows.Boot.«range», by decide, by decide⟩
theorem callB_ok (O : c.Ok g) {f : Str} {np pos : Pos} {e : Expr} {r : List Expr} {P : AV → Store → Prop} (hs : noStar (e :: r) = true) (hg : c.cs.names.lookup f = some .globalImplicit) (hd : (f == ("__debug__" : Str)) = false)
    {id : String} (hv : bootBuiltins f = some (.builtin id)) (hn : f ≠ "__name__") (hb : nsIn g.K mainGlobals f = some none)
    (h : AEs g c (e :: r) lo σ fun as σ₁ => AOs g c (fun vs => call (.builtin id) vs) as lo σ₁ P) :
    AE g c (.Call (.Name f np) (e :: r) [] pos) lo σ P := by
  intro X s S
  obtain ⟨m, F, hm⟩ := S.fr
  refine Call_ (nameX_B F O.X (topRead_of O.T) hb hv hn ?_ O.hk hg hd) rfl
  refine PyProof.Rows.callWith_builtin1 (noE (h pos X s S) fun vs s₁ q => ?_) (starEach_cons hs _) (noStar_any _ _ (noStar_tail hs))
  obtain ⟨as, σ₁, h₁, r₁, S₁, E₁⟩ := q
  exact noE (h₁ X s₁ _ S₁ r₁) fun v s₂ q => q.after E₁
theorem callT_ok (O : c.Ok g) {f : Str} {np pos : Pos} {e : Expr} {r : List Expr} {P : AV → Store → Prop} (hs : noStar (e :: r) = true) (hg : c.cs.names.lookup f = some .globalImplicit) (hd : (f == ("__debug__" : Str)) = false)
    {T : String} (hv : bootBuiltins f = some (.type T)) (hn : f ≠ "__name__") (hb : nsIn g.K mainGlobals f = some none)
    (h : AEs g c (e :: r) lo σ fun as σ₁ => AOs g c (fun vs => call (.type T) vs) as lo σ₁ P) :
    AE g c (.Call (.Name f np) (e :: r) [] pos) lo σ P := by
  intro X s S
  obtain ⟨m, F, hm⟩ := S.fr
  refine Call_ (nameX_B F O.X (topRead_of O.T) hb hv hn ?_ O.hk hg hd) rfl
  refine PyProof.Rows.callWith_type1 (noE (h pos X s S) fun vs s₁ q => ?_) (starEach_cons hs _) (noStar_any _ _ (noStar_tail hs))
  obtain ⟨as, σ₁, h₁, r₁, S₁, E₁⟩ := q
  exact noE (h₁ X s₁ _ S₁ r₁) fun v s₂ q => q.after E₁
/-- what a call of a name of the module wants -/
noncomputable def callW (g : G) (c : Cx) (f : Str) (as : List AV) (σ : Store) (P : AV → Store → Prop) : Prop :=
  if f ∈ bltNames then bltW f as σ P else CallN g c.dp c.un f as σ P
theorem callW_ok (O : c.Ok g) {f : Str} {np pos : Pos} {args : List Expr} {P : AV → Store → Prop} (hs : noStar args = true) (hg : c.cs.names.lookup f = some .globalImplicit) (hd : (f == ("__debug__" : Str)) = false)
    (h2 : f ∉ bltNames → f ∈ defNames) (h0 : args = [] → callW g c f [] σ P) (h1 : args ≠ [] → AEs g c args lo σ fun as σ₁ => callW g c f as σ₁ P) :
    AE g c (.Call (.Name f np) args [] pos) lo σ P := by
  by_cases hb : f ∈ bltNames
  · cases args with
    | nil =>
      have := h0 rfl
      unfold callW bltW at this
      rw [if_pos hb] at this
      repeat' (split at this <;> try exact this.elim)
      all_goals (rename_i q; cases q)
    | cons e r =>
      have k : ∀ (F : List Value → Sem Value), (∀ as σ₁, bltW f as σ₁ P → AOs g c F as lo σ₁ P) → AEs g c (e :: r) lo σ fun as σ₁ => AOs g c F as lo σ₁ P := fun F hF pos X s S =>
        noE (h1 (by simp) pos X s S) fun vs s₁ ⟨as, σ₁, q1, q2⟩ => ⟨as, σ₁, hF as σ₁ (by unfold callW at q1; dsimp only at q1; rw [if_pos hb] at q1; exact q1), q2⟩
      have hn := O.blt f hb
      simp only [bltNames, List.mem_cons, List.not_mem_nil, or_false] at hb
      rcases hb with rfl | rfl | rfl | rfl | rfl | rfl
      · exact callB_ok O hs hg hd PyProof.Rows.Boot.«len» (by decide) hn (k _ fun as σ₁ q => bltW_len q)
      · exact callB_ok O hs hg hd PyProof.Rows.Boot.«abs» (by decide) hn (k _ fun as σ₁ q => bltW_abs q)
      · exact callB_ok O hs hg hd PyProof.Rows.Boot.«max» (by decide) hn (k _ fun as σ₁ q => bltW_max q)
      · exact callB_ok O hs hg hd PyProof.Rows.Boot.«min» (by decide) hn (k _ fun as σ₁ q => bltW_min q)
      · exact callT_ok O hs hg hd PyProof.Rows.Boot.«list» (by decide) hn (k _ fun as σ₁ q => bltW_list q)
      · refine callT_ok O hs hg hd PyProof.Rows.Boot.«range» (by decide) hn (k _ fun as σ₁ q => ?_)
        unfold bltW at q
        rw [if_neg (by decide), if_neg (by decide), if_neg (by decide), if_neg (by decide), if_neg (by decide)] at q
        exact q.elim
  · cases args with
    | nil =>
      have := h0 rfl
      unfold callW at this
      rw [if_neg hb] at this
      obtain ⟨b1, b2⟩ := O.fns f (h2 hb)
      exact callN_ok O hs hg hd b1 b2 (this c O rfl rfl lo)
    | cons e r =>
      obtain ⟨b1, b2⟩ := O.fns f (h2 hb)
      refine callN_ok O hs hg hd b1 b2 fun pos X s S => noE (h1 (by simp) pos X s S) fun vs s₁ q => ?_
      obtain ⟨as, σ₁, q1, q2⟩ := q
      unfold callW at q1
      rw [if_neg hb] at q1
      exact ⟨as, σ₁, q1 c O rfl rfl lo, q2⟩
end
/-! text VC7 -/

noncomputable def plainBase : Expr → Bool
  | .Name .. => true
  | .Attribute .. => true
  | _ => false
theorem form_ok {args : List Expr} {n : Nat} {pos : Pos} {env : Env} (hs : noStar args = true) (hn : n < 30) : methodCallForm n (backTo pos (starEach args env)) (backToKw pos (keywordEach [] env)) = true := by
  unfold methodCallForm
  have e : (backTo pos (starEach args env)).all (fun x => !x.1) = true := by
    have := noStar_any pos env hs
    rw [List.all_eq_not_any_not]
    simpa using this
  rw [e]
  simpa [keywordEach, backToKw] using hn

section
variable {g : G} {c : Cx} {lo : Locals} {σ : Store} {X : Led} {s s' : Shared}
theorem methodCall_X {M : Model} {A : Around} {E : Value → Shared → Prop} {env : Env} {o : Expr} {name : Str} {apos pos : Pos} {args : List Expr} {Q : Value → Shared → Prop}
    (hb : plainBase o = true) (hs : noStar args = true) (hn : args.length < 30) (hp : (apos.endLine == pos.line) = true)
    (h : ∀ pl, wpAny M A (eval o env) (fun ov s₁ => wpAny M A (getMethod ov name pl) (fun fx s₂ => wpAny M A (callWith pos fx.1 fx.2 (backTo pos (starEach args env)) []) Q E s₂) E s₁) E s) :
    wpAny M A (eval (.Call (.Attribute o name apos) args [] pos) env) Q E s := by
  have hf := form_ok (pos := pos) (env := env) hs (n := args.length + 0) hn
  have e0 : attributeBase o name env (eval o env) = eval o env := by
    cases o <;> first | rfl | cases hb
  have e1 : eval (.Call (.Attribute o name apos) args [] pos) env = (do
      let ov ← attributeBase o name env (eval o env)
      standAt apos.atName
      methodCall o name apos pos env ov (args.length + 0) (backTo pos (starEach args env)) (backToKw pos (keywordEach [] env))) := rfl
  rw [e1, e0]
  refine wpAny_bind (wpAny_mono (h (do return (← importBound o env).getD true)) (fun ov s₁ h₁ => wpAny_bind (wpAny_standAt ?_)) fun _ _ x => x)
  unfold methodCall
  rw [hf]
  refine wpAny_bind (wpAny_holding ?_)
  unfold calleeOf
  refine wpAny_mono h₁ (fun fx s₂ h₂ => ?_) fun _ _ x => x
  unfold methodCallPos
  rw [hp]
  exact wpAny_bind (wpAny_pure h₂)

/-! ### subscripts, attributes -/
theorem Subscript_ok {value slice : Expr} {pos : Pos} {P : AV → Store → Prop} (hs : notSlice slice = true)
    (h : AE g c value lo σ fun a σ₁ => AE g c slice lo σ₁ fun b σ₂ => itemW a b σ₂ P) : AE g c (.Subscript value slice pos) lo σ P := by
  intro X s S
  refine Subscript_ (noE (h X s S) fun o s₁ q => ?_)
  obtain ⟨a, σ₁, h₁, r₁, S₁, E₁⟩ := q
  refine noE (h₁ X s₁ S₁) fun i s₂ q => ?_
  obtain ⟨b, σ₂, h₂, r₂, S₂, E₂⟩ := q
  exact noE (itemW_ok hs h₂ X s₂ o i S₂ (r₁.le E₂.tup) r₂) fun v s₃ q => q.after (E₁.trans E₂)
theorem Attribute_ok (O : c.Ok g) {value : Expr} {n : Str} {pos : Pos} {P : AV → Store → Prop} (hb : plainBase value = true) (h : AE g c value lo σ fun a σ₁ => attrW g a n σ₁ P) : AE g c (.Attribute value n pos) lo σ P := by
  intro X s S
  refine Attribute_any_ (noE (h X s S) fun o s₁ q => ?_) (by cases value <;> first | rfl | cases hb)
  obtain ⟨a, σ₁, h₁, r₁, S₁, E₁⟩ := q
  exact noE (attrW_ok O h₁ X s₁ o S₁ r₁) fun v s₃ q => q.after E₁

noncomputable def uptoW (g : G) (a b : AV) (σ : Store) (P : AV → Store → Prop) : Prop :=
  match b with
  | .int k => 0 ≤ k ∧ ∃ l, listAt g σ a l ∧ l.length ≤ sizeLine ∧ ∀ d, σ d = none → P (.ref d) (σ.set d (.list (l.take k.toNat)))
  | _ => False
noncomputable def fromW (g : G) (a b : AV) (σ : Store) (P : AV → Store → Prop) : Prop :=
  match b with
  | .int k => 0 ≤ k ∧ ∃ l, listAt g σ a l ∧ l.length ≤ sizeLine ∧ ∀ d, σ d = none → P (.ref d) (σ.set d (.list (l.drop k.toNat)))
  | _ => False
theorem slice_sub (lo hi : Option Expr) (pos : Pos) (o i : Value) : subscripted (.Slice lo hi none pos) false o i = operate [i, o] (getItem o i) := rfl
theorem eval_slice (lo hi : Option Expr) (pos : Pos) (env : Env) : eval (.Slice lo hi none pos) env = (do
    let l ← valueOrNone (evalOpt lo env)
    let u ← holding [l] (valueOrNone (evalOpt hi env))
    let s ← holding [l, u] (valueOrNone (evalOpt none env))
    newFields "slice" [l, u, s]) := rfl
theorem upto_ok (O : c.Ok g) {value hi : Expr} {pos spos : Pos} {P : AV → Store → Prop}
    (h : AE g c value lo σ fun a σ₁ => AE g c hi lo σ₁ fun b σ₂ => uptoW g a b σ₂ P) : AE g c (.Subscript value (.Slice none (some hi) none spos) pos) lo σ P := by
  intro X s S
  refine Subscript_ (noE (h X s S) fun o s₁ q => ?_)
  obtain ⟨a, σ₁, h₁, r₁, S₁, E₁⟩ := q
  rw [eval_slice]
  refine wpAny_bind (wpAny_pure (wpAny_bind (wpAny_holding (noE (h₁ X s₁ S₁) fun i s₂ q => wpAny_bind (wpAny_holding (wpAny_pure ?_))))))
  obtain ⟨b, σ₂, h₂, r₂, S₂, E₂⟩ := q
  unfold uptoW at h₂
  split at h₂
  · rename_i k
    obtain ⟨h0, l, hl, hsz, kk⟩ := h₂
    simp only [HRel] at r₂
    obtain ⟨t, rfl⟩ := r₂
    obtain ⟨p, vs, rfl, hli, rl⟩ := listAt_ok O S₂ hl
    simp only [HRel] at r₁
    subst r₁
    refine wpAny_newObj_type ?_ (by show (3 : Nat) ≤ sizeLine + 2; decide)
    exact noE (slice_A S₂ hli rl (vl := .none) (vu := .int k t) .none (.int k t) (pick_upto rl h0) (rl.take k.toNat) hsz kk (slice_sub _ _ _)) fun v s₃ q => q.after (E₁.trans E₂)
  · exact h₂.elim
theorem from_ok (O : c.Ok g) {value hi : Expr} {pos spos : Pos} {P : AV → Store → Prop}
    (h : AE g c value lo σ fun a σ₁ => AE g c hi lo σ₁ fun b σ₂ => fromW g a b σ₂ P) : AE g c (.Subscript value (.Slice (some hi) none none spos) pos) lo σ P := by
  intro X s S
  refine Subscript_ (noE (h X s S) fun o s₁ q => ?_)
  obtain ⟨a, σ₁, h₁, r₁, S₁, E₁⟩ := q
  rw [eval_slice]
  refine wpAny_bind (noE (h₁ X s₁ S₁) fun i s₂ q => wpAny_bind (wpAny_holding (wpAny_pure (wpAny_bind (wpAny_holding (wpAny_pure ?_))))))
  obtain ⟨b, σ₂, h₂, r₂, S₂, E₂⟩ := q
  unfold fromW at h₂
  split at h₂
  · rename_i k
    obtain ⟨h0, l, hl, hsz, kk⟩ := h₂
    simp only [HRel] at r₂
    obtain ⟨t, rfl⟩ := r₂
    obtain ⟨p, vs, rfl, hli, rl⟩ := listAt_ok O S₂ hl
    simp only [HRel] at r₁
    subst r₁
    refine wpAny_newObj_type ?_ (by show (3 : Nat) ≤ sizeLine + 2; decide)
    exact noE (slice_A S₂ hli rl (vl := .int k t) (vu := .none) (.int k t) .none (pick_from rl h0) (rl.drop k.toNat) hsz kk (slice_sub _ _ _)) fun v s₃ q => q.after (E₁.trans E₂)
  · exact h₂.elim
end
/-! text VC8 -/

section
variable {g : G} {c : Cx} {lo : Locals} {σ : Store} {X : Led} {s s' : Shared}

/-! ### targets -/
noncomputable def namesOf : List Expr → Option (List Str)
  | [] => some []
  | .Name x _ :: r => (namesOf r).map (x :: ·)
  | _ :: _ => none
noncomputable def assignNames : List Str → List AV → Locals → (Locals → Prop) → Prop
  | [], [], lo, k => k lo
  | x :: xs, v :: vs, lo, k => assignNames xs vs (lo.set x v) k
  | _, _, _, _ => False
noncomputable def assignW (t : Expr) (v : AV) (lo : Locals) (k : Locals → Prop) : Prop :=
  match t with
  | .Name x _ => k (lo.set x v)
  | .Tuple ts _ _ => ∃ xs l, namesOf ts = some xs ∧ v = .tup l ∧ xs.length = l.length ∧ assignNames xs l lo k
  | _ => False
noncomputable def okNb (ns : List (Str × NameKind)) (x : Str) : Bool := ns.lookup x == some .local && !(x == ("__debug__" : Str))
theorem okN.of {x : Str} (h : okNb c.cs.names x = true) : okN c x := by
  unfold okNb at h
  simp only [Bool.and_eq_true, Bool.not_eq_true', beq_iff_eq] at h
  exact h
noncomputable def chkT (ns : List (Str × NameKind)) (t : Expr) : Bool :=
  match t with
  | .Name x _ => okNb ns x
  | .Tuple ts _ _ => (namesOf ts).any fun xs => xs.all (okNb ns)
  | _ => false
theorem no_some {α : Type} {x : α} {p : Prop} (h : (none : Option α) = some x) : p := by cases h
theorem assignEach_names (env : Env) (ts : List Expr) : ∀ {xs : List Str}, namesOf ts = some xs → (assignEach ts env).map (·.2) = ts.map (fun t => assign t env) ∧ (assignEach ts env).findIdx? (·.1) = none ∧ (assignEach ts env).length = xs.length := by
  induction ts with
  | nil => intro xs h; cases h; exact ⟨rfl, rfl, rfl⟩
  | cons t r ih =>
    intro xs h
    cases t with
    | Name x p =>
      have h : (namesOf r).map (x :: ·) = some xs := h
      obtain ⟨ys, hr, rfl⟩ := Option.map_eq_some_iff.mp h
      obtain ⟨a, b, d⟩ := ih hr
      have e : assignEach (.Name x p :: r) env = (false, assign (.Name x p) env) :: assignEach r env := rfl
      rw [e]
      refine ⟨by rw [List.map_cons, a]; rfl, ?_, by rw [List.length_cons, d]; rfl⟩
      rw [List.findIdx?_cons]
      simp [b]
    | _ => exact no_some (show (none : Option (List Str)) = some xs from h)
theorem assignInOrder_cons {M : Model} {A : Around} {E : Value → Shared → Prop} {t : Value → Sem Unit} {ts : List (Value → Sem Unit)} {x : Value} {xs : List Value} {Q : Unit → Shared → Prop}
    (h : wpAny M A (t x) (fun _ s₁ => wpAny M A (assignInOrder ts xs) Q E s₁) E s) : wpAny M A (assignInOrder (t :: ts) (x :: xs)) Q E s :=
  wpAny_bind (wpAny_holding h)
theorem assignNames_ok (O : c.Ok g) (ts : List Expr) : ∀ (xs : List Str) (l : List AV) (vs : List Value) (lo : Locals) (k : Locals → Prop) (s : Shared), namesOf ts = some xs → (∀ x ∈ xs, okN c x) → assignNames xs l lo k → HRels s.heap l vs → St g c lo σ X s →
    wpAny g.M c.A (assignInOrder (ts.map fun t => assign t c.env) vs) (fun _ s' => ∃ lo', k lo' ∧ St g c lo' σ X s' ∧ Ev s s') NoE s := by
  induction ts with
  | nil =>
    intro xs l vs lo k s h hok q r S
    cases h
    cases l with
    | cons _ _ => exact q.elim
    | nil =>
      simp only [HRels] at r; subst r
      exact wpAny_pure ⟨lo, q, S, .refl _⟩
  | cons t ts ih =>
    intro xs l vs lo k s h hok q r S
    cases t with
    | Name x p =>
      have h : (namesOf ts).map (x :: ·) = some xs := h
      obtain ⟨ys, hr, rfl⟩ := Option.map_eq_some_iff.mp h
      cases l with
      | nil => exact q.elim
      | cons a l =>
        have hx := hok x (.head _)
        simp only [HRels] at r
        obtain ⟨v, ws, rfl, r1, r2⟩ := r
        rw [List.map_cons]
        refine assignInOrder_cons (PyProof.Rows.assign_Name (store_ok O hx S r1 fun s₁ S₁ E₁ => ?_))
        refine noE (ih ys l ws _ k s₁ hr (fun y hy => hok y (.tail _ hy)) q (r2.le E₁.tup) S₁) fun _ s₂ z => ?_
        obtain ⟨lo', z1, z2, z3⟩ := z
        exact ⟨lo', z1, z2, E₁.trans z3⟩
    | _ => exact no_some (show (none : Option (List Str)) = some xs from h)
theorem assignW_ok (O : c.Ok g) {t : Expr} {v : AV} {x : Value} {k : Locals → Prop} (hc : chkT c.cs.names t = true) (h : assignW t v lo k) (S : St g c lo σ X s) (r : HRel s.heap v x) :
    wpAny g.M c.A (assign t c.env x) (fun _ s' => ∃ lo', k lo' ∧ St g c lo' σ X s' ∧ Ev s s') NoE s := by
  unfold assignW at h
  split at h
  · exact PyProof.Rows.assign_Name (store_ok O (okN.of hc) S r fun s₁ S₁ E₁ => ⟨_, h, S₁, E₁⟩)
  · rename_i ts k' pos
    obtain ⟨xs, l, hn, rfl, hlen, q⟩ := h
    simp only [HRel] at r
    obtain ⟨a, vs, rfl, e1, r⟩ := r
    obtain ⟨a1, a2, a3⟩ := assignEach_names c.env ts hn
    have hok : ∀ x ∈ xs, okN c x := fun x hx => okN.of (by
      simp only [chkT, hn, Option.any_some, List.all_eq_true] at hc
      exact hc x hx)
    show wpAny g.M c.A (do standAt pos; unpack (.ref a) (assignEach ts c.env)) _ _ s
    refine wpAny_bind (wpAny_standAt ?_)
    unfold unpack
    rw [a1, a2, a3, hlen, ← r.length, ← List.size_toArray]
    refine wpAny_bind (wpAny_holding (unpackItems_tuple rfl ⟨_, e1, rfl, 0, rfl⟩ fun h' he => ?_))
    obtain ⟨S', E⟩ := S.keep (h' := h') (tk := s.toks) fun b o q => he b o (Nat.ne_of_lt (Heap.lt_size q)) q
    refine noE (assignNames_ok O ts xs l vs lo k _ hn hok q (r.le E.tup) S') fun _ s₂ z => ?_
    obtain ⟨lo', z1, z2, z3⟩ := z
    exact ⟨lo', z1, z2, E.trans z3⟩
  · exact h.elim

/-! ### iterators -/
/-- an object of the frame-off part is changed -/
theorem St.updX {it : Addr} {o o' : Obj} {h' : Heap} {tk : Nat} (S : St g c lo σ ((it, o) :: X) s) (hX : ∀ q ∈ X, q.1 ≠ it) (hno : ∀ vs, o ≠ tupO vs) (hs : Heap.SameBut it s.heap h') (e : h'.get? it = some o') :
    St g c lo σ ((it, o') :: X) { s with heap := h', toks := tk } ∧ Ev s { s with heap := h', toks := tk } := by
  obtain ⟨e1, e2, e3, e4⟩ := S.xs _ (.head _)
  have kt : TupLe s.heap h' := fun b vs q => by
    by_cases hb : b = it
    · subst hb
      rw [e1] at q
      exact absurd (Option.some.inj q) (hno vs)
    · exact (hs.2 b hb).trans q
  obtain ⟨m, F, hm⟩ := S.fr
  refine ⟨⟨⟨m, F.change hs e2 e3, fun x av e => let ⟨v, e1, e2⟩ := hm x av e; ⟨v, e1, e2.le kt⟩⟩, S.loc, fun b mo q => ?_, fun q hq => ?_⟩, rfl, rfl, rfl, kt⟩
  · obtain ⟨q1, q2⟩ := S.so b mo q
    have hb : b ≠ it := by rintro rfl; rw [e4] at q; cases q
    exact ⟨q1.keep kt fun o q => (hs.2 b hb).trans q, q2⟩
  · rcases List.mem_cons.mp hq with rfl | hq
    · exact ⟨e, e2, e3, e4⟩
    · obtain ⟨q1, q2⟩ := S.xs q (.tail _ hq)
      exact ⟨(hs.2 _ (hX q hq)).trans q1, q2⟩
theorem St.dropX {it : Addr} {o : Obj} {h' : Heap} {tk : Nat} (S : St g c lo σ ((it, o) :: X) s) (hX : ∀ q ∈ X, q.1 ≠ it) (hno : ∀ vs, o ≠ tupO vs) (hs : Heap.ExtBut it s.heap h') :
    St g c lo σ X { s with heap := h', toks := tk } ∧ Ev s { s with heap := h', toks := tk } := by
  obtain ⟨e1, e2, e3, e4⟩ := S.xs _ (.head _)
  have kt : TupLe s.heap h' := fun b vs q => by
    by_cases hb : b = it
    · subst hb
      rw [e1] at q
      exact absurd (Option.some.inj q) (hno vs)
    · exact hs b _ hb q
  obtain ⟨m, F, hm⟩ := S.fr
  have F' : Fr c.h₀ c.L h' m := by
    obtain ⟨oL, es, ep, hL, r⟩ := F.ns
    exact ⟨⟨oL, es, ep, hs _ _ (Ne.symm e2) hL, r⟩, fun b o q => hs b o (fun z => by subst z; rw [e3] at q; cases q) (F.keep b o q), F.above⟩
  refine ⟨⟨⟨m, F', fun x av e => let ⟨v, e1, e2⟩ := hm x av e; ⟨v, e1, e2.le kt⟩⟩, S.loc, fun b mo q => ?_, fun q hq => ?_⟩, rfl, rfl, rfl, kt⟩
  · obtain ⟨q1, q2⟩ := S.so b mo q
    have hb : b ≠ it := by rintro rfl; rw [e4] at q; cases q
    exact ⟨q1.keep kt fun o q => hs b o hb q, q2⟩
  · obtain ⟨q1, q2⟩ := S.xs q (.tail _ hq)
    exact ⟨hs _ _ (hX q hq) q1, q2⟩
/-- a new object joins the frame-off part -/
theorem St.pushX {o : Obj} {tk : Nat} (S : St g c lo σ X s) (hf : o.isFreed = false) : St g c lo σ ((s.heap.objs.size, o) :: X) { s with heap := s.heap.push o, toks := tk } ∧ Ev s { s with heap := s.heap.push o, toks := tk } ∧ ∀ q ∈ X, q.1 ≠ s.heap.objs.size := by
  obtain ⟨S', E⟩ := S.keep (h' := s.heap.push o) (tk := tk) fun _ _ e => Heap.get?_push_of_some _ e
  obtain ⟨f1, f2, f3⟩ := S.free (get_size _)
  refine ⟨⟨S'.fr, S'.loc, S'.so, fun q hq => ?_⟩, E, fun q hq => Nat.ne_of_lt (Heap.lt_size (S.xs q hq).1)⟩
  rcases List.mem_cons.mp hq with rfl | hq
  · exact ⟨Heap.get?_push_size _ hf, f2, f3, f1⟩
  · exact S'.xs q hq

structure Walk (g : G) (c : Cx) (h₁ : Heap) (it : Addr) (items : List AV) (guard : Store → Prop) (I : Nat → Obj → Prop) : Prop where
  tup : ∀ i o, I i o → ∀ vs, o ≠ tupO vs
  go : ∀ i o (t : Expr) (v : Value) (s : Shared) (Q : Unit → Shared → Prop) (E : Value → Shared → Prop), I i o → s.heap.get? it = some o → Q () s → wpAny g.M c.A (letOwnedTupleGo t (.ref it) v) Q E s
  next : ∀ i o lo σ X (s : Shared) x, TupLe h₁ s.heap → I i o → items[i]? = some x → guard σ → St g c lo σ ((it, o) :: X) s → (∀ q ∈ X, q.1 ≠ it) →
    wpAny g.M c.A (pyNext (.ref it)) (fun r s' => ∃ v o', r = some v ∧ HRel s'.heap x v ∧ I (i + 1) o' ∧ St g c lo σ ((it, o') :: X) s' ∧ Ev s s') NoE s
  done : ∀ i o lo σ X (s : Shared), TupLe h₁ s.heap → I i o → items[i]? = none → guard σ → St g c lo σ ((it, o) :: X) s → (∀ q ∈ X, q.1 ≠ it) →
    wpAny g.M c.A (pyNext (.ref it)) (fun r s' => r = none ∧ St g c lo σ X s' ∧ Ev s s') NoE s

theorem go_plain {M : Model} {A : Around} {E : Value → Shared → Prop} {n : String} {vs : Array Value} {it : Addr} {o : Obj} {t : Expr} {v : Value} {Q : Unit → Shared → Prop} (e : s.heap.get? it = some o) (hc : o.cls = .type n) (hd : o.data = .fields vs)
    (hn : (["enumerate", "zip", "dict_itemiterator", "dict_reverseitemiterator", "odict_iterator", "itertools.zip_longest", "itertools.pairwise"].contains n) = false) (h : Q () s) :
    wpAny M A (letOwnedTupleGo t (.ref it) v) Q E s := by
  unfold letOwnedTupleGo
  cases t <;> first
    | exact wpAny_pure h
    | (cases v <;> first
        | exact wpAny_pure h
        | (refine wpAny_bind (wpAny_load e ?_)
           rw [hc, hd]
           dsimp only
           rw [hn]
           exact wpAny_pure h))

theorem listIter_obj {h : Heap} {a l : Addr} {i : Nat} (e : h.IsListIter a l i) : ∃ o, h.get? a = some o ∧ o.cls = .type "list_iterator" ∧ o.data = .fields #[.ref l, .int i 0] := e
/-- over a list of the store, or one that stands for good -/
theorem walk_list {h₁ : Heap} {p it : Addr} {l : List AV} (O : c.Ok g) : Walk g c h₁ it l (fun σ => listAt g σ (.ref p) l) (fun i o => o.cls = .type "list_iterator" ∧ o.data = .fields #[.ref p, .int i 0]) where
  tup := fun i o h vs e => by subst e; exact absurd h.1 (by simp)
  go := fun i o t v s Q E h e hq => go_plain e h.1 h.2 (by decide) hq
  next := by
    intro i o lo σ X s x _ h e hg S hX
    obtain ⟨p', vs, hp, hl, r⟩ := listAt_ok O S hg
    cases hp
    obtain ⟨v, hv, rv⟩ := r.get e
    obtain ⟨e1, _⟩ := S.xs _ (.head _)
    refine wpAny_pyNext_list_item ⟨o, e1, h.1, h.2⟩ hl (by simpa using hv) fun h' hit hs => ?_
    obtain ⟨o', q1, q2, q3⟩ := hit
    obtain ⟨S', E⟩ := S.updX (tk := s.toks) hX (fun vs e => by subst e; exact absurd h.1 (by simp)) hs q1
    exact ⟨v, o', rfl, rv.le E.tup, ⟨q2, q3⟩, S', E⟩
  done := by
    intro i o lo σ X s _ h e hg S hX
    obtain ⟨p', vs, hp, hl, r⟩ := listAt_ok O S hg
    cases hp
    obtain ⟨e1, _⟩ := S.xs _ (.head _)
    have hv : vs.toArray[i]? = none := by
      have := r.length
      simp only [List.getElem?_toArray, List.getElem?_eq_none_iff] at e ⊢
      (first | lia | omega)
    refine wpAny_pyNext_list_end rfl ⟨o, e1, h.1, h.2⟩ hl hv fun h' hs => ?_
    obtain ⟨S', E⟩ := S.dropX (tk := s.toks) hX (fun vs e => by subst e; exact absurd h.1 (by simp)) hs
    exact ⟨rfl, S', E⟩
/-- over a tuple -/
theorem walk_tup {it t : Addr} {l : List AV} {vs : List Value} {h₁ : Heap} (ht : h₁.get? t = some (tupO vs)) (r : HRels h₁ l vs) :
    Walk g c h₁ it l (fun _ => True) (fun i o => o.cls = .type "tuple_iterator" ∧ o.data = .fields #[.ref t, .int i 0]) where
  tup := fun i o h vs e => by subst e; exact absurd h.1 (by simp)
  go := fun i o t v s Q E h e hq => go_plain e h.1 h.2 (by decide) hq
  next := by
    intro i o lo σ X s x k h e _ S hX
    obtain ⟨v, hv, rv⟩ := r.get e
    obtain ⟨e1, _⟩ := S.xs _ (.head _)
    refine wpAny_pyNext_tuple_item ⟨o, e1, h.1, h.2⟩ ⟨_, k _ _ ht, rfl, 0, rfl⟩ (by simpa using hv) fun h' hit hs => ?_
    obtain ⟨o', q1, q2, q3⟩ := hit
    obtain ⟨S', E⟩ := S.updX (tk := s.toks) hX (fun vs e => by subst e; exact absurd h.1 (by simp)) hs q1
    exact ⟨v, o', rfl, (rv.le k).le E.tup, ⟨q2, q3⟩, S', E⟩
  done := by
    intro i o lo σ X s k h e _ S hX
    obtain ⟨e1, _⟩ := S.xs _ (.head _)
    have hv : vs.toArray[i]? = none := by
      have := r.length
      simp only [List.getElem?_toArray, List.getElem?_eq_none_iff] at e ⊢
      (first | lia | omega)
    refine wpAny_pyNext_tuple_end rfl ⟨o, e1, h.1, h.2⟩ ⟨_, k _ _ ht, rfl, 0, rfl⟩ hv fun h' hs => ?_
    obtain ⟨S', E⟩ := S.dropX (tk := s.toks) hX (fun vs e => by subst e; exact absurd h.1 (by simp)) hs
    exact ⟨rfl, S', E⟩
noncomputable def rangeL (n : Int) : List AV := (List.range n.toNat).map fun i => AV.int (i : Nat)
theorem rangeL_get {n : Int} {i : Nat} : (rangeL n)[i]? = if (i : Int) < n then some (.int i) else none := by
  unfold rangeL
  rw [List.getElem?_map]
  by_cases h : (i : Int) < n
  · rw [if_pos h, List.getElem?_range (by (first | lia | omega))]; rfl
  · rw [if_neg h, List.getElem?_eq_none (by rw [List.length_range]; (first | lia | omega))]; rfl
/-- over a range -/
theorem walk_range {it : Addr} {n : Int} {h₁ : Heap} :
    Walk g c h₁ it (rangeL n) (fun _ => True) (fun i o => o = { cls := .type "range_iterator", dict := none, data := .fields #[rawInt i, rawInt ((if 0 < n then n else 0) - i), rawInt 1], slots := #[] } ∧ (i : Int) ≤ (if 0 < n then n else 0)) where
  tup := fun i o h vs e => by rw [h.1] at e; have := congrArg Obj.cls e; simp at this
  go := fun i o t v s Q E h e hq => by obtain ⟨rfl, _⟩ := h; exact go_plain e rfl rfl (by decide) hq
  next := by
    intro i o lo σ X s x k h e _ S hX
    obtain ⟨rfl, hi⟩ := h
    rw [rangeL_get] at e
    split at e <;> cases e
    rename_i hlt
    obtain ⟨e1, _⟩ := S.xs _ (.head _)
    have hn : 0 < n := by (first | lia | omega)
    rw [if_pos hn] at e1 hi ⊢
    refine wpAny_pyNext_range_item e1 (by (first | lia | omega)) fun h' hit hs => ?_
    obtain ⟨S', E⟩ := S.updX (tk := s.toks + 1) hX (fun vs e => by have := congrArg Obj.cls e; simp at this) hs hit
    refine ⟨_, _, rfl, hint, ⟨?_, by (first | lia | omega)⟩, S', E⟩
    have a1 : (i : Int) + 1 = ((i + 1 : Nat) : Int) := by (first | lia | omega)
    have a2 : n - (i : Int) - 1 = n - ((i + 1 : Nat) : Int) := by (first | lia | omega)
    rw [a1, a2]
  done := by
    intro i o lo σ X s k h e _ S hX
    obtain ⟨rfl, hi⟩ := h
    rw [rangeL_get] at e
    split at e <;> cases e
    obtain ⟨e1, _⟩ := S.xs _ (.head _)
    refine wpAny_pyNext_range_end rfl e1 (by split <;> (first | lia | omega)) fun h' hs => ?_
    obtain ⟨S', E⟩ := S.dropX (tk := s.toks) hX (fun vs e => by have := congrArg Obj.cls e; simp at this) hs
    exact ⟨rfl, S', E⟩

/-! ### the for loop -/
noncomputable def forW (asg : AV → Locals → (Locals → Prop) → Prop) (body : Locals → Store → (AF → Locals → Store → Prop) → Prop) (guard : Store → Prop) : List AV → Locals → Store → (AF → Locals → Store → Prop) → Prop
  | [], lo, σ, P => guard σ ∧ P .next lo σ
  | v :: r, lo, σ, P => guard σ ∧ asg v lo fun lo₁ => body lo₁ σ fun f lo₂ σ₂ => match f with
    | .next => forW asg body guard r lo₂ σ₂ P
    | .cont => forW asg body guard r lo₂ σ₂ P
    | .brk => P .next lo₂ σ₂
    | .ret x => P (.ret x) lo₂ σ₂

theorem drop_get {α : Type} {l : List α} {k : Nat} {x : α} {r : List α} (h : l.drop k = x :: r) : l[k]? = some x ∧ l.drop (k + 1) = r := by
  have e : (l.drop k)[0]? = some x := by rw [h]; rfl
  rw [List.getElem?_drop] at e
  refine ⟨by simpa using e, ?_⟩
  have : (l.drop k).drop 1 = r := by rw [h]; rfl
  rw [List.drop_drop] at this
  rw [← this]
theorem forLoop_ok (O : c.Ok g) {it : Addr} {items : List AV} {guard : Store → Prop} {I : Nat → Obj → Prop} {t : Expr} {body : List Stmt} {bw : Locals → Store → (AF → Locals → Store → Prop) → Prop} {s₀ : Shared} {P : AF → Locals → Store → Prop} {o : Obj}
    (W : Walk g c s₀.heap it items guard I) (hc : chkT c.cs.names t = true) (hb : ∀ lo σ Q, bw lo σ Q → AXs g c body lo σ Q) (hX : ∀ q ∈ X, q.1 ≠ it)
    (h : forW (assignW t) bw guard items lo σ P) (hi : I 0 o) (S : St g c lo σ ((it, o) :: X) s) (E₀ : Ev s₀ s) {R : Result → Shared → Prop}
    (done : ∀ f s', RetF g c X s₀ P f s' → R (.ok f) s') :
    codeAny g.M c.A (.forLoop t (.ref it) body [] c.env) R s := by
  refine codeAny_forLoop_any (fun n s => ∃ k o lo σ, n = items.length + 1 - k ∧ I k o ∧ forW (assignW t) bw guard (items.drop k) lo σ P ∧ St g c lo σ ((it, o) :: X) s ∧ Ev s₀ s) ?_ (items.length + 1) ⟨0, o, lo, σ, rfl, hi, h, S, E₀⟩
  rintro n s ⟨k, o, lo, σ, rfl, hi, h, S, E₀⟩
  cases hd : items.drop k with
  | nil =>
    rw [hd] at h
    have hk : items[k]? = none := by
      rw [List.getElem?_eq_none_iff]
      have := congrArg List.length hd
      rw [List.length_drop] at this
      simp only [List.length_nil] at this
      (first | lia | omega)
    refine noE (W.done k o lo σ X s E₀.tup hi hk h.1 S hX) fun r s₁ q => ?_
    obtain ⟨rfl, S₁, E₁⟩ := q
    exact wpAny_execs_nil (done _ _ ⟨.next, lo, σ, h.2, rfl, S₁, E₀.trans E₁⟩)
  | cons x r =>
    rw [hd] at h
    obtain ⟨hk, hr⟩ := drop_get hd
    refine noE (W.next k o lo σ X s x E₀.tup hi hk h.1 S hX) fun rr s₁ q => ?_
    obtain ⟨v, o', rfl, rv, hi', S₁, E₁⟩ := q
    refine W.go _ _ _ _ _ _ _ hi' (S₁.xs _ (.head _)).1 ?_
    refine noE (assignW_ok O hc h.2 S₁ rv) fun _ s₂ q => ?_
    obtain ⟨lo₂, h₂, S₂, E₂⟩ := q
    refine noE (hb _ _ _ h₂ _ s₂ S₂) fun f s₃ q => ?_
    obtain ⟨af, lo₃, σ₃, h₃, rf, S₃, E₃⟩ := q
    have Ef := E₀.trans (E₁.trans (E₂.trans E₃))
    have hlt : k < items.length := (List.getElem?_eq_some_iff.mp hk).1
    have hd' : ∀ {o'' : Obj}, (it, o'') ∈ ((it, o') :: X) → True := fun _ => trivial
    cases af with
    | next =>
      cases rf
      exact ⟨items.length + 1 - (k + 1), by (first | lia | omega), k + 1, o', lo₃, σ₃, rfl, hi', by rw [hr]; exact h₃, S₃, Ef⟩
    | cont =>
      cases rf
      exact ⟨items.length + 1 - (k + 1), by (first | lia | omega), k + 1, o', lo₃, σ₃, rfl, hi', by rw [hr]; exact h₃, S₃, Ef⟩
    | brk =>
      cases rf
      refine done _ _ ⟨.next, lo₃, σ₃, h₃, rfl, ⟨S₃.fr, S₃.loc, S₃.so, fun q hq => S₃.xs q (.tail _ hq)⟩, Ef⟩
    | ret x =>
      obtain ⟨y, rfl, ry⟩ := rf
      exact done _ _ ⟨.ret x, lo₃, σ₃, h₃, ⟨y, rfl, ry⟩, ⟨S₃.fr, S₃.loc, S₃.so, fun q hq => S₃.xs q (.tail _ hq)⟩, Ef⟩

/-! ### the while loop -/
noncomputable def whileW (test : Locals → Store → (Bool → Store → Prop) → Prop) (body : Locals → Store → (AF → Locals → Store → Prop) → Prop) : Nat → Locals → Store → (AF → Locals → Store → Prop) → Prop
  | 0, _, _, _ => False
  | n + 1, lo, σ, P => test lo σ fun b σ₁ => if b = true then body lo σ₁ fun f lo₂ σ₂ => match f with
      | .next => whileW test body n lo₂ σ₂ P
      | .cont => whileW test body n lo₂ σ₂ P
      | .brk => P .next lo₂ σ₂
      | .ret x => P (.ret x) lo₂ σ₂
    else P .next lo σ₁
theorem while_ok {test : Expr} {body : List Stmt} {tw : Locals → Store → (Bool → Store → Prop) → Prop} {bw : Locals → Store → (AF → Locals → Store → Prop) → Prop} {pos : Pos} {P : AF → Locals → Store → Prop} {n : Nat}
    (ht : ∀ lo σ Q, tw lo σ Q → AT g c test lo σ Q) (hb : ∀ lo σ Q, bw lo σ Q → AXs g c body lo σ Q) (h : whileW tw bw n lo σ P) : AX g c (.While test body [] pos) lo σ P := by
  intro X s₀ S
  refine wpAny_While (codeAny_whileLoop (fun n s => ∃ lo σ, whileW tw bw n lo σ P ∧ St g c lo σ X s ∧ Ev s₀ s) ?_ n ⟨lo, σ, h, S, .refl _⟩)
  rintro n s ⟨lo, σ, h, S, E₀⟩
  cases n with
  | zero => exact h.elim
  | succ n =>
    refine noE (ht _ _ _ h X s S) fun b s₁ q => ?_
    obtain ⟨σ₁, h₁, S₁, E₁⟩ := q
    cases b with
    | false =>
      rw [if_neg (by simp)] at h₁ ⊢
      exact wpAny_execs_nil ⟨.next, lo, σ₁, h₁, rfl, S₁, E₀.trans E₁⟩
    | true =>
      rw [if_pos rfl] at h₁ ⊢
      refine noE (hb _ _ _ h₁ X s₁ S₁) fun f s₃ q => ?_
      obtain ⟨af, lo₃, σ₃, h₃, rf, S₃, E₃⟩ := q
      have Ef := E₀.trans (E₁.trans E₃)
      cases af with
      | next => cases rf; exact ⟨n, Nat.lt_succ_self _, lo₃, σ₃, h₃, S₃, Ef⟩
      | cont => cases rf; exact ⟨n, Nat.lt_succ_self _, lo₃, σ₃, h₃, S₃, Ef⟩
      | brk => cases rf; exact ⟨.next, lo₃, σ₃, h₃, rfl, S₃, Ef⟩
      | ret x =>
        obtain ⟨y, rfl, ry⟩ := rf
        exact ⟨.ret x, lo₃, σ₃, h₃, ⟨y, rfl, ry⟩, S₃, Ef⟩
end
/-! text VC9 -/

noncomputable def constW (k : Const) (σ : Store) (P : AV → Store → Prop) : Prop :=
  match k with
  | .none => P .none σ
  | .bool b => P (.bool b) σ
  | .int i => P (.int i) σ
  | .str x => P (.str x) σ
  | _ => False
noncomputable def notSet : Expr → Bool
  | .Set .. => false
  | _ => true
/-- a call of a name of the module is plain -/
structure CallOk (c : Cx) (f : Str) (args : List Expr) : Prop where
  star : noStar args = true
  glob : c.cs.names.lookup f = some .globalImplicit
  dbg : (f == ("__debug__" : Str)) = false
  known : f ∉ bltNames → f ∈ defNames
structure MethOk (o : Expr) (args : List Expr) (ap pos : Pos) : Prop where
  base : plainBase o = true
  star : noStar args = true
  few : args.length < 30
  line : (ap.endLine == pos.line) = true
noncomputable def callOk (ns : List (Str × NameKind)) (f : Str) (args : List Expr) : Bool :=
  noStar args && (ns.lookup f == some .globalImplicit) && !(f == ("__debug__" : Str)) && (bltNames.contains f || defNames.contains f)
noncomputable def methOk (o : Expr) (args : List Expr) (ap pos : Pos) : Bool := plainBase o && noStar args && decide (args.length < 30) && (ap.endLine == pos.line)
theorem CallOk.of {c : Cx} {f : Str} {args : List Expr} (h : callOk c.cs.names f args = true) : CallOk c f args := by
  unfold callOk at h
  simp only [Bool.and_eq_true, Bool.or_eq_true, Bool.not_eq_true', List.contains_iff_mem, beq_iff_eq] at h
  obtain ⟨⟨⟨h1, h2⟩, h3⟩, h4⟩ := h
  exact ⟨h1, h2, h3, fun q => h4.resolve_left q⟩
theorem MethOk.of {o : Expr} {args : List Expr} {ap pos : Pos} (h : methOk o args ap pos = true) : MethOk o args ap pos := by
  unfold methOk at h
  simp only [Bool.and_eq_true, decide_eq_true_eq] at h
  obtain ⟨⟨⟨h1, h2⟩, h3⟩, h4⟩ := h
  exact ⟨h1, h2, h3, h4⟩
mutual
/-- what is seen of the spelling alone -/
noncomputable def chkE (ns : List (Str × NameKind)) : Expr → Bool
  | .BinOp l _ r _ => chkE ns l && chkE ns r
  | .UnaryOp _ x _ => chkE ns x
  | .BoolOp _ vs _ => chkEs ns vs
  | .Compare l [_] [r] _ => notSet r && chkE ns l && chkE ns r
  | .IfExp t a b _ => chkE ns t && chkE ns a && chkE ns b
  | .List es _ => noStar es && chkEs ns es
  | .Tuple es _ _ => noStar es && chkEs ns es
  | .Subscript v (.Slice none (some hi) none _) _ => chkE ns v && chkE ns hi
  | .Subscript v (.Slice (some l) none none _) _ => chkE ns v && chkE ns l
  | .Subscript v i _ => notSlice i && chkE ns v && chkE ns i
  | .Attribute v _ _ => plainBase v && chkE ns v
  | .Call (.Name f _) args [] _ => callOk ns f args && chkEs ns args
  | .Call (.Attribute o _ ap) args [] pos => methOk o args ap pos && chkE ns o && chkEs ns args
  | _ => true
noncomputable def chkEs (ns : List (Str × NameKind)) : List Expr → Bool
  | [] => true
  | e :: r => chkE ns e && chkEs ns r
end
/-- the kinds of methods -/
inductive MK where
  | app (p : Addr)
  | idx (p : Addr)
  | get (p : Addr)
  | own (f : Addr) (self : AV)
noncomputable def methK (g : G) (a : AV) (n : Str) (σ : Store) (k : MK → Prop) : Prop :=
  match a with
  | .ref p => (match σ p with
    | some (.list _) => if n = "append" then k (.app p) else n = "index" ∧ k (.idx p)
    | some (.tab _) => n = "get" ∧ k (.get p)
    | some (.inst C d) => ∃ f l, MethIn g C n f ∧ σ d = some (.attrs l) ∧ l.lookup n = none ∧ k (.own f (.ref p))
    | _ => False)
  | _ => False
noncomputable def methW (g : G) (c : Cx) (m : MK) (as : List AV) (σ : Store) (P : AV → Store → Prop) : Prop :=
  match m with
  | .app p => appendW p as σ P
  | .idx p => indexW p as σ P
  | .get p => tgetW c.un p as σ P
  | .own f v => CallP g c.dp c.un (.ref f) (v :: as) σ P

mutual
noncomputable def wpE (g : G) (c : Cx) : Expr → Locals → Store → (AV → Store → Prop) → Prop
  | .Constant k _ _, _, σ, P => constW k σ P
  | .Name x _, lo, σ, P => nameW c x lo σ P
  | .BinOp l op r _, lo, σ, P => wpE g c l lo σ fun a σ₁ => wpE g c r lo σ₁ fun b σ₂ => binW c.dp op a b σ₂ P
  | .UnaryOp op x _, lo, σ, P => wpE g c x lo σ fun a σ₁ => unW op a σ₁ P
  | .BoolOp op vs _, lo, σ, P => wpBool g c op vs lo σ P
  | .Compare l [op] [r] _, lo, σ, P => wpE g c l lo σ fun a σ₁ => wpE g c r lo σ₁ fun b σ₂ => cmpW c.un op a b σ₂ fun q => P (.bool q) σ₂
  | .IfExp t a b _, lo, σ, P => wpT g c t lo σ fun q σ₁ => if q = true then wpE g c a lo σ₁ P else wpE g c b lo σ₁ P
  | .List es _, lo, σ, P => wpEs g c es lo σ fun as σ₁ => as.length ≤ sizeLine ∧ ∀ d, σ₁ d = none → P (.ref d) (σ₁.set d (.list as))
  | .Tuple es _ _, lo, σ, P => wpEs g c es lo σ fun as σ₁ => as.length ≤ sizeLine ∧ P (.tup as) σ₁
  | .Subscript v (.Slice none (some hi) none _) _, lo, σ, P => wpE g c v lo σ fun a σ₁ => wpE g c hi lo σ₁ fun b σ₂ => uptoW g a b σ₂ P
  | .Subscript v (.Slice (some l) none none _) _, lo, σ, P => wpE g c v lo σ fun a σ₁ => wpE g c l lo σ₁ fun b σ₂ => fromW g a b σ₂ P
  | .Subscript v i _, lo, σ, P => wpE g c v lo σ fun a σ₁ => wpE g c i lo σ₁ fun b σ₂ => itemW a b σ₂ P
  | .Attribute v n _, lo, σ, P => wpE g c v lo σ fun a σ₁ => attrW g a n σ₁ P
  | .Dict [] [] _, _, σ, P => ∀ d, σ d = none → P (.ref d) (σ.set d (.tab []))
  | .Call (.Name f _) args [] _, lo, σ, P => wpEs g c args lo σ fun as σ₁ => callW g c f as σ₁ P
  | .Call (.Attribute o n _) args [] _, lo, σ, P => wpE g c o lo σ fun a σ₁ => methK g a n σ₁ fun m => wpEs g c args lo σ₁ fun as σ₂ => methW g c m as σ₂ P
  | e, lo, σ, P => AE g c e lo σ P
noncomputable def wpT (g : G) (c : Cx) : Expr → Locals → Store → (Bool → Store → Prop) → Prop
  | .UnaryOp .Not x _, lo, σ, P => wpT g c x lo σ fun b σ₁ => P (!b) σ₁
  | .BoolOp op vs _, lo, σ, P => wpTs g c op vs lo σ P
  | .Compare l [op] [r] _, lo, σ, P => wpE g c l lo σ fun a σ₁ => wpE g c r lo σ₁ fun b σ₂ => cmpW c.un op a b σ₂ fun q => P q σ₂
  | .Name x _, lo, σ, P => nameW c x lo σ fun a σ₁ => truthW a σ₁ fun q => P q σ₁
  | .Constant k _ _, _, σ, P => constW k σ fun a σ₁ => truthW a σ₁ fun q => P q σ₁
  | .BinOp l op r _, lo, σ, P => wpE g c l lo σ fun a σ₁ => wpE g c r lo σ₁ fun b σ₂ => binW c.dp op a b σ₂ fun a σ₃ => truthW a σ₃ fun q => P q σ₃
  | .Call (.Name f _) args [] _, lo, σ, P => wpEs g c args lo σ fun as σ₁ => callW g c f as σ₁ fun a σ₂ => truthW a σ₂ fun q => P q σ₂
  | e, lo, σ, P => AT g c e lo σ P
noncomputable def wpEs (g : G) (c : Cx) : List Expr → Locals → Store → (List AV → Store → Prop) → Prop
  | [], _, σ, P => P [] σ
  | e :: r, lo, σ, P => wpE g c e lo σ fun a σ₁ => wpEs g c r lo σ₁ fun as σ₂ => P (a :: as) σ₂
noncomputable def wpBool (g : G) (c : Cx) (op : BoolOp) : List Expr → Locals → Store → (AV → Store → Prop) → Prop
  | [], _, _, _ => False
  | e :: r, lo, σ, P => wpE g c e lo σ fun a σ₁ => (match r with
    | [] => P a σ₁
    | _ :: _ => truthW a σ₁ fun q => (match op with
      | .And => if q = true then wpBool g c op r lo σ₁ P else P a σ₁
      | .Or => if q = true then P a σ₁ else wpBool g c op r lo σ₁ P))
noncomputable def wpTs (g : G) (c : Cx) (op : BoolOp) : List Expr → Locals → Store → (Bool → Store → Prop) → Prop
  | [], _, σ, P => (match op with
      | .And => P true σ
      | .Or => P false σ)
  | e :: r, lo, σ, P => wpT g c e lo σ fun q σ₁ => (match op with
      | .And => if q = true then wpTs g c op r lo σ₁ P else P false σ₁
      | .Or => if q = true then P true σ₁ else wpTs g c op r lo σ₁ P)
end

section
variable {g : G} {c : Cx} {lo : Locals} {σ : Store} {X : Led} {s s' : Shared}
theorem const_ok {k : Const} {n : Nat} {pos : Pos} {P : AV → Store → Prop} (h : constW k σ P) : AE g c (.Constant k n pos) lo σ P := by
  intro X s S
  unfold constW at h
  split at h
  · exact Constant_none (ret_same S h hnone)
  · exact Constant_bool (ret_same S h hbool)
  · exact wpAny_Constant_int (ret_now S h hint)
  · exact wpAny_Constant_str (ret_now S h hstr)
  · exact h.elim
theorem bin_ok (O : c.Ok g) {l r : Expr} {op : Operator} {pos : Pos} {P : AV → Store → Prop} (h : AE g c l lo σ fun a σ₁ => AE g c r lo σ₁ fun b σ₂ => binW c.dp op a b σ₂ P) : AE g c (.BinOp l op r pos) lo σ P := by
  intro X s S
  refine wpAny_BinOp (noE (h X s S) fun v s₁ q => ?_)
  obtain ⟨a, σ₁, h₁, r₁, S₁, E₁⟩ := q
  refine noE (h₁ X s₁ S₁) fun u s₂ q => ?_
  obtain ⟨b, σ₂, h₂, r₂, S₂, E₂⟩ := q
  exact noE (binW_ok O h₂ X s₂ v u S₂ (r₁.le E₂.tup) r₂) fun v s₃ q => q.after (E₁.trans E₂)
theorem un_ok {x : Expr} {op : UnaryOp} {pos : Pos} {P : AV → Store → Prop} (h : AE g c x lo σ fun a σ₁ => unW op a σ₁ P) : AE g c (.UnaryOp op x pos) lo σ P := by
  intro X s S
  refine UnaryOp_ (noE (h X s S) fun v s₁ q => ?_)
  obtain ⟨a, σ₁, h₁, r₁, S₁, E₁⟩ := q
  exact noE (unW_ok h₁ X s₁ v S₁ r₁) fun v s₃ q => q.after E₁
theorem notSet_marks {op : CmpOp} {r : Expr} (h : notSet r = true) : behindInMarks op r = false := by
  cases r <;> first | rfl | cases h
theorem cmp_ok {l r : Expr} {op : CmpOp} {pos : Pos} {P : AV → Store → Prop} (hr : notSet r = true)
    (h : AE g c l lo σ fun a σ₁ => AE g c r lo σ₁ fun b σ₂ => cmpW c.un op a b σ₂ fun q => P (.bool q) σ₂) : AE g c (.Compare l [op] [r] pos) lo σ P := by
  intro X s S
  refine wpAny_Compare1 (noE (h X s S) fun v s₁ q => ?_) (notSet_marks hr)
  obtain ⟨a, σ₁, h₁, r₁, S₁, E₁⟩ := q
  refine noE (h₁ X s₁ S₁) fun u s₂ q => ?_
  obtain ⟨b, σ₂, h₂, r₂, S₂, E₂⟩ := q
  refine noE (cmpW_ok h₂ X s₂ v u S₂ (r₁.le E₂.tup) r₂) fun v s₃ q => ?_
  obtain ⟨_, _, ⟨b, rfl, rfl, p⟩, r₃, S₃, E₃⟩ := q
  exact ⟨_, _, p, r₃, S₃, (E₁.trans E₂).trans E₃⟩
theorem cmpT_ok {l r : Expr} {op : CmpOp} {pos : Pos} {P : Bool → Store → Prop} (hr : notSet r = true)
    (h : AE g c l lo σ fun a σ₁ => AE g c r lo σ₁ fun b σ₂ => cmpW c.un op a b σ₂ fun q => P q σ₂) : AT g c (.Compare l [op] [r] pos) lo σ P := by
  intro X s S
  refine wpAny_isTrue_Compare1 (noE (h X s S) fun v s₁ q => ?_) (notSet_marks hr)
  obtain ⟨a, σ₁, h₁, r₁, S₁, E₁⟩ := q
  refine noE (h₁ X s₁ S₁) fun u s₂ q => ?_
  obtain ⟨b, σ₂, h₂, r₂, S₂, E₂⟩ := q
  refine noE (cmpW_ok h₂ X s₂ v u S₂ (r₁.le E₂.tup) r₂) fun v s₃ q => ?_
  obtain ⟨_, _, ⟨b, rfl, rfl, p⟩, r₃, S₃, E₃⟩ := q
  simp only [HRel] at r₃
  subst r₃
  exact wpAny_truthy_bool ⟨_, p, S₃, (E₁.trans E₂).trans E₃⟩
theorem plainT_ok {e : Expr} {P : Bool → Store → Prop} (h : AE g c e lo σ fun a σ₁ => truthW a σ₁ fun q => P q σ₁)
    (he : isTrue e c.env (eval e c.env) = (do let v ← eval e c.env; standAt e.pos; holding [v] (truthy v))) : AT g c e lo σ P := by
  intro X s S
  refine isTrue_plain (noE (h X s S) fun v s₁ q => ?_) he
  obtain ⟨a, σ₁, h₁, r₁, S₁, E₁⟩ := q
  exact noE (truthW_ok h₁ X s₁ v S₁ r₁) fun v s₃ q => q.after E₁
theorem notT_ok {x : Expr} {pos : Pos} {P : Bool → Store → Prop} (h : AT g c x lo σ fun b σ₁ => P (!b) σ₁) : AT g c (.UnaryOp .Not x pos) lo σ P :=
  fun X s S => isTrue_not (noE (h X s S) fun _ _ q => q)
theorem ifexp_ok {t a b : Expr} {pos : Pos} {P : AV → Store → Prop} (h : AT g c t lo σ fun q σ₁ => if q = true then AE g c a lo σ₁ P else AE g c b lo σ₁ P) : AE g c (.IfExp t a b pos) lo σ P := by
  intro X s S
  refine IfExp_ (noE (h X s S) fun q s₁ z => ?_)
  obtain ⟨σ₁, h₁, S₁, E₁⟩ := z
  cases q with
  | false => rw [if_neg (by simp)] at h₁ ⊢; exact noE (h₁ X s₁ S₁) fun v s₃ q => q.after E₁
  | true => rw [if_pos rfl] at h₁ ⊢; exact noE (h₁ X s₁ S₁) fun v s₃ q => q.after E₁
theorem dict_ok (O : c.Ok g) {pos : Pos} {P : AV → Store → Prop} (h : ∀ d, σ d = none → P (.ref d) (σ.set d (.tab []))) : AE g c (.Dict [] [] pos) lo σ P := by
  intro X s S
  refine wpAny_Dict_empty ?_
  obtain ⟨m, F, _⟩ := S.fr
  obtain ⟨S', E⟩ := S.keep (h' := s.heap.push { cls := .type "dict", data := .dict #[] }) (tk := s.toks) fun _ _ e => Heap.get?_push_of_some _ e
  exact ⟨.ref _, _, h _ (S.free (get_size _)).1, href, S.join S' (get_size _) ⟨F.notModules (modules_low O.T.nolimit), [], Heap.DictOfH.new _, trivial⟩, E⟩
theorem list_ok {es : List Expr} {pos : Pos} {P : AV → Store → Prop} (h : AEs g c es lo σ fun as σ₁ => as.length ≤ sizeLine ∧ ∀ d, σ₁ d = none → P (.ref d) (σ₁.set d (.list as))) : AE g c (.List es pos) lo σ P := by
  intro X s S
  refine List_ (noE (h pos X s S) fun vs s₁ q => ?_)
  obtain ⟨as, σ₁, h₁, r₁, S₁, E₁⟩ := q
  exact noE (newList_A h₁.2 h₁.1 X s₁ vs S₁ r₁) fun v s₃ q => q.after E₁
theorem tup_ok {es : List Expr} {k : Nat} {pos : Pos} {P : AV → Store → Prop} (h : AEs g c es lo σ fun as σ₁ => as.length ≤ sizeLine ∧ P (.tup as) σ₁) : AE g c (.Tuple es k pos) lo σ P := by
  intro X s S
  refine Tuple_ (noE (h pos X s S) fun vs s₁ q => ?_)
  obtain ⟨as, σ₁, h₁, r₁, S₁, E₁⟩ := q
  exact noE (newTuple_A h₁.2 h₁.1 X s₁ vs S₁ r₁) fun v s₃ q => q.after E₁
theorem boolAnd_ok {e₁ e₂ : Expr} {r : List Expr} {pos : Pos} {P : AV → Store → Prop}
    (h : AE g c e₁ lo σ fun a σ₁ => truthW a σ₁ fun q => if q = true then AE g c (.BoolOp .And (e₂ :: r) pos) lo σ₁ P else P a σ₁) : AE g c (.BoolOp .And (e₁ :: e₂ :: r) pos) lo σ P := by
  intro X s S
  refine BoolOp_and (noE (h X s S) fun v s₁ q => ?_)
  obtain ⟨a, σ₁, h₁, r₁, S₁, E₁⟩ := q
  refine noE (truthW_ok (P := fun q σ₁' => if q = true then AE g c (.BoolOp .And (e₂ :: r) pos) lo σ₁' P else P a σ₁') h₁ X s₁ v S₁ r₁) fun q s₂ z => ?_
  obtain ⟨σ₂, h₂, S₂, E₂⟩ := z
  cases q with
  | false => rw [if_neg (by simp)] at h₂ ⊢; exact ⟨a, _, h₂, r₁.le E₂.tup, S₂, E₁.trans E₂⟩
  | true => rw [if_pos rfl] at h₂ ⊢; exact noE (h₂ X s₂ S₂) fun v s₃ q => q.after (E₁.trans E₂)
theorem boolOr_ok {e₁ e₂ : Expr} {r : List Expr} {pos : Pos} {P : AV → Store → Prop}
    (h : AE g c e₁ lo σ fun a σ₁ => truthW a σ₁ fun q => if q = true then P a σ₁ else AE g c (.BoolOp .Or (e₂ :: r) pos) lo σ₁ P) : AE g c (.BoolOp .Or (e₁ :: e₂ :: r) pos) lo σ P := by
  intro X s S
  refine BoolOp_or (noE (h X s S) fun v s₁ q => ?_)
  obtain ⟨a, σ₁, h₁, r₁, S₁, E₁⟩ := q
  refine noE (truthW_ok (P := fun q σ₁' => if q = true then P a σ₁' else AE g c (.BoolOp .Or (e₂ :: r) pos) lo σ₁' P) h₁ X s₁ v S₁ r₁) fun q s₂ z => ?_
  obtain ⟨σ₂, h₂, S₂, E₂⟩ := z
  cases q with
  | true => rw [if_pos rfl] at h₂ ⊢; exact ⟨a, _, h₂, r₁.le E₂.tup, S₂, E₁.trans E₂⟩
  | false => rw [if_neg (by simp)] at h₂ ⊢; exact noE (h₂ X s₂ S₂) fun v s₃ q => q.after (E₁.trans E₂)
theorem andT_ok {x : Expr} {r : List Expr} {pos : Pos} {P : Bool → Store → Prop} (h : AT g c x lo σ fun q σ₁ => if q = true then AT g c (.BoolOp .And r pos) lo σ₁ P else P false σ₁) : AT g c (.BoolOp .And (x :: r) pos) lo σ P := by
  intro X s S
  refine isTrue_and (noE (h X s S) fun q s₁ z => ?_)
  obtain ⟨σ₁, h₁, S₁, E₁⟩ := z
  cases q with
  | false => rw [if_neg (by simp)] at h₁ ⊢; exact ⟨_, h₁, S₁, E₁⟩
  | true => rw [if_pos rfl] at h₁ ⊢; exact noE (h₁ X s₁ S₁) fun v s₃ q => q.after E₁
theorem orT_ok {x : Expr} {r : List Expr} {pos : Pos} {P : Bool → Store → Prop} (h : AT g c x lo σ fun q σ₁ => if q = true then P true σ₁ else AT g c (.BoolOp .Or r pos) lo σ₁ P) : AT g c (.BoolOp .Or (x :: r) pos) lo σ P := by
  intro X s S
  refine isTrue_or (noE (h X s S) fun q s₁ z => ?_)
  obtain ⟨σ₁, h₁, S₁, E₁⟩ := z
  cases q with
  | true => rw [if_pos rfl] at h₁ ⊢; exact ⟨_, h₁, S₁, E₁⟩
  | false => rw [if_neg (by simp)] at h₁ ⊢; exact noE (h₁ X s₁ S₁) fun v s₃ q => q.after E₁

theorem AE.mono {e : Expr} {P Q : AV → Store → Prop} (h : AE g c e lo σ P) (k : ∀ a σ', P a σ' → Q a σ') : AE g c e lo σ Q :=
  fun X s S => noE (h X s S) fun _ _ ⟨a, b, d, r⟩ => ⟨a, b, k _ _ d, r⟩
theorem AT.mono {e : Expr} {P Q : Bool → Store → Prop} (h : AT g c e lo σ P) (k : ∀ a σ', P a σ' → Q a σ') : AT g c e lo σ Q :=
  fun X s S => noE (h X s S) fun _ _ ⟨b, d, r⟩ => ⟨b, k _ _ d, r⟩
theorem AEs.mono {e : List Expr} {P Q : List AV → Store → Prop} (h : AEs g c e lo σ P) (k : ∀ a σ', P a σ' → Q a σ') : AEs g c e lo σ Q :=
  fun pos X s S => noE (h pos X s S) fun _ _ ⟨a, b, d, r⟩ => ⟨a, b, k _ _ d, r⟩

/-! a method call -/
theorem noDict_list {l : List AV} {p : Addr} (m : MRel g s.heap p (.list l)) : s.heap.NoDictAt (.ref p) := by
  obtain ⟨vs, n, e, _⟩ := m
  exact ⟨_, e, rfl⟩
theorem methA_ok (O : c.Ok g) {o : Expr} {n : Str} {ap pos : Pos} {args : List Expr} {P : AV → Store → Prop} (hk : MethOk o args ap pos)
    (h : AE g c o lo σ fun a σ₁ => methK g a n σ₁ fun m => if args = [] then methW g c m [] σ₁ P else AEs g c args lo σ₁ fun as σ₂ => methW g c m as σ₂ P) : AE g c (.Call (.Attribute o n ap) args [] pos) lo σ P := by
  intro X s S
  refine methodCall_X hk.base hk.star hk.few hk.line fun pl => noE (h X s S) fun ov s₁ q => ?_
  obtain ⟨a, σ₁, h₁, r₁, S₁, E₁⟩ := q
  unfold methK at h₁
  split at h₁
  · rename_i p
    simp only [HRel] at r₁
    subst r₁
    have blt : ∀ (id : String) (m : MK), (∀ as σ₂ P, methW g c m as σ₂ P → AOs g c (fun vs => call (.builtin id) ([.ref p] ++ vs)) as lo σ₂ P) → (if args = [] then methW g c m [] σ₁ P else AEs g c args lo σ₁ fun as σ₂ => methW g c m as σ₂ P) →
        wpAny g.M c.A (callWith pos (.builtin id) [.ref p] (backTo pos (starEach args c.env)) []) (Ret g c lo X s P) NoE s₁ := by
      intro id m hm hw
      cases args with
      | nil =>
        rw [if_pos rfl] at hw
        refine callWith_method0 (noE (hm _ _ _ hw X s₁ [] S₁ (by simp only [HRels])) fun v s₃ q => q.after E₁)
      | cons e r =>
        rw [if_neg (by simp)] at hw
        refine PyProof.Rows.callWith_method1 (noE (hw pos X s₁ S₁) fun vs s₂ q => ?_) (starEach_cons hk.star _) (noStar_any _ _ (noStar_tail hk.star))
        obtain ⟨as, σ₂, h₂, r₂, S₂, E₂⟩ := q
        exact noE (hm _ _ _ h₂ X s₂ vs S₂ r₂) fun v s₃ q => q.after (E₁.trans E₂)
    split at h₁
    · rename_i l hl
      have ml := (S₁.so _ _ hl).1
      obtain ⟨vs, hli, _⟩ := ml.isList
      split at h₁
      · rename_i hn
        subst hn
        obtain ⟨ws, k, e1, _⟩ := ml
        exact getMethod_list_append e1 rfl rfl (blt _ (.app p) (fun as σ₂ P q => appendW_ok q) h₁)
      · obtain ⟨rfl, h₁⟩ := h₁
        exact getMethod_list_of PySem.F.slot_list_index PySem.F.type_list_index hli (noDict_list ml) (blt _ (.idx p) (fun as σ₂ P q => indexW_ok q) h₁)
    · rename_i l hl
      obtain ⟨rfl, h₁⟩ := h₁
      obtain ⟨hm, xs, hd, hr⟩ := (S₁.so _ _ hl).1
      exact getMethod_builtin hd.typeIs PySem.F.plainAttrs_dict PySem.F.slot_dict_get PySem.F.type_dict_get (fun a e => dictOfH_noDict hd a e) (blt _ (.get p) (fun as σ₂ P q => tgetW_ok q) h₁)
    · rename_i C d hl
      obtain ⟨f, l, ⟨m1, m2, m3, m4⟩, e2, e3, h₁⟩ := h₁
      obtain ⟨es, k, I, r⟩ := S₁.inst hl e2
      obtain ⟨m, F, hm⟩ := S₁.fr
      have := r n
      rw [e3] at this
      refine method_inst F O.X I m1 m2 m3 this ?_
      have rf : HRels s₁.heap [AV.ref p] [Value.ref p] := by simp only [HRels]; exact ⟨_, [], rfl, href, rfl⟩
      cases args with
      | nil =>
        rw [if_pos rfl] at h₁
        exact noE (call_first0 (fa := [.ref p]) O m4 (h₁ c O rfl rfl lo) S₁ rf) fun v s₃ q => q.after E₁
      | cons e r =>
        rw [if_neg (by simp)] at h₁
        exact noE (call_first1 (fa := [.ref p]) O hk.star m4 (h₁.mono fun as σ₂ q => q c O rfl rfl lo) S₁ rf) fun v s₃ q => q.after E₁
    · exact h₁.elim
  · exact h₁.elim
end
/-! text VC10 -/

section
variable {g : G} {c : Cx}

structure Sound (g : G) (c : Cx) (n : Nat) : Prop where
  e : ∀ e, sizeOf e < n → chkE c.cs.names e = true → ∀ lo σ P, wpE g c e lo σ P → AE g c e lo σ P
  t : ∀ e, sizeOf e < n → chkE c.cs.names e = true → ∀ lo σ P, wpT g c e lo σ P → AT g c e lo σ P
  es : ∀ es, sizeOf es < n → chkEs c.cs.names es = true → noStar es = true → ∀ lo σ P, wpEs g c es lo σ P → AEs g c es lo σ P
  b : ∀ op es pos, sizeOf es < n → chkEs c.cs.names es = true → ∀ lo σ P, wpBool g c op es lo σ P → AE g c (.BoolOp op es pos) lo σ P
  ts : ∀ op es pos, sizeOf es < n → chkEs c.cs.names es = true → ∀ lo σ P, wpTs g c op es lo σ P → AT g c (.BoolOp op es pos) lo σ P

theorem item_eq {lo : Locals} {σ : Store} {P : AV → Store → Prop} {v i : Expr} {pos : Pos} (h : notSlice i = true) : wpE g c (.Subscript v i pos) lo σ P = wpE g c v lo σ fun a σ₁ => wpE g c i lo σ₁ fun b σ₂ => itemW a b σ₂ P := by
  cases i <;> first | rfl | exact absurd h Bool.false_ne_true
theorem item_chk {ns : List (Str × NameKind)} {v i : Expr} {pos : Pos} (h : notSlice i = true) : chkE ns (.Subscript v i pos) = (notSlice i && chkE ns v && chkE ns i) := by
  cases i <;> first | rfl | exact absurd h Bool.false_ne_true
theorem and2 {a b : Bool} (h : (a && b) = true) : a = true ∧ b = true := Bool.and_eq_true_iff.mp h
theorem and3 {a b d : Bool} (h : (a && b && d) = true) : (a = true ∧ b = true) ∧ d = true := ⟨and2 (and2 h).1, (and2 h).2⟩
theorem call_sound (O : c.Ok g) {n : Nat} (ih : Sound g c n) {f : Str} {args : List Expr} {p pos : Pos} {lo : Locals} {σ : Store} {P : AV → Store → Prop} (hn : sizeOf args < n) (hc : (callOk c.cs.names f args && chkEs c.cs.names args) = true)
    (h : wpEs g c args lo σ fun as σ₁ => callW g c f as σ₁ P) : AE g c (.Call (.Name f p) args [] pos) lo σ P := by
  obtain ⟨h1, h2⟩ := and2 hc
  have k := CallOk.of h1
  refine callW_ok O k.star k.glob k.dbg k.known (fun q => ?_) (fun _ => ih.es _ hn h2 k.star _ _ _ h)
  subst q
  exact h
theorem meth_sound (O : c.Ok g) {n : Nat} (ih : Sound g c n) {o : Expr} {nm : Str} {args : List Expr} {ap pos : Pos} {lo : Locals} {σ : Store} {P : AV → Store → Prop} (hn : sizeOf o < n ∧ sizeOf args < n) (hc : (methOk o args ap pos && chkE c.cs.names o && chkEs c.cs.names args) = true)
    (h : wpE g c o lo σ fun a σ₁ => methK g a nm σ₁ fun m => wpEs g c args lo σ₁ fun as σ₂ => methW g c m as σ₂ P) : AE g c (.Call (.Attribute o nm ap) args [] pos) lo σ P := by
  obtain ⟨⟨h1, h2⟩, h3⟩ := and3 hc
  have k := MethOk.of h1
  refine methA_ok O k ((ih.e _ hn.1 h2 _ _ _ h).mono fun a σ₁ q => ?_)
  have step : ∀ m, (wpEs g c args lo σ₁ fun as σ₂ => methW g c m as σ₂ P) → (if args = [] then methW g c m [] σ₁ P else AEs g c args lo σ₁ fun as σ₂ => methW g c m as σ₂ P) := by
    intro m q
    by_cases e : args = []
    · rw [if_pos e]; subst e; exact q
    · rw [if_neg e]; exact ih.es _ hn.2 h3 k.star _ _ _ q
  unfold methK at q ⊢
  split at q
  · split at q
    · split at q
      · rename_i e; rw [if_pos e]; exact step _ q
      · rename_i e; rw [if_neg e]; exact ⟨q.1, step _ q.2⟩
    · exact ⟨q.1, step _ q.2⟩
    · obtain ⟨f, l, q1, q2, q3, q⟩ := q
      exact ⟨f, l, q1, q2, q3, step _ q⟩
    · exact q.elim
  · exact q.elim
theorem ite_of {q : Bool} {A B : Prop} (h : if q = true then A else B) : (q = true → A) ∧ (q = false → B) := by
  cases q with
  | true => exact ⟨fun _ => (if_pos rfl).mp h, fun e => Bool.noConfusion e⟩
  | false => exact ⟨fun e => Bool.noConfusion e, fun _ => (if_neg Bool.false_ne_true).mp h⟩
theorem sound_e (O : c.Ok g) {n : Nat} (ih : Sound g c n) : ∀ e, sizeOf e < n + 1 → chkE c.cs.names e = true → ∀ lo σ P, wpE g c e lo σ P → AE g c e lo σ P := by
  intro e hn hc lo σ P h
  cases e with
  | Constant k m pos => exact const_ok h
  | Name x pos => exact nameW_ok O h
  | BinOp l op r pos =>
    simp only [Expr.BinOp.sizeOf_spec] at hn
    have hc := and2 (a := chkE c.cs.names l) (b := chkE c.cs.names r) hc
    have h : wpE g c l lo σ fun a σ₁ => wpE g c r lo σ₁ fun b σ₂ => binW c.dp op a b σ₂ P := h
    exact bin_ok O ((ih.e _ (by (first | lia | omega)) hc.1 _ _ _ h).mono fun a σ₁ q => ih.e _ (by (first | lia | omega)) hc.2 _ _ _ q)
  | UnaryOp op x pos =>
    simp only [Expr.UnaryOp.sizeOf_spec] at hn
    have hc : chkE c.cs.names x = true := hc
    have h : wpE g c x lo σ fun a σ₁ => unW op a σ₁ P := h
    exact un_ok (ih.e _ (by (first | lia | omega)) hc _ _ _ h)
  | BoolOp op vs pos =>
    simp only [Expr.BoolOp.sizeOf_spec] at hn
    have hc : chkEs c.cs.names vs = true := hc
    have h : wpBool g c op vs lo σ P := h
    exact ih.b _ _ _ (by (first | lia | omega)) hc _ _ _ h
  | Compare l ops rs pos =>
    rcases ops with _ | ⟨op, _ | ⟨op2, ops⟩⟩
    · exact h
    · rcases rs with _ | ⟨r, _ | ⟨r2, rs⟩⟩
      · exact h
      · simp only [Expr.Compare.sizeOf_spec, List.cons.sizeOf_spec] at hn
        have hc := and3 (a := notSet r) (b := chkE c.cs.names l) (d := chkE c.cs.names r) hc
        have h : wpE g c l lo σ fun a σ₁ => wpE g c r lo σ₁ fun b σ₂ => cmpW c.un op a b σ₂ fun q => P (.bool q) σ₂ := h
        exact cmp_ok hc.1.1 ((ih.e _ (by (first | lia | omega)) hc.1.2 _ _ _ h).mono fun a σ₁ q => ih.e _ (by (first | lia | omega)) hc.2 _ _ _ q)
      · exact h
    · exact h
  | IfExp t a b pos =>
    simp only [Expr.IfExp.sizeOf_spec] at hn
    have hc := and3 (a := chkE c.cs.names t) (b := chkE c.cs.names a) (d := chkE c.cs.names b) hc
    have h : wpT g c t lo σ fun q σ₁ => if q = true then wpE g c a lo σ₁ P else wpE g c b lo σ₁ P := h
    refine ifexp_ok ((ih.t _ (by (first | lia | omega)) hc.1.1 _ _ _ h).mono fun q σ₁ z => ?_)
    have z := ite_of z
    cases q with
    | true => exact (if_pos rfl).mpr (ih.e _ (by (first | lia | omega)) hc.1.2 _ _ _ (z.1 rfl))
    | false => exact (if_neg Bool.false_ne_true).mpr (ih.e _ (by (first | lia | omega)) hc.2 _ _ _ (z.2 rfl))
  | List es pos =>
    simp only [Expr.List.sizeOf_spec] at hn
    have hc := and2 (a := noStar es) (b := chkEs c.cs.names es) hc
    have h : wpEs g c es lo σ fun as σ₁ => as.length ≤ sizeLine ∧ ∀ d, σ₁ d = none → P (.ref d) (σ₁.set d (.list as)) := h
    exact list_ok (ih.es _ (by (first | lia | omega)) hc.2 hc.1 _ _ _ h)
  | Tuple es k pos =>
    simp only [Expr.Tuple.sizeOf_spec] at hn
    have hc := and2 (a := noStar es) (b := chkEs c.cs.names es) hc
    have h : wpEs g c es lo σ fun as σ₁ => as.length ≤ sizeLine ∧ P (.tup as) σ₁ := h
    exact tup_ok (ih.es _ (by (first | lia | omega)) hc.2 hc.1 _ _ _ h)
  | Subscript v i pos =>
    by_cases hi : notSlice i = true
    · simp only [Expr.Subscript.sizeOf_spec] at hn
      rw [item_eq hi] at h
      rw [item_chk hi] at hc
      have hc := and3 hc
      exact Subscript_ok hc.1.1 ((ih.e _ (by (first | lia | omega)) hc.1.2 _ _ _ h).mono fun a σ₁ q => ih.e _ (by (first | lia | omega)) hc.2 _ _ _ q)
    · cases i with
      | Slice l u st p =>
        cases l with
        | none =>
          cases u with
          | none => exact Bool.noConfusion (and3 (a := false) (b := chkE c.cs.names v) (d := chkE c.cs.names (.Slice none none st p)) hc).1.1
          | some up =>
            cases st with
            | none =>
              simp only [Expr.Subscript.sizeOf_spec, Expr.Slice.sizeOf_spec, Option.some.sizeOf_spec] at hn
              have hc := and2 (a := chkE c.cs.names v) (b := chkE c.cs.names up) hc
              have h : wpE g c v lo σ fun a σ₁ => wpE g c up lo σ₁ fun b σ₂ => uptoW g a b σ₂ P := h
              exact upto_ok O ((ih.e _ (by (first | lia | omega)) hc.1 _ _ _ h).mono fun a σ₁ q => ih.e _ (by (first | lia | omega)) hc.2 _ _ _ q)
            | some st => exact Bool.noConfusion (and3 (a := false) (b := chkE c.cs.names v) (d := chkE c.cs.names (.Slice none (some up) (some st) p)) hc).1.1
        | some lw =>
          cases u with
          | none =>
            cases st with
            | none =>
              simp only [Expr.Subscript.sizeOf_spec, Expr.Slice.sizeOf_spec, Option.some.sizeOf_spec] at hn
              have hc := and2 (a := chkE c.cs.names v) (b := chkE c.cs.names lw) hc
              have h : wpE g c v lo σ fun a σ₁ => wpE g c lw lo σ₁ fun b σ₂ => fromW g a b σ₂ P := h
              exact from_ok O ((ih.e _ (by (first | lia | omega)) hc.1 _ _ _ h).mono fun a σ₁ q => ih.e _ (by (first | lia | omega)) hc.2 _ _ _ q)
            | some st => exact Bool.noConfusion (and3 (a := false) (b := chkE c.cs.names v) (d := chkE c.cs.names (.Slice (some lw) none (some st) p)) hc).1.1
          | some up => exact Bool.noConfusion (and3 (a := false) (b := chkE c.cs.names v) (d := chkE c.cs.names (.Slice (some lw) (some up) st p)) hc).1.1
      | _ => exact absurd rfl hi
  | Attribute v nm pos =>
    simp only [Expr.Attribute.sizeOf_spec] at hn
    have hc := and2 (a := plainBase v) (b := chkE c.cs.names v) hc
    have h : wpE g c v lo σ fun a σ₁ => attrW g a nm σ₁ P := h
    exact Attribute_ok O hc.1 (ih.e _ (by (first | lia | omega)) hc.2 _ _ _ h)
  | Dict ks vs pos =>
    rcases ks with _ | ⟨k, ks⟩
    · rcases vs with _ | ⟨v, vs⟩
      · exact dict_ok O h
      · exact h
    · exact h
  | Call f args kws pos =>
    cases f with
    | Name f p =>
      rcases kws with _ | ⟨kw, kws⟩
      · simp only [Expr.Call.sizeOf_spec] at hn
        exact call_sound O ih (by (first | lia | omega)) hc h
      · exact h
    | Attribute o nm ap =>
      rcases kws with _ | ⟨kw, kws⟩
      · simp only [Expr.Call.sizeOf_spec, Expr.Attribute.sizeOf_spec] at hn
        exact meth_sound O ih ⟨by (first | lia | omega), by (first | lia | omega)⟩ hc h
      · exact h
    | _ => exact h
  | _ => exact h
theorem sound_t (O : c.Ok g) {n : Nat} (ih : Sound g c n) : ∀ e, sizeOf e < n + 1 → chkE c.cs.names e = true → ∀ lo σ P, wpT g c e lo σ P → AT g c e lo σ P := by
  intro e hn hc lo σ P h
  cases e with
  | UnaryOp op x pos =>
    cases op with
    | Not =>
      simp only [Expr.UnaryOp.sizeOf_spec] at hn
      have hc : chkE c.cs.names x = true := hc
      have h : wpT g c x lo σ fun b σ₁ => P (!b) σ₁ := h
      exact notT_ok (ih.t _ (by (first | lia | omega)) hc _ _ _ h)
    | _ => exact h
  | BoolOp op vs pos =>
    simp only [Expr.BoolOp.sizeOf_spec] at hn
    have hc : chkEs c.cs.names vs = true := hc
    have h : wpTs g c op vs lo σ P := h
    exact ih.ts _ _ _ (by (first | lia | omega)) hc _ _ _ h
  | Compare l ops rs pos =>
    rcases ops with _ | ⟨op, _ | ⟨op2, ops⟩⟩
    · exact h
    · rcases rs with _ | ⟨r, _ | ⟨r2, rs⟩⟩
      · exact h
      · simp only [Expr.Compare.sizeOf_spec, List.cons.sizeOf_spec] at hn
        have hc := and3 (a := notSet r) (b := chkE c.cs.names l) (d := chkE c.cs.names r) hc
        have h : wpE g c l lo σ fun a σ₁ => wpE g c r lo σ₁ fun b σ₂ => cmpW c.un op a b σ₂ fun q => P q σ₂ := h
        exact cmpT_ok hc.1.1 ((ih.e _ (by (first | lia | omega)) hc.1.2 _ _ _ h).mono fun a σ₁ q => ih.e _ (by (first | lia | omega)) hc.2 _ _ _ q)
      · exact h
    · exact h
  | Name x pos => exact plainT_ok (nameW_ok O h) rfl
  | Constant k m pos => exact plainT_ok (const_ok h) rfl
  | BinOp l op r pos =>
    simp only [Expr.BinOp.sizeOf_spec] at hn
    have hc := and2 (a := chkE c.cs.names l) (b := chkE c.cs.names r) hc
    have h : wpE g c l lo σ fun a σ₁ => wpE g c r lo σ₁ fun b σ₂ => binW c.dp op a b σ₂ fun a σ₃ => truthW a σ₃ fun q => P q σ₃ := h
    exact plainT_ok (bin_ok O ((ih.e _ (by (first | lia | omega)) hc.1 _ _ _ h).mono fun a σ₁ q => ih.e _ (by (first | lia | omega)) hc.2 _ _ _ q)) rfl
  | Call f args kws pos =>
    cases f with
    | Name f p =>
      rcases kws with _ | ⟨kw, kws⟩
      · simp only [Expr.Call.sizeOf_spec] at hn
        exact plainT_ok (call_sound O ih (by (first | lia | omega)) hc h) rfl
      · exact h
    | _ => exact h
  | _ => exact h
theorem sound_es {n : Nat} (ih : Sound g c n) : ∀ es, sizeOf es < n + 1 → chkEs c.cs.names es = true → noStar es = true → ∀ lo σ P, wpEs g c es lo σ P → AEs g c es lo σ P := by
  intro es hn hc hs lo σ P h
  cases es with
  | nil => exact AEs_nil h
  | cons e r =>
    simp only [List.cons.sizeOf_spec] at hn
    have hc := and2 (a := chkE c.cs.names e) (b := chkEs c.cs.names r) hc
    have h : wpE g c e lo σ fun a σ₁ => wpEs g c r lo σ₁ fun as σ₂ => P (a :: as) σ₂ := h
    exact AEs_cons hs ((ih.e _ (by (first | lia | omega)) hc.1 _ _ _ h).mono fun a σ₁ q => ih.es _ (by (first | lia | omega)) hc.2 (noStar_tail hs) _ _ _ q)
theorem truthW_mono {σ₁ : Store} {a : AV} {Q Q' : Bool → Prop} (k : ∀ b, Q b → Q' b) (z : truthW a σ₁ Q) : truthW a σ₁ Q' := by
  unfold truthW at z ⊢
  split at z
  · exact k _ z
  · exact k _ z
  · exact k _ z
  · obtain ⟨l, z1, z2, z3⟩ := z; exact ⟨l, z1, z2, k _ z3⟩
  · exact z.elim
theorem sound_b {n : Nat} (ih : Sound g c n) : ∀ op es pos, sizeOf es < n + 1 → chkEs c.cs.names es = true → ∀ lo σ P, wpBool g c op es lo σ P → AE g c (.BoolOp op es pos) lo σ P := by
  intro op es pos hn hc lo σ P h
  cases es with
  | nil => exact h.elim
  | cons e r =>
    simp only [List.cons.sizeOf_spec] at hn
    have hc := and2 (a := chkE c.cs.names e) (b := chkEs c.cs.names r) hc
    cases r with
    | nil =>
      have h : wpE g c e lo σ fun a σ₁ => P a σ₁ := h
      exact fun X s S => BoolOp_one (ih.e _ (by (first | lia | omega)) hc.1 _ _ _ h X s S)
    | cons e₂ r =>
      cases op with
      | And =>
        have h : wpE g c e lo σ fun a σ₁ => truthW a σ₁ fun q => if q = true then wpBool g c .And (e₂ :: r) lo σ₁ P else P a σ₁ := h
        refine boolAnd_ok ((ih.e _ (by (first | lia | omega)) hc.1 _ _ _ h).mono fun a σ₁ q => truthW_mono (fun b z => ?_) q)
        have z := ite_of z
        cases b with
        | true => exact (if_pos rfl).mpr (ih.b _ _ _ (by (first | lia | omega)) hc.2 _ _ _ (z.1 rfl))
        | false => exact (if_neg Bool.false_ne_true).mpr (z.2 rfl)
      | Or =>
        have h : wpE g c e lo σ fun a σ₁ => truthW a σ₁ fun q => if q = true then P a σ₁ else wpBool g c .Or (e₂ :: r) lo σ₁ P := h
        refine boolOr_ok ((ih.e _ (by (first | lia | omega)) hc.1 _ _ _ h).mono fun a σ₁ q => truthW_mono (fun b z => ?_) q)
        have z := ite_of z
        cases b with
        | true => exact (if_pos rfl).mpr (z.1 rfl)
        | false => exact (if_neg Bool.false_ne_true).mpr (ih.b _ _ _ (by (first | lia | omega)) hc.2 _ _ _ (z.2 rfl))
theorem sound_ts {n : Nat} (ih : Sound g c n) : ∀ op es pos, sizeOf es < n + 1 → chkEs c.cs.names es = true → ∀ lo σ P, wpTs g c op es lo σ P → AT g c (.BoolOp op es pos) lo σ P := by
  intro op es pos hn hc lo σ P h
  cases es with
  | nil =>
    cases op with
    | And => exact fun X s S => isTrue_and_nil ⟨σ, h, S, .refl _⟩
    | Or => exact fun X s S => isTrue_or_nil ⟨σ, h, S, .refl _⟩
  | cons e r =>
    simp only [List.cons.sizeOf_spec] at hn
    have hc := and2 (a := chkE c.cs.names e) (b := chkEs c.cs.names r) hc
    cases op with
    | And =>
      have h : wpT g c e lo σ fun q σ₁ => if q = true then wpTs g c .And r lo σ₁ P else P false σ₁ := h
      refine andT_ok ((ih.t _ (by (first | lia | omega)) hc.1 _ _ _ h).mono fun b σ₁ z => ?_)
      have z := ite_of z
      cases b with
      | true => exact (if_pos rfl).mpr (ih.ts _ _ _ (by (first | lia | omega)) hc.2 _ _ _ (z.1 rfl))
      | false => exact (if_neg Bool.false_ne_true).mpr (z.2 rfl)
    | Or =>
      have h : wpT g c e lo σ fun q σ₁ => if q = true then P true σ₁ else wpTs g c .Or r lo σ₁ P := h
      refine orT_ok ((ih.t _ (by (first | lia | omega)) hc.1 _ _ _ h).mono fun b σ₁ z => ?_)
      have z := ite_of z
      cases b with
      | true => exact (if_pos rfl).mpr (z.1 rfl)
      | false => exact (if_neg Bool.false_ne_true).mpr (ih.ts _ _ _ (by (first | lia | omega)) hc.2 _ _ _ (z.2 rfl))
theorem sound_all (O : c.Ok g) : ∀ n, Sound g c n
  | 0 => ⟨fun _ h => absurd h (Nat.not_lt_zero _), fun _ h => absurd h (Nat.not_lt_zero _), fun _ h => absurd h (Nat.not_lt_zero _), fun _ _ _ h => absurd h (Nat.not_lt_zero _), fun _ _ _ h => absurd h (Nat.not_lt_zero _)⟩
  | n + 1 => ⟨sound_e O (sound_all O n), sound_t O (sound_all O n), sound_es (sound_all O n), sound_b (sound_all O n), sound_ts (sound_all O n)⟩
theorem wpE_ok (O : c.Ok g) {e : Expr} (hc : chkE c.cs.names e = true) {lo : Locals} {σ : Store} {P : AV → Store → Prop} (h : wpE g c e lo σ P) : AE g c e lo σ P := (sound_all O _).e e (Nat.lt_succ_self _) hc lo σ P h
theorem wpT_ok (O : c.Ok g) {e : Expr} (hc : chkE c.cs.names e = true) {lo : Locals} {σ : Store} {P : Bool → Store → Prop} (h : wpT g c e lo σ P) : AT g c e lo σ P := (sound_all O _).t e (Nat.lt_succ_self _) hc lo σ P h
end
/-! text VC11 -/

noncomputable def notComp : Expr → Bool
  | .ListComp .. => false
  | .SetComp .. => false
  | .DictComp .. => false
  | _ => true
noncomputable def notTup : Expr → Bool
  | .Tuple .. => false
  | _ => true
theorem swaps_plain {v : Expr} (h : notComp v = true) (t : Option Expr) (n : Nat) (env : Env) : swapsWith v t n env = pure false := by
  cases v <;> first | rfl | cases h
theorem swapped_plain {v : Expr} (h : notTup v = true) (ts : List Expr) (k : Nat) (tp : Pos) (env : Env) : swappedStores [.Tuple ts k tp] v env = pure none := by
  cases v <;> first | rfl | cases h
theorem folded_plain {e : Expr} (h : notSet e = true) (env : Env) (x : Value) : foldedSetIterable e env x = pure x := by
  cases e <;> first | rfl | cases h
noncomputable def setW (c : Cx) (a b v : AV) (σ : Store) (P : Store → Prop) : Prop :=
  match b with
  | .int _ => setItemW a b v σ P
  | .tup _ => tsetW c.un a b v σ P
  | _ => False
noncomputable def dropped : AV → Bool
  | .ref _ => false
  | .tup _ => false
  | _ => true
noncomputable def iterW (g : G) (a : AV) (σ : Store) (k : (Store → Prop) → List AV → Prop) : Prop :=
  match a with
  | .tup l => k (fun _ => True) l
  | .ref p => ∃ l, listAt g σ (.ref p) l ∧ k (fun σ' => listAt g σ' (.ref p) l) l
  | _ => False

noncomputable def cellNb (ns : List (Str × NameKind)) (x : Str) : Bool := ns.lookup x == some .cell
/-- a cell's name is bound -/
noncomputable def cellW (c : Cx) (x : Str) (a : AV) (lo : Locals) (σ : Store) (K : Locals → Store → Prop) : Prop :=
  ∃ ad old, c.cl.lookup x = some ad ∧ σ ad = some (.cell old) ∧ K lo (σ.set ad (.cell (some a)))
/-- an attribute of an own object is stored -/
noncomputable def setAttrW (g : G) (a : AV) (n : Str) (v : AV) (σ : Store) (P : Store → Prop) : Prop :=
  ∃ x C d l, a = .ref x ∧ σ x = some (.inst C d) ∧ σ d = some (.attrs l) ∧ findIn g.K (.ref C) "__setattr__" = some (some (.builtin "object.__setattr__")) ∧ plainOver g.K C = true ∧ takerIn g.K C n = some none ∧ hasDictIn g.K C = true ∧ l.length < 900 ∧
    P (σ.set d (.attrs ((n, v) :: l)))
mutual
/-- what is seen of the spelling alone; z: the names that live in cells -/
noncomputable def chkZ (z : Str → Bool) (ns : List (Str × NameKind)) : Stmt → Bool
  | .Return (some e) _ => chkE ns e
  | .Assign [.Name x _] v _ => if notComp v then chkE ns v && (if z x = true then cellNb ns x else okNb ns x) else true
  | .Assign [.Tuple ts k p] v _ => if notTup v then notComp v && chkE ns v && chkT ns (.Tuple ts k p) else true
  | .Assign [.Subscript o i _] v _ => notComp v && chkE ns v && chkE ns o && chkE ns i
  | .Assign [.Attribute o _ _] v _ => notComp v && chkE ns v && chkE ns o
  | .AugAssign (.Name x _) _ v _ => chkE ns v && okNb ns x
  | .If t a b _ => chkE ns t && chkZs z ns a && chkZs z ns b
  | .While t body [] _ => chkE ns t && chkZs z ns body
  | .For t (.Call (.Name f _) [e] [] _) body [] _ => f == "range" && callOk ns f [e] && chkE ns e && chkT ns t && chkZs z ns body
  | .For t e body [] _ => notSet e && chkE ns e && chkT ns t && chkZs z ns body
  | .Expr e _ => notComp e && chkE ns e
  | _ => true
noncomputable def chkZs (z : Str → Bool) (ns : List (Str × NameKind)) : List Stmt → Bool
  | [] => true
  | s :: r => chkZ z ns s && chkZs z ns r
end
mutual
noncomputable def wpZ (z : Str → Bool) (g : G) (c : Cx) : Stmt → Locals → Store → (AF → Locals → Store → Prop) → Prop
  | .Return (some e) _, lo, σ, P => wpE g c e lo σ fun v σ₁ => P (.ret v) lo σ₁
  | .Assign [.Name x p] v q, lo, σ, P => if notComp v = true then wpE g c v lo σ fun a σ₁ => if z x = true then cellW c x a lo σ₁ (P .next) else P .next (lo.set x a) σ₁ else AX g c (.Assign [.Name x p] v q) lo σ P
  | .Assign [.Tuple ts k tp] v q, lo, σ, P => if notTup v = true then wpE g c v lo σ fun a σ₁ => assignW (.Tuple ts k tp) a lo fun lo₁ => P .next lo₁ σ₁ else AX g c (.Assign [.Tuple ts k tp] v q) lo σ P
  | .Assign [.Subscript o i _] v _, lo, σ, P => wpE g c v lo σ fun x σ₁ => wpE g c o lo σ₁ fun a σ₂ => wpE g c i lo σ₂ fun b σ₃ => setW c a b x σ₃ fun σ₄ => P .next lo σ₄
  | .Assign [.Attribute o n _] v _, lo, σ, P => wpE g c v lo σ fun x σ₁ => wpE g c o lo σ₁ fun a σ₂ => setAttrW g a n x σ₂ fun σ₄ => P .next lo σ₄
  | .AugAssign (.Name x _) op v _, lo, σ, P => nameW c x lo σ fun a σ₁ => wpE g c v lo σ₁ fun b σ₂ => iopW op a b σ₂ fun r σ₃ => P .next (lo.set x r) σ₃
  | .If t a b _, lo, σ, P => wpT g c t lo σ fun q σ₁ => if q = true then wpZs z g c a lo σ₁ P else wpZs z g c b lo σ₁ P
  | .While t body [] _, lo, σ, P => ∃ n, whileW (fun lo σ Q => wpT g c t lo σ Q) (fun lo σ Q => wpZs z g c body lo σ Q) n lo σ P
  | .For t (.Call (.Name _ _) [e] [] _) body [] _, lo, σ, P => wpE g c e lo σ fun a σ₁ => ∃ n, a = .int n ∧ -(2 ^ 62) ≤ n ∧ n < 2 ^ 62 ∧ forW (assignW t) (fun lo σ Q => wpZs z g c body lo σ Q) (fun _ => True) (rangeL n) lo σ₁ P
  | .For t e body [] _, lo, σ, P => wpE g c e lo σ fun a σ₁ => iterW g a σ₁ fun gd l => forW (assignW t) (fun lo σ Q => wpZs z g c body lo σ Q) gd l lo σ₁ P
  | .Expr e _, lo, σ, P => wpE g c e lo σ fun v σ₁ => dropped v = true ∧ P .next lo σ₁
  | .Break _, lo, σ, P => P .brk lo σ
  | .Continue _, lo, σ, P => P .cont lo σ
  | .Pass _, lo, σ, P => P .next lo σ
  | st, lo, σ, P => AX g c st lo σ P
noncomputable def wpZs (z : Str → Bool) (g : G) (c : Cx) : List Stmt → Locals → Store → (AF → Locals → Store → Prop) → Prop
  | [], lo, σ, P => P .next lo σ
  | s :: r, lo, σ, P => wpZ z g c s lo σ fun f lo₁ σ₁ => match f with
    | .next => wpZs z g c r lo₁ σ₁ P
    | .brk => P .brk lo₁ σ₁
    | .cont => P .cont lo₁ σ₁
    | .ret v => P (.ret v) lo₁ σ₁
end
noncomputable def noZ : Str → Bool := fun _ => false
noncomputable abbrev chkSs (ns : List (Str × NameKind)) (ts : List Stmt) : Bool := chkZs noZ ns ts
noncomputable abbrev wpS (g : G) (c : Cx) := wpZ noZ g c
noncomputable abbrev wpSs (g : G) (c : Cx) := wpZs noZ g c

section
variable {g : G} {c : Cx} {lo : Locals} {σ : Store} {X : Led} {s s' : Shared}
theorem AX.mono {t : Stmt} {P Q : AF → Locals → Store → Prop} (h : AX g c t lo σ P) (k : ∀ f lo' σ', P f lo' σ' → Q f lo' σ') : AX g c t lo σ Q :=
  fun X s S => noE (h X s S) fun _ _ ⟨a, b, d, e, r⟩ => ⟨a, b, d, k _ _ _ e, r⟩
theorem AXs.mono {t : List Stmt} {P Q : AF → Locals → Store → Prop} (h : AXs g c t lo σ P) (k : ∀ f lo' σ', P f lo' σ' → Q f lo' σ') : AXs g c t lo σ Q :=
  fun X s S => noE (h X s S) fun _ _ ⟨a, b, d, e, r⟩ => ⟨a, b, d, k _ _ _ e, r⟩
theorem nil_ok {P : AF → Locals → Store → Prop} (h : P .next lo σ) : AXs g c [] lo σ P := fun _ _ S => wpAny_execs_nil ⟨.next, lo, σ, h, rfl, S, .refl _⟩
theorem cons_ok {t : Stmt} {r : List Stmt} {P : AF → Locals → Store → Prop} (h : AX g c t lo σ fun f lo₁ σ₁ => match f with
    | .next => AXs g c r lo₁ σ₁ P
    | .brk => P .brk lo₁ σ₁
    | .cont => P .cont lo₁ σ₁
    | .ret v => P (.ret v) lo₁ σ₁) : AXs g c (t :: r) lo σ P := by
  intro X s S
  refine wpAny_execs_cons (noE (h X s S) fun f s₁ q => ?_)
  obtain ⟨af, lo₁, σ₁, h₁, rf, S₁, E₁⟩ := q
  cases af with
  | next => cases rf; exact noE (h₁ X s₁ S₁) fun _ s₂ q => q.after E₁
  | brk => cases rf; exact ⟨.brk, lo₁, σ₁, h₁, rfl, S₁, E₁⟩
  | cont => cases rf; exact ⟨.cont, lo₁, σ₁, h₁, rfl, S₁, E₁⟩
  | ret v => obtain ⟨x, rfl, rx⟩ := rf; exact ⟨.ret v, lo₁, σ₁, h₁, ⟨x, rfl, rx⟩, S₁, E₁⟩
theorem return_ok {e : Expr} {pos : Pos} {P : AF → Locals → Store → Prop} (h : AE g c e lo σ fun v σ₁ => P (.ret v) lo σ₁) : AX g c (.Return (some e) pos) lo σ P := by
  intro X s S
  refine wpAny_Return_some (noE (h X s S) fun v s₁ q => ?_)
  obtain ⟨a, σ₁, h₁, r₁, S₁, E₁⟩ := q
  exact ⟨.ret a, lo, σ₁, h₁, ⟨v, rfl, r₁⟩, S₁, E₁⟩
theorem assignN_ok (O : c.Ok g) {x : Str} {p q : Pos} {v : Expr} {P : AF → Locals → Store → Prop} (hv : notComp v = true) (hx : okN c x) (h : AE g c v lo σ fun a σ₁ => P .next (lo.set x a) σ₁) : AX g c (.Assign [.Name x p] v q) lo σ P := by
  intro X s S
  refine wpAny_Assign_Name (noE (h X s S) fun v s₁ q => ?_) (swaps_plain hv _ _ _)
  obtain ⟨a, σ₁, h₁, r₁, S₁, E₁⟩ := q
  exact store_ok O hx S₁ r₁ fun s₂ S₂ E₂ => ⟨.next, _, σ₁, h₁, rfl, S₂, E₁.trans E₂⟩
theorem assignT_ok (O : c.Ok g) {ts : List Expr} {k : Nat} {p q : Pos} {v : Expr} {P : AF → Locals → Store → Prop} (hv : notComp v = true) (ht : notTup v = true) (hc : chkT c.cs.names (.Tuple ts k p) = true)
    (h : AE g c v lo σ fun a σ₁ => assignW (.Tuple ts k p) a lo fun lo₁ => P .next lo₁ σ₁) : AX g c (.Assign [.Tuple ts k p] v q) lo σ P := by
  intro X s S
  refine Assign_Tuple (noE (h X s S) fun v s₁ q => ?_) (by show swapsWith v (some (.Tuple ts k p)) q.line c.env = pure false; exact swaps_plain hv _ _ _) (swapped_plain ht _ _ _ _)
  obtain ⟨a, σ₁, h₁, r₁, S₁, E₁⟩ := q
  refine noE (assignW_ok O hc h₁ S₁ r₁) fun _ s₂ q => ?_
  obtain ⟨lo₂, h₂, S₂, E₂⟩ := q
  exact ⟨.next, lo₂, σ₁, h₂, rfl, S₂, E₁.trans E₂⟩
theorem assignC_ok (O : c.Ok g) {x : Str} {p q : Pos} {v : Expr} {P : AF → Locals → Store → Prop} (hv : notComp v = true) (hx : cellNb c.cs.names x = true) (h : AE g c v lo σ fun a σ₁ => cellW c x a lo σ₁ (P .next)) : AX g c (.Assign [.Name x p] v q) lo σ P := by
  intro X s S
  refine wpAny_Assign_Name (noE (h X s S) fun v s₁ q => ?_) (swaps_plain hv _ _ _)
  obtain ⟨a, σ₁, ⟨ad, old, e1, e2, h₁⟩, r₁, S₁, E₁⟩ := q
  obtain ⟨o, v', q1, q2, _⟩ := (S₁.so _ _ e2).1
  refine wpAny_storeName_cell O.hk (by show c.cs.names.lookup x = some .cell; simpa [cellNb] using hx) e1 ⟨o, q1, q2⟩ fun h' hv hs => ?_
  obtain ⟨S₂, E₂⟩ := S₁.upd (mo' := .cell (some a)) (tk := s₁.toks) e2 hs fun k => by
    obtain ⟨o', d1, d2⟩ := hv
    exact ⟨o', _, d1, d2, _, rfl, r₁.le k⟩
  exact ⟨.next, lo, _, h₁, rfl, S₂, E₁.trans E₂⟩
theorem isStr_str {n x : Str} {tk : Tok} : (Value.str n tk).isStr x = decide (n = x) := by
  by_cases h : n = x
  · subst h; simp [Value.isStr]
  · simp [Value.isStr, h]
theorem isStr_both {k : Value} {n x : Str} (h : k.isStr n = true) (h' : k.isStr x = true) : n = x := by
  cases k <;> simp [Value.isStr] at h h'
  exact h.symm.trans h'
theorem find_putL {n : Str} {hsh : Int} {tk : Tok} {v : Value} (x : Str) : ∀ {es : List DictEntry}, ((putL n hsh (.str n tk) v es).find? (·.key.isStr x)).map (·.val) = if x = n then some v else (es.find? (·.key.isStr x)).map (·.val)
  | [] => by
    by_cases h : x = n
    · subst h; simp [putL, isStr_str]
    · simp [putL, isStr_str, h, Ne.symm h]
  | e :: r => by
    unfold putL
    by_cases hn : e.key.isStr n = true
    · rw [if_pos hn]
      by_cases h : x = n
      · subst h; simp [hn]
      · have : e.key.isStr x = false := by
          cases q : e.key.isStr x with
          | false => rfl
          | true => exact absurd (isStr_both q hn) h
        simp [this, h]
    · rw [if_neg hn]
      have ih := find_putL (n := n) (hsh := hsh) (tk := tk) (v := v) x (es := r)
      cases q : e.key.isStr x with
      | true =>
        have h : x ≠ n := by rintro rfl; exact hn q
        simp [q, h]
      | false => simpa [q] using ih
theorem any_putL {n : Str} {hsh : Int} {tk : Tok} {v : Value} : ∀ {es : List DictEntry}, (putL n hsh (.str n tk) v es).any (·.refKey) = es.any (·.refKey)
  | [] => by simp [putL, DictEntry.refKey]
  | e :: r => by
    unfold putL
    split
    · simp [DictEntry.refKey]
    · simp [any_putL (n := n) (hsh := hsh) (tk := tk) (v := v) (es := r)]
theorem getL_putL {n : Str} {hsh : Int} {tk : Tok} {v : Value} {es : List DictEntry} (x : Str) (h : (getL x es).isSome = true) : getL x (putL n hsh (.str n tk) v es) = if x = n then some (some v) else getL x es := by
  have f := find_putL (n := n) (hsh := hsh) (tk := tk) (v := v) x (es := es)
  have a := any_putL (n := n) (hsh := hsh) (tk := tk) (v := v) (es := es)
  unfold getL at h ⊢
  by_cases q : x = n
  · rw [if_pos q] at f ⊢
    cases z : (putL n hsh (.str n tk) v es).find? (·.key.isStr x) with
    | none => rw [z] at f; cases f
    | some e => rw [z] at f; cases f; rfl
  · rw [if_neg q] at f ⊢
    cases z : (putL n hsh (.str n tk) v es).find? (·.key.isStr x) with
    | none =>
      rw [z] at f
      cases y : es.find? (·.key.isStr x) with
      | none => rw [a]
      | some e => rw [y] at f; cases f
    | some e =>
      rw [z] at f
      cases y : es.find? (·.key.isStr x) with
      | none => rw [y] at f; cases f
      | some e' => rw [y] at f; simp at f; simp [f]
theorem putL_len {n : Str} {hsh : Int} {k v : Value} : ∀ {es : List DictEntry}, (putL n hsh k v es).length ≤ es.length + 1
  | [] => by simp [putL]
  | e :: r => by
    unfold putL
    split
    · simp
    · have := putL_len (n := n) (hsh := hsh) (k := k) (v := v) (es := r)
      simp only [List.length_cons]
      (first | lia | omega)
theorem setAttrW_ok (O : c.Ok g) {a v : AV} {n : Str} {P : Store → Prop} (h : setAttrW g a n v σ P) : ∀ X s x y, St g c lo σ X s → HRel s.heap a x → HRel s.heap v y → wpAny g.M c.A (setAttr x n y) (RetU g c lo X s P) NoE s := by
  intro X s x y S ra rv
  obtain ⟨a', C, d, l, rfl, e1, e2, c1, c2, c3, c4, hlen, p⟩ := h
  simp only [HRel] at ra
  subst ra
  obtain ⟨m, F, hm⟩ := S.fr
  obtain ⟨es, k, q2, r, hes⟩ := (S.so _ _ e2).1
  have q1 := (S.so _ _ e1).1
  have hdn := (S.so _ _ e2).2
  have hr := r n
  have hsome : (getL n es).isSome = true := by
    revert hr
    split
    · rintro ⟨v, e, _⟩; rw [e]; rfl
    · intro e; rw [e]; rfl
  have N : News c.h₀ c.L s.heap ((d, dictOf es k) :: (led c s.heap).filter fun q => q.1 != d) := fun q hq => by
    rcases List.mem_cons.mp hq with rfl | hq
    · exact ⟨q2, hdn⟩
    · exact led_news _ _ (List.mem_filter.mp hq).1
  refine set_dict F O.X N ⟨q1, rfl, rfl, q2⟩ rfl c1 c2 c3 c4 hsome rfl (.head fun q hq => by simpa using (List.mem_filter.mp hq).2) (Nat.le_trans putL_len (by (first | lia | omega))) fun h' F' N' => ?_
  have hd' := (N' _ (.head _)).1
  have keep : ∀ b o, b ≠ c.L → b ≠ d → s.heap.get? b = some o → h'.get? b = some o := by
    intro b o hb hbd e
    cases z : c.h₀.get? b with
    | some o' =>
      have := F.keep _ _ z
      rw [e] at this
      cases this
      exact F'.keep _ _ z
    | none => exact (N' _ (.tail _ (List.mem_filter.mpr ⟨mem_led.mpr ⟨e, hb, z⟩, by simpa using hbd⟩))).1
  have kt : TupLe s.heap h' := fun b vs e => by
    refine keep _ _ ?_ ?_ e
    · rintro rfl
      obtain ⟨o, es', ep, ho, hd, _⟩ := F.ns
      rw [ho] at e
      cases Option.some.inj e
      cases hd
    · rintro rfl
      rw [q2] at e
      have := congrArg (Obj.cls ∘ Option.get!) e
      simp at this
  refine ⟨_, p, ⟨⟨m, F', fun x av e => let ⟨v, e1, e2⟩ := hm x av e; ⟨v, e1, e2.le kt⟩⟩, S.loc, fun b mo q => ?_, fun q hq => ?_⟩, rfl, rfl, rfl, kt⟩
  · unfold Store.set at q
    split at q
    · rename_i e'
      cases q; subst e'
      refine ⟨⟨_, _, hd', fun x => ?_, by simp only [List.length_cons]; exact Nat.le_trans putL_len (by (first | lia | omega))⟩, hdn⟩
      have hx := r x
      have hxs : (getL x es).isSome = true := by
        revert hx
        split
        · rintro ⟨v, e, _⟩; rw [e]; rfl
        · intro e; rw [e]; rfl
      rw [List.lookup_cons, getL_putL x hxs]
      by_cases q : x = n
      · subst q
        rw [beq_self_eq_true, if_pos rfl]
        exact ⟨y, rfl, rv.le kt⟩
      · rw [beq_eq_false_iff_ne.mpr q, if_neg q]
        cases hl : l.lookup x with
        | some av => rw [hl] at hx; obtain ⟨v, e, e'⟩ := hx; exact ⟨v, e, e'.le kt⟩
        | none => rw [hl] at hx; exact hx
    · rename_i hb
      obtain ⟨d1, d2, d3⟩ := S.so b mo q
      obtain ⟨o, ho, _⟩ := d1.alive
      exact ⟨d1.keep kt fun o q => keep _ _ d2 hb q, d2, d3⟩
  · obtain ⟨d1, d2, d3, d4⟩ := S.xs q hq
    have hne : q.1 ≠ d := by rintro rfl; rw [d4] at e2; cases e2
    exact ⟨keep _ _ d2 hne d1, d2, d3, by rw [Store.set_ne hne]; exact d4⟩
theorem assignA_ok (O : c.Ok g) {o v : Expr} {n : Str} {p q : Pos} {P : AF → Locals → Store → Prop} (hv : notComp v = true) (h : AE g c v lo σ fun x σ₁ => AE g c o lo σ₁ fun a σ₂ => setAttrW g a n x σ₂ fun σ₄ => P .next lo σ₄) : AX g c (.Assign [.Attribute o n p] v q) lo σ P := by
  intro X s S
  refine plainObj_wpAny_Assign_Attribute (noE (h X s S) fun v s₁ q => ?_) (swaps_plain hv _ _ _)
  obtain ⟨x, σ₁, h₁, r₁, S₁, E₁⟩ := q
  refine noE (h₁ X s₁ S₁) fun u s₂ q => ?_
  obtain ⟨a, σ₂, h₂, r₂, S₂, E₂⟩ := q
  refine noE (setAttrW_ok O h₂ X s₂ u v S₂ r₂ (r₁.le E₂.tup)) fun _ s₄ q => ?_
  obtain ⟨σ₄, h₄, S₄, E₄⟩ := q
  exact ⟨.next, lo, σ₄, h₄, rfl, S₄, E₁.trans (E₂.trans E₄)⟩
theorem setW_ok {a b d : AV} {P : Store → Prop} (h : setW c a b d σ P) : AU3 g c setItem a b d lo σ P := by
  unfold setW at h
  split at h
  · exact setItemW_ok h
  · exact tsetW_ok h
  · exact h.elim
theorem assignS_ok {o i : Expr} {p q : Pos} {v : Expr} {P : AF → Locals → Store → Prop} (hv : notComp v = true)
    (h : AE g c v lo σ fun x σ₁ => AE g c o lo σ₁ fun a σ₂ => AE g c i lo σ₂ fun b σ₃ => setW c a b x σ₃ fun σ₄ => P .next lo σ₄) : AX g c (.Assign [.Subscript o i p] v q) lo σ P := by
  intro X s S
  refine wpAny_Assign_Subscript (noE (h X s S) fun v s₁ q => ?_) (swaps_plain hv _ _ _)
  obtain ⟨x, σ₁, h₁, r₁, S₁, E₁⟩ := q
  refine noE (h₁ X s₁ S₁) fun u s₂ q => ?_
  obtain ⟨a, σ₂, h₂, r₂, S₂, E₂⟩ := q
  refine noE (h₂ X s₂ S₂) fun y s₃ q => ?_
  obtain ⟨b, σ₃, h₃, r₃, S₃, E₃⟩ := q
  refine noE (setW_ok h₃ X s₃ u y v S₃ (r₂.le E₃.tup) r₃ ((r₁.le E₂.tup).le E₃.tup)) fun _ s₄ q => ?_
  obtain ⟨σ₄, h₄, S₄, E₄⟩ := q
  exact ⟨.next, lo, σ₄, h₄, rfl, S₄, E₁.trans (E₂.trans (E₃.trans E₄))⟩
theorem aug_ok (O : c.Ok g) {x : Str} {p q : Pos} {op : Operator} {v : Expr} {P : AF → Locals → Store → Prop}
    (hx : okN c x) (h : nameW c x lo σ fun a σ₁ => AE g c v lo σ₁ fun b σ₂ => iopW op a b σ₂ fun r σ₃ => P .next (lo.set x r) σ₃) : AX g c (.AugAssign (.Name x p) op v q) lo σ P := by
  intro X s S
  refine wpAny_AugAssign_Name (noE (nameW_load O h S).2 fun v s₁ q => ?_)
  obtain ⟨a, σ₁, h₁, r₁, S₁, E₁⟩ := q
  refine noE (h₁ X s₁ S₁) fun u s₂ q => ?_
  obtain ⟨b, σ₂, h₂, r₂, S₂, E₂⟩ := q
  refine noE (iopW_ok h₂ X s₂ v u S₂ (r₁.le E₂.tup) r₂) fun y s₃ q => ?_
  obtain ⟨r, σ₃, h₃, r₃, S₃, E₃⟩ := q
  exact store_ok O hx S₃ r₃ fun s₄ S₄ E₄ => ⟨.next, _, σ₃, h₃, rfl, S₄, E₁.trans (E₂.trans (E₃.trans E₄))⟩
theorem if_ok {t : Expr} {a b : List Stmt} {pos : Pos} {P : AF → Locals → Store → Prop} (h : AT g c t lo σ fun q σ₁ => if q = true then AXs g c a lo σ₁ P else AXs g c b lo σ₁ P) : AX g c (.If t a b pos) lo σ P := by
  intro X s S
  refine wpAny_If (noE (h X s S) fun q s₁ z => ?_)
  obtain ⟨σ₁, h₁, S₁, E₁⟩ := z
  cases q with
  | false => rw [if_neg (by simp)] at h₁ ⊢; exact noE (h₁ X s₁ S₁) fun _ s₂ q => q.after E₁
  | true => rw [if_pos rfl] at h₁ ⊢; exact noE (h₁ X s₁ S₁) fun _ s₂ q => q.after E₁
theorem forR_ok (O : c.Ok g) {t : Expr} {np cp p : Pos} {e : Expr} {body : List Stmt} {bw : Locals → Store → (AF → Locals → Store → Prop) → Prop} {P : AF → Locals → Store → Prop} (hk : CallOk c "range" [e]) (hc : chkT c.cs.names t = true) (hb : ∀ lo σ Q, bw lo σ Q → AXs g c body lo σ Q)
    (h : AE g c e lo σ fun a σ₁ => ∃ n, a = .int n ∧ -(2 ^ 62) ≤ n ∧ n < 2 ^ 62 ∧ forW (assignW t) bw (fun _ => True) (rangeL n) lo σ₁ P) : AX g c (.For t (.Call (.Name "range" np) [e] [] cp) body [] p) lo σ P := by
  intro X s S
  obtain ⟨m, F, hm⟩ := S.fr
  refine wpAny_For (Call_ (nameX_B F O.X (topRead_of O.T) (O.blt _ (by decide)) PyProof.Rows.Boot.«range» (by decide) ?_ O.hk hk.glob hk.dbg) rfl) (fun _ => rfl)
  refine PyProof.Rows.callWith_type1 (wpAny_items_cons (noE (h X s S) fun v s₁ q => wpAny_items_nil ?_) (starEach_cons hk.star _)) (starEach_cons hk.star _) rfl
  obtain ⟨a, σ₁, ⟨n, rfl, h1, h2, h₁⟩, r₁, S₁, E₁⟩ := q
  simp only [HRel] at r₁
  obtain ⟨tk, rfl⟩ := r₁
  refine call_range_1 ?_
  obtain ⟨S₂, E₂⟩ := S₁.keep (h' := s₁.heap.push { cls := .type "range", data := .fields #[.int 0 s₁.toks, .int n tk, .int 1 (s₁.toks + 1)] }) (tk := s₁.toks + 1 + 1) fun _ _ e => Heap.get?_push_of_some _ e
  refine wpAny_pyIter_range (IsRange.new _ _ _ _ _ _ _) (small_one (by decide) (by decide) h1 h2) ?_
  rw [rangeSize_one, Int.sub_zero]
  obtain ⟨S₃, E₃, hX⟩ := S₂.pushX (tk := s₁.toks + 1 + 1) (o := { cls := .type "range_iterator", data := .fields #[rawInt 0, rawInt (if 0 < n then n else 0), rawInt 1] }) rfl
  refine forLoop_ok O (s₀ := { s₁ with heap := _, toks := _ }) (walk_range (n := n)) hc hb hX h₁ ⟨by simp [rawInt], by split <;> (first | lia | omega)⟩ S₃ (.refl _) fun f s' q => ?_
  exact q.after (E₁.trans (E₂.trans E₃))
theorem forI_ok (O : c.Ok g) {t e : Expr} {p : Pos} {body : List Stmt} {bw : Locals → Store → (AF → Locals → Store → Prop) → Prop} {P : AF → Locals → Store → Prop} (he : notSet e = true) (hc : chkT c.cs.names t = true) (hb : ∀ lo σ Q, bw lo σ Q → AXs g c body lo σ Q)
    (h : AE g c e lo σ fun a σ₁ => iterW g a σ₁ fun gd l => forW (assignW t) bw gd l lo σ₁ P) : AX g c (.For t e body [] p) lo σ P := by
  intro X s S
  refine wpAny_For (noE (h X s S) fun v s₁ q => ?_) (folded_plain he _)
  obtain ⟨a, σ₁, h₁, r₁, S₁, E₁⟩ := q
  unfold iterW at h₁
  split at h₁
  · rename_i l
    simp only [HRel] at r₁
    obtain ⟨tp, vs, rfl, e1, r⟩ := r₁
    refine wpAny_pyIter_tuple ⟨_, e1, rfl, 0, rfl⟩ ?_
    obtain ⟨S₃, E₃, hX⟩ := S₁.pushX (tk := s₁.toks) (o := { cls := .type "tuple_iterator", data := .fields #[.ref tp, .int 0 0] }) rfl
    exact forLoop_ok O (s₀ := { s₁ with heap := _, toks := _ }) (walk_tup (E₃.tup _ _ e1) (r.le E₃.tup)) hc hb hX h₁ ⟨rfl, rfl⟩ S₃ (.refl _) fun f s' q => q.after (E₁.trans E₃)
  · rename_i p
    obtain ⟨l, hl, h₁⟩ := h₁
    simp only [HRel] at r₁
    subst r₁
    obtain ⟨p', vs, hp, hli, r⟩ := listAt_ok O S₁ hl
    cases hp
    refine wpAny_pyIter_list hli ?_
    obtain ⟨S₃, E₃, hX⟩ := S₁.pushX (tk := s₁.toks) (o := { cls := .type "list_iterator", data := .fields #[.ref p, .int 0 0] }) rfl
    exact forLoop_ok O (s₀ := { s₁ with heap := _, toks := _ }) (walk_list O) hc hb hX h₁ ⟨rfl, rfl⟩ S₃ (.refl _) fun f s' q => q.after (E₁.trans E₃)
  · exact h₁.elim
theorem expr_ok (O : c.Ok g) {e : Expr} {p : Pos} {P : AF → Locals → Store → Prop} (he : notComp e = true) (h : AE g c e lo σ fun v σ₁ => dropped v = true ∧ P .next lo σ₁) : AX g c (.Expr e p) lo σ P := by
  intro X s S
  refine wpAny_Expr (noE (h X s S) fun v s₁ q => ?_) ?_ (swaps_plain he _ _ _)
  · obtain ⟨a, σ₁, ⟨hd, h₁⟩, r₁, S₁, E₁⟩ := q
    have fin : RetF g c X s P .next s₁ := ⟨.next, lo, σ₁, h₁, rfl, S₁, E₁⟩
    cases a <;> simp only [HRel, dropped, Bool.false_eq_true] at r₁ hd
    · subst r₁; exact fin
    · subst r₁; exact fin
    · obtain ⟨t, rfl⟩ := r₁; exact fin
    · obtain ⟨t, rfl⟩ := r₁; exact fin
  · show (c.cs.kind == .module && _) = false
    rw [O.hk]; rfl

structure SoundS (z : Str → Bool) (g : G) (c : Cx) (n : Nat) : Prop where
  s : ∀ t, sizeOf t < n → chkZ z c.cs.names t = true → ∀ lo σ P, wpZ z g c t lo σ P → AX g c t lo σ P
  ss : ∀ ts, sizeOf ts < n → chkZs z c.cs.names ts = true → ∀ lo σ P, wpZs z g c ts lo σ P → AXs g c ts lo σ P
theorem iterW_mono {a : AV} {k k' : (Store → Prop) → List AV → Prop} (h : iterW g a σ k) (m : ∀ gd l, k gd l → k' gd l) : iterW g a σ k' := by
  unfold iterW at h ⊢
  split at h
  · exact m _ _ h
  · obtain ⟨l, a, b⟩ := h; exact ⟨l, a, m _ _ b⟩
  · exact h.elim
theorem nameW_mono {x : Str} {P Q : AV → Store → Prop} (h : nameW c x lo σ P) (k : ∀ a σ', P a σ' → Q a σ') : nameW c x lo σ Q := by
  unfold nameW at h ⊢
  split at h
  · exact k _ _ h
  · obtain ⟨a, av, e1, e2, e3, e4, p⟩ := h
    exact ⟨a, av, e1, e2, e3, e4, k _ _ p⟩
/-- a call of one plain argument -/
noncomputable def oneCall : Expr → Bool
  | .Call (.Name _ _) [_] [] _ => true
  | _ => false
theorem for_eq {z : Str → Bool} {t e : Expr} {b : List Stmt} {p : Pos} {P : AF → Locals → Store → Prop} (h : oneCall e = false) : wpZ z g c (.For t e b [] p) lo σ P = (wpE g c e lo σ fun a σ₁ => iterW g a σ₁ fun gd l => forW (assignW t) (fun lo σ Q => wpZs z g c b lo σ Q) gd l lo σ₁ P) ∧
    ∀ ns, chkZ z ns (.For t e b [] p) = (notSet e && chkE ns e && chkT ns t && chkZs z ns b) := by
  cases e with
  | Call f args kws q =>
    cases f with
    | Name x r => rcases args with _ | ⟨a, _ | ⟨a2, args⟩⟩ <;> rcases kws with _ | ⟨kw, kws⟩ <;> first | exact ⟨rfl, fun _ => rfl⟩ | exact Bool.noConfusion h
    | _ => exact ⟨rfl, fun _ => rfl⟩
  | _ => exact ⟨rfl, fun _ => rfl⟩
theorem and4 {a b d e : Bool} (h : (a && b && d && e) = true) : ((a = true ∧ b = true) ∧ d = true) ∧ e = true := ⟨and3 (and2 h).1, (and2 h).2⟩
theorem sound_s (O : c.Ok g) {z : Str → Bool} {n : Nat} (ih : SoundS z g c n) : ∀ t, sizeOf t < n + 1 → chkZ z c.cs.names t = true → ∀ lo σ P, wpZ z g c t lo σ P → AX g c t lo σ P := by
  intro t hn hc lo σ P h
  cases t with
  | Return v pos =>
    cases v with
    | none => exact h
    | some e =>
      have hc : chkE c.cs.names e = true := hc
      have h : wpE g c e lo σ fun v σ₁ => P (.ret v) lo σ₁ := h
      exact return_ok (wpE_ok O hc h)
  | Assign ts v q =>
    rcases ts with _ | ⟨t, _ | ⟨t2, ts⟩⟩
    · exact h
    · cases t with
      | Name x p =>
        by_cases hv : notComp v = true
        · have h : wpE g c v lo σ fun a σ₁ => if z x = true then cellW c x a lo σ₁ (P .next) else P .next (lo.set x a) σ₁ := (if_pos hv).mp (show if notComp v = true then _ else AX g c (.Assign [.Name x p] v q) lo σ P from h)
          have hc : (chkE c.cs.names v && (if z x = true then cellNb c.cs.names x else okNb c.cs.names x)) = true := (congrArg (· = true) (if_pos hv)).mp (show (if notComp v = true then (chkE c.cs.names v && (if z x = true then cellNb c.cs.names x else okNb c.cs.names x)) else true) = true from hc)
          have hc := and2 hc
          by_cases hz : z x = true
          · simp only [hz, if_true] at h hc
            exact assignC_ok O hv hc.2 (wpE_ok O hc.1 h)
          · simp only [hz, if_false] at h hc
            exact assignN_ok O hv (okN.of hc.2) (wpE_ok O hc.1 h)
        · exact (if_neg hv).mp (show if notComp v = true then _ else AX g c (.Assign [.Name x p] v q) lo σ P from h)
      | Tuple ts k tp =>
        by_cases hv : notTup v = true
        · have h : wpE g c v lo σ fun a σ₁ => assignW (.Tuple ts k tp) a lo fun lo₁ => P .next lo₁ σ₁ := (if_pos hv).mp (show if notTup v = true then _ else AX g c (.Assign [.Tuple ts k tp] v q) lo σ P from h)
          have hc : (notComp v && chkE c.cs.names v && chkT c.cs.names (.Tuple ts k tp)) = true := (congrArg (· = true) (if_pos hv)).mp (show (if notTup v = true then (notComp v && chkE c.cs.names v && chkT c.cs.names (.Tuple ts k tp)) else true) = true from hc)
          have hc := and3 hc
          exact assignT_ok O hc.1.1 hv hc.2 (wpE_ok O hc.1.2 h)
        · exact (if_neg hv).mp (show if notTup v = true then _ else AX g c (.Assign [.Tuple ts k tp] v q) lo σ P from h)
      | Subscript o i p =>
        have hc := and4 (a := notComp v) (b := chkE c.cs.names v) (d := chkE c.cs.names o) (e := chkE c.cs.names i) hc
        have h : wpE g c v lo σ fun x σ₁ => wpE g c o lo σ₁ fun a σ₂ => wpE g c i lo σ₂ fun b σ₃ => setW c a b x σ₃ fun σ₄ => P .next lo σ₄ := h
        exact assignS_ok hc.1.1.1 ((wpE_ok O hc.1.1.2 h).mono fun x σ₁ q => (wpE_ok O hc.1.2 q).mono fun a σ₂ q => wpE_ok O hc.2 q)
      | Attribute o nm p =>
        have hc := and3 (a := notComp v) (b := chkE c.cs.names v) (d := chkE c.cs.names o) hc
        have h : wpE g c v lo σ fun x σ₁ => wpE g c o lo σ₁ fun a σ₂ => setAttrW g a nm x σ₂ fun σ₄ => P .next lo σ₄ := h
        exact assignA_ok O hc.1.1 ((wpE_ok O hc.1.2 h).mono fun x σ₁ q => wpE_ok O hc.2 q)
      | _ => exact h
    · cases t <;> exact h
  | AugAssign t op v pos =>
    cases t with
    | Name x p =>
      have hc := and2 (a := chkE c.cs.names v) (b := okNb c.cs.names x) hc
      have h : nameW c x lo σ fun a σ₁ => wpE g c v lo σ₁ fun b σ₂ => iopW op a b σ₂ fun r σ₃ => P .next (lo.set x r) σ₃ := h
      exact aug_ok O (okN.of hc.2) (nameW_mono h fun a σ' q => wpE_ok O hc.1 q)
    | _ => exact h
  | If t a b pos =>
    simp only [Stmt.If.sizeOf_spec] at hn
    have hc := and3 (a := chkE c.cs.names t) (b := chkZs z c.cs.names a) (d := chkZs z c.cs.names b) hc
    have h : wpT g c t lo σ fun q σ₁ => if q = true then wpZs z g c a lo σ₁ P else wpZs z g c b lo σ₁ P := h
    refine if_ok ((wpT_ok O hc.1.1 h).mono fun q σ₁ y => ?_)
    have y := ite_of y
    cases q with
    | true => exact (if_pos rfl).mpr (ih.ss _ (by (first | lia | omega)) hc.1.2 _ _ _ (y.1 rfl))
    | false => exact (if_neg Bool.false_ne_true).mpr (ih.ss _ (by (first | lia | omega)) hc.2 _ _ _ (y.2 rfl))
  | While t body orelse pos =>
    rcases orelse with _ | ⟨s, orelse⟩
    · simp only [Stmt.While.sizeOf_spec] at hn
      have hc := and2 (a := chkE c.cs.names t) (b := chkZs z c.cs.names body) hc
      have h : ∃ n, whileW (fun lo σ Q => wpT g c t lo σ Q) (fun lo σ Q => wpZs z g c body lo σ Q) n lo σ P := h
      obtain ⟨k, h⟩ := h
      exact while_ok (fun _ _ _ q => wpT_ok O hc.1 q) (fun _ _ _ q => ih.ss _ (by (first | lia | omega)) hc.2 _ _ _ q) h
    · exact h
  | For t e body orelse pos =>
    rcases orelse with _ | ⟨s, orelse⟩
    · simp only [Stmt.For.sizeOf_spec] at hn
      by_cases ho : oneCall e = true
      · cases e with
        | Call f args kws q =>
          cases f with
          | Name x r =>
            rcases args with _ | ⟨a, _ | ⟨a2, args⟩⟩
            · exact Bool.noConfusion ho
            · rcases kws with _ | ⟨kw, kws⟩
              · have hc := and4 (a := x == "range" && callOk c.cs.names x [a]) (b := chkE c.cs.names a) (d := chkT c.cs.names t) (e := chkZs z c.cs.names body) hc
                obtain ⟨⟨⟨h0, he⟩, ht⟩, hb⟩ := hc
                have h0 := and2 h0
                obtain rfl := beq_iff_eq.mp h0.1
                have h : wpE g c a lo σ fun a σ₁ => ∃ n, a = .int n ∧ -(2 ^ 62) ≤ n ∧ n < 2 ^ 62 ∧ forW (assignW t) (fun lo σ Q => wpZs z g c body lo σ Q) (fun _ => True) (rangeL n) lo σ₁ P := h
                exact forR_ok O (CallOk.of h0.2) ht (fun _ _ _ q => ih.ss _ (by (first | lia | omega)) hb _ _ _ q) (wpE_ok O he h)
              · exact Bool.noConfusion ho
            · exact Bool.noConfusion ho
          | _ => exact Bool.noConfusion ho
        | _ => exact Bool.noConfusion ho
      · have k := for_eq (g := g) (c := c) (lo := lo) (σ := σ) (z := z) (t := t) (b := body) (p := pos) (P := P) (Bool.not_eq_true _ ▸ ho)
        rw [k.2] at hc
        rw [k.1] at h
        have hc' := and4 hc
        exact forI_ok O hc'.1.1.1 hc'.1.2 (fun _ _ _ q => ih.ss _ (by (first | lia | omega)) hc'.2 _ _ _ q) (wpE_ok O hc'.1.1.2 h)
    · cases e with
      | Call f args kws q =>
        cases f with
        | Name x r => rcases args with _ | ⟨a, _ | ⟨a2, args⟩⟩ <;> rcases kws with _ | ⟨kw, kws⟩ <;> exact h
        | _ => exact h
      | _ => exact h
  | Expr e pos =>
    have hc := and2 (a := notComp e) (b := chkE c.cs.names e) hc
    have h : wpE g c e lo σ fun v σ₁ => dropped v = true ∧ P .next lo σ₁ := h
    exact expr_ok O hc.1 (wpE_ok O hc.2 h)
  | Break pos => exact fun X s S => wpAny_Break ⟨.brk, lo, σ, h, rfl, S, .refl _⟩
  | Continue pos => exact fun X s S => wpAny_Continue ⟨.cont, lo, σ, h, rfl, S, .refl _⟩
  | Pass pos => exact fun X s S => wpAny_Pass ⟨.next, lo, σ, h, rfl, S, .refl _⟩
  | _ => exact h
theorem sound_ss {z : Str → Bool} {n : Nat} (ih : SoundS z g c n) : ∀ ts, sizeOf ts < n + 1 → chkZs z c.cs.names ts = true → ∀ lo σ P, wpZs z g c ts lo σ P → AXs g c ts lo σ P := by
  intro ts hn hc lo σ P h
  cases ts with
  | nil => exact nil_ok h
  | cons t r =>
    simp only [List.cons.sizeOf_spec] at hn
    have hc := and2 (a := chkZ z c.cs.names t) (b := chkZs z c.cs.names r) hc
    have h : wpZ z g c t lo σ fun f lo₁ σ₁ => match f with
      | .next => wpZs z g c r lo₁ σ₁ P
      | .brk => P .brk lo₁ σ₁
      | .cont => P .cont lo₁ σ₁
      | .ret v => P (.ret v) lo₁ σ₁ := h
    refine cons_ok ((ih.s _ (by (first | lia | omega)) hc.1 _ _ _ h).mono fun f lo' σ' q => ?_)
    cases f with
    | next => exact ih.ss _ (by (first | lia | omega)) hc.2 _ _ _ q
    | brk => exact q
    | cont => exact q
    | ret v => exact q
theorem sound_sall (O : c.Ok g) (z : Str → Bool) : ∀ n, SoundS z g c n
  | 0 => ⟨fun _ h => absurd h (Nat.not_lt_zero _), fun _ h => absurd h (Nat.not_lt_zero _)⟩
  | n + 1 => ⟨sound_s O (sound_sall O z n), sound_ss (sound_sall O z n)⟩
theorem wpZs_ok (O : c.Ok g) {z : Str → Bool} {ts : List Stmt} (hc : chkZs z c.cs.names ts = true) {lo : Locals} {σ : Store} {P : AF → Locals → Store → Prop} (h : wpZs z g c ts lo σ P) : AXs g c ts lo σ P := (sound_sall O z _).ss ts (Nat.lt_succ_self _) hc lo σ P h
theorem wpSs_ok (O : c.Ok g) {ts : List Stmt} (hc : chkSs c.cs.names ts = true) {lo : Locals} {σ : Store} {P : AF → Locals → Store → Prop} (h : wpSs g c ts lo σ P) : AXs g c ts lo σ P := wpZs_ok O hc h
end
/-! text VC12 -/

noncomputable def argsL (xs : List Str) (as : List AV) : Locals := fun y => (xs.zip as).lookup y
noncomputable def retV : AF → Option AV
  | .ret v => some v
  | .next => some .none
  | _ => none
/-- the outcome of a body, for the caller: a part of the store may be forgotten -/
noncomputable def Back (P : AV → Store → Prop) (f : AF) (_ : Locals) (σ' : Store) : Prop :=
  ∃ av σ'', retV f = some av ∧ (∀ a mo, σ'' a = some mo → σ' a = some mo) ∧ P av σ''

theorem lookup_zip {h : Heap} : ∀ {xs : List Str} {as : List AV} {vs : List Value} {y : Str} {av : AV}, HRels h as vs → (xs.zip as).lookup y = some av → ∃ v, (y, v) ∈ xs.zip vs ∧ HRel h av v
  | [], _, _, _, _, _, e => by simp at e
  | _ :: _, [], _, _, _, _, e => by simp at e
  | x :: xs, a :: as, vs, y, av, r, e => by
    simp only [HRels] at r
    obtain ⟨v, ws, rfl, r1, r2⟩ := r
    rw [List.zip_cons_cons, List.lookup_cons] at e
    split at e
    · rename_i q
      cases e
      exact ⟨v, by rw [eq_of_beq q]; exact List.mem_cons_self, r1⟩
    · obtain ⟨u, e1, e2⟩ := lookup_zip r2 e
      exact ⟨u, List.mem_cons_of_mem _ e1, e2⟩
theorem zip_keys : ∀ {xs : List Str} {vs : List Value}, ((xs.zip vs).map (·.1)).Sublist xs
  | [], _ => by simp
  | _ :: _, [] => by simp
  | x :: xs, v :: vs => by
    rw [List.zip_cons_cons, List.map_cons]
    exact (zip_keys (xs := xs) (vs := vs)).cons_cons x
theorem look_nodup : ∀ {l : List (Str × Value)} {n : Str} {v : Value}, (l.map (·.1)).Nodup → (n, v) ∈ l → l.lookup n = some v
  | [], _, _, _, h => nomatch h
  | (n', v') :: r, n, v, hn, h => by
    rw [List.map_cons, List.nodup_cons] at hn
    rw [List.lookup_cons]
    rcases List.mem_cons.mp h with e | h
    · cases e; rw [beq_self_eq_true]
    · have q : (n == n') = false := beq_eq_false_iff_ne.mpr fun z => hn.1 (z ▸ List.mem_map.mpr ⟨_, h, rfl⟩)
      rw [q]
      exact look_nodup hn.2 h
theorem rv_of {h : Heap} {af : AF} {fl : Flow} {av : AV} (rf : FRel h af fl) (e1 : retV af = some av) : HRel h av (match (generalizing := false) fl with | .ret v => v | _ => .none) := by
  cases af with
  | next => cases rf; cases e1; simp only [HRel]
  | brk => cases e1
  | cont => cases e1
  | ret v => obtain ⟨x, rfl, rx⟩ := rf; cases e1; exact rx
theorem binds_look {xs : List Str} {vs : List Value} (hn : xs.Nodup) {y : Str} {v : Value} (h : (y, v) ∈ xs.zip vs) : (xs.zip vs).reverse.lookup y = some v := by
  refine look_nodup ?_ (List.mem_reverse.mpr h)
  rw [List.map_reverse]
  exact (List.reverse_perm _).nodup_iff.mpr (hn.sublist zip_keys)
theorem lookup_key {xs : List Str} {as : List AV} {y : Str} {av : AV} (e : (xs.zip as).lookup y = some av) : y ∈ xs := by
  induction xs generalizing as with
  | nil => simp at e
  | cons x xs ih =>
    cases as with
    | nil => simp at e
    | cons a as =>
      rw [List.zip_cons_cons, List.lookup_cons] at e
      split at e
      · rename_i q; rw [eq_of_beq q]; exact List.mem_cons_self
      · exact List.mem_cons_of_mem _ (ih e)

section
variable {g : G} {c : Cx} {lo : Locals} {σ : Store} {X : Led} {s s' : Shared}

/-- what a callee finds -/
theorem enter_tup {g' : Heap} {L' : Addr} {h₁ : Heap} {m : Str → Option Value} {bm : Str → Option Value} (F : Fr c.h₀ c.L s.heap m) (FG : Fr c.h₀ c.L g' m) (F' : Fr g' L' h₁ bm) (N' : News g' L' h₁ (led c s.heap)) : TupLe s.heap h₁ := by
  intro a vs e
  cases q : c.h₀.get? a with
  | some o =>
    have := F.keep _ _ q
    rw [e] at this
    cases this
    exact F'.keep _ _ (FG.keep _ _ q)
  | none =>
    have hL : a ≠ c.L := by
      rintro rfl
      obtain ⟨o, es, ep, ho, hd, _⟩ := F.ns
      rw [ho] at e
      cases Option.some.inj e
      cases hd
    exact (N' _ (mem_led.mpr ⟨e, hL, q⟩)).1
theorem enter_at {g' : Heap} {L' : Addr} {h₁ : Heap} {a : Addr} {o : Obj} (N' : News g' L' h₁ (led c s.heap)) (h : s.heap.get? a = some o) (h1 : a ≠ c.L) (h2 : c.h₀.get? a = none) : h₁.get? a = some o ∧ a ≠ L' ∧ g'.get? a = none :=
  N' _ (mem_led.mpr ⟨h, h1, h2⟩)

/-- a call, as the machine's own step -/
noncomputable def CallC (g : G) (dp un : Nat) (f : Value) (as : List AV) (σ : Store) (P : AV → Store → Prop) : Prop :=
  ∀ (c : Cx), c.Ok g → c.dp = dp → c.un = un → ∀ lo X s vs, St g c lo σ X s → HRels s.heap as vs →
    codeAny g.M c.A (.call f ⟨vs, []⟩) (fun r s' => match r with | .ok (.ret v) => Ret g c lo X s P v s' | .ok _ => False | .error e => NoE e s') s
theorem CallC.p {dp un : Nat} {f : Value} {as : List AV} {P : AV → Store → Prop} (h : CallC g dp un f as σ P) : CallP g dp un f as σ P :=
  fun c O h1 h2 lo X s vs S r => wpAny_call (h c O h1 h2 lo X s vs S r)
theorem CallC.def {dp un : Nat} {fa : Addr} {as : List AV} {P : AV → Store → Prop} {name qual : Str} {params : Arguments} {body : List Stmt} {scope : Scope} {dV kV doc pm cdv ct oc : Value} {an od : Option Addr} {osl : Array (Option Value)}
    (ho : g.K.lookup fa = some ⟨oc, od, .func (fnOf name qual params body scope dV kV doc pm an cdv ct), osl⟩) (hcd : codeIn g.K cdv qual = true) (hroom : dp < recursionLimit)
    (xs : List Str) (ex : List AV)
    (hbind : ∀ (s : Shared) vs, g.K.In s.heap → vs.length = as.length → ∃ ev, (∀ h, HRels h ex ev) ∧ BindsTo s (fnOf name qual params body scope dV kV doc pm an cdv ct) ⟨vs, []⟩ (xs.zip (vs ++ ev)))
    (hnd : xs.Nodup) (hloc : ∀ x ∈ xs, scope.names.lookup x = some .local ∧ (x == ("__debug__" : Str)) = false)
    (hco : scope.isCoroutine = false) (hgen : scope.isGenerator = false) (hk : scope.kind = .function) (hcell : ∀ x ∈ scope.names, x.2 ≠ .cell)
    (hchk : chkSs scope.names body = true)
    (h : ∀ c' : Cx, c'.Ok g → c'.dp = dp + 1 → c'.un = un + 3 → c'.cs = scope → wpSs g c' body (argsL xs (as ++ ex)) σ (Back P)) :
    CallC g dp un (.ref fa) as σ P := by
  intro c O hdp hun lo X s vs S r
  subst hdp hun
  obtain ⟨m, F, hm⟩ := S.fr
  obtain ⟨ev, hev, hb⟩ := hbind s vs (S.kin O) r.length
  refine (code_def (A := c.A) (env := c.env) O.B F O.X (led_news s.heap) O.T rfl rfl O.hk ho hcd hroom hb (fun y hy => (hloc y.1 (List.of_mem_zip hy).1).1) (fun g' L' h₁ FG F' N' B' X' T' => ?_) hco hgen hk hcell)
  let c' : Cx := { A₀ := c.A, base := c.base, h₀ := g', outer := c.env :: c.outer, L := L', cn := qual, cs := scope, a := fa, ccd := cdv, cl := [], dp := c.dp + 1, un := c.un + 3, gd := c.gd }
  have O' : c'.Ok g := ⟨B', X', T', hk, fun a l e => by
    obtain ⟨vs, hl, hi⟩ := O.fz a l e
    exact ⟨vs, hl.at fun o q => FG.keep _ _ q, hi⟩, hgen, hco, O.tree, O.imp, O.blt, O.fns⟩
  have kt := enter_tup F FG F' N'
  have S₁ : St g c' (argsL xs (as ++ ex)) σ X { s with heap := h₁, toks := s.toks + (xs.zip (vs ++ ev)).length } := by
    refine ⟨⟨_, F', fun x av e => ?_⟩, fun x av e => hloc x (lookup_key e), fun a mo e => ?_, fun q hq => ?_⟩
    · obtain ⟨v, e1, e2⟩ := lookup_zip ((r.append (hev s.heap)).le kt) e
      exact ⟨v, binds_look hnd e1, e2⟩
    · obtain ⟨e1, e2, e3⟩ := S.so a mo e
      obtain ⟨o, ha, _⟩ := e1.alive
      obtain ⟨b1, b2, b3⟩ := enter_at N' ha e2 e3
      exact ⟨e1.keep kt fun o' q => by rw [ha] at q; cases q; exact b1, b2, b3⟩
    · obtain ⟨e1, e2, e3, e4⟩ := S.xs q hq
      obtain ⟨b1, b2, b3⟩ := enter_at N' e1 e2 e3
      exact ⟨b1, b2, b3, e4⟩
  refine noE (wpSs_ok O' hchk (h c' O' rfl rfl rfl) X _ S₁) fun fl s' q => ?_
  obtain ⟨af, lo', σ', ⟨av, σ'', e1, e2, p⟩, rf, S', E'⟩ := q
  obtain ⟨m', Fm, _⟩ := S'.fr
  have kt' : TupLe s.heap s'.heap := kt.trans E'.tup
  refine ⟨L', m', led c' s'.heap, Fm, led_news (c := c') s'.heap, fun FF NN => ?_⟩
  refine ⟨av, σ'', p, rv_of rf e1, ⟨⟨m, FF, fun x av e => let ⟨v, e1, e2⟩ := hm x av e; ⟨v, e1, e2.le kt'⟩⟩, S.loc, fun a mo e => ?_, fun q hq => ?_⟩, ⟨E'.gens, E'.drawn, E'.os, kt'⟩⟩
  · obtain ⟨b1, b2, b3⟩ := S'.so a mo (e2 a mo e)
    obtain ⟨o, ha, _⟩ := b1.alive
    obtain ⟨_, d2, d3⟩ := NN _ (mem_led.mpr ⟨ha, b2, b3⟩)
    exact ⟨b1, d2, d3⟩
  · obtain ⟨b1, b2, b3, b4⟩ := S'.xs q hq
    obtain ⟨_, d2, d3⟩ := NN _ (mem_led (c := c') (a := q.1) (o := q.2) |>.mpr ⟨b1, b2, b3⟩)
    refine ⟨b1, d2, d3, ?_⟩
    cases z : σ'' q.1 with
    | none => rfl
    | some mo => rw [e2 _ _ z] at b4; cases b4
theorem CallP.def {dp un : Nat} {fa : Addr} {as : List AV} {P : AV → Store → Prop} {name qual : Str} {params : Arguments} {body : List Stmt} {scope : Scope} {dV kV doc pm cdv ct oc : Value} {an od : Option Addr} {osl : Array (Option Value)}
    (ho : g.K.lookup fa = some ⟨oc, od, .func (fnOf name qual params body scope dV kV doc pm an cdv ct), osl⟩) (hcd : codeIn g.K cdv qual = true) (hroom : dp < recursionLimit)
    (xs : List Str) (ex : List AV)
    (hbind : ∀ (s : Shared) vs, g.K.In s.heap → vs.length = as.length → ∃ ev, (∀ h, HRels h ex ev) ∧ BindsTo s (fnOf name qual params body scope dV kV doc pm an cdv ct) ⟨vs, []⟩ (xs.zip (vs ++ ev)))
    (hnd : xs.Nodup) (hloc : ∀ x ∈ xs, scope.names.lookup x = some .local ∧ (x == ("__debug__" : Str)) = false)
    (hco : scope.isCoroutine = false) (hgen : scope.isGenerator = false) (hk : scope.kind = .function) (hcell : ∀ x ∈ scope.names, x.2 ≠ .cell)
    (hchk : chkSs scope.names body = true)
    (h : ∀ c' : Cx, c'.Ok g → c'.dp = dp + 1 → c'.un = un + 3 → c'.cs = scope → wpSs g c' body (argsL xs (as ++ ex)) σ (Back P)) :
    CallP g dp un (.ref fa) as σ P :=
  (CallC.def ho hcd hroom xs ex hbind hnd hloc hco hgen hk hcell hchk h).p
end
/-! text VC13 -/

/-! ### the generator's equations, piece by piece -/
section
variable {g : G} {c : Cx} {lo : Locals} {σ : Store} {P : AV → Store → Prop} {R : AF → Locals → Store → Prop} {B : Bool → Store → Prop}
theorem name_set {x y : Str} {v : AV} : nameW c x (lo.set y v) σ P = if x = y then P v σ else nameW c x lo σ P := by
  unfold nameW Locals.set
  by_cases h : x = y
  · rw [if_pos h, if_pos h]
  · rw [if_neg h, if_neg h]
theorem argsL_cons {y x : Str} {xs : List Str} {a : AV} {as : List AV} : argsL (x :: xs) (a :: as) y = if y = x then some a else argsL xs as y := by
  unfold argsL
  rw [List.zip_cons_cons, List.lookup_cons]
  by_cases h : y = x
  · rw [if_pos h, beq_iff_eq.mpr h]
  · rw [if_neg h, beq_eq_false_iff_ne.mpr h]
theorem name_args {x y : Str} {ys : List Str} {v : AV} {vs : List AV} : nameW c x (argsL (y :: ys) (v :: vs)) σ P = if x = y then P v σ else nameW c x (argsL ys vs) σ P := by
  unfold nameW
  rw [argsL_cons]
  by_cases h : x = y
  · rw [if_pos h, if_pos h]
  · rw [if_neg h, if_neg h]
theorem name_loc {x : Str} {v : AV} (h : lo x = some v) : nameW c x lo σ P = P v σ := by unfold nameW; rw [h]

theorem e_int {i : Int} {n : Nat} {pos : Pos} : wpE g c (.Constant (.int i) n pos) lo σ P = P (.int i) σ := rfl
theorem e_str {i : Str} {n : Nat} {pos : Pos} : wpE g c (.Constant (.str i) n pos) lo σ P = P (.str i) σ := rfl
theorem e_none {n : Nat} {pos : Pos} : wpE g c (.Constant .none n pos) lo σ P = P .none σ := rfl
theorem e_bool {b : Bool} {n : Nat} {pos : Pos} : wpE g c (.Constant (.bool b) n pos) lo σ P = P (.bool b) σ := rfl
theorem e_name {x : Str} {pos : Pos} : wpE g c (.Name x pos) lo σ P = nameW c x lo σ P := rfl
/-! what is left to be done, as words without binders -/
noncomputable def kBin2 (dp : Nat) (op : Operator) (a : AV) (P : AV → Store → Prop) (b : AV) (σ : Store) : Prop := binW dp op a b σ P
noncomputable def kBin1 (g : G) (c : Cx) (r : Expr) (op : Operator) (lo : Locals) (P : AV → Store → Prop) (a : AV) (σ : Store) : Prop := wpE g c r lo σ (kBin2 c.dp op a P)
noncomputable def kUn (op : UnaryOp) (P : AV → Store → Prop) (a : AV) (σ : Store) : Prop := unW op a σ P
noncomputable def kB (P : AV → Store → Prop) (σ : Store) (q : Bool) : Prop := P (.bool q) σ
noncomputable def kCmp2 (un : Nat) (op : CmpOp) (a : AV) (P : AV → Store → Prop) (b : AV) (σ : Store) : Prop := cmpW un op a b σ (kB P σ)
noncomputable def kCmp1 (g : G) (c : Cx) (r : Expr) (op : CmpOp) (lo : Locals) (P : AV → Store → Prop) (a : AV) (σ : Store) : Prop := wpE g c r lo σ (kCmp2 c.un op a P)
noncomputable def kIf (g : G) (c : Cx) (a b : Expr) (lo : Locals) (P : AV → Store → Prop) (q : Bool) (σ : Store) : Prop := if q = true then wpE g c a lo σ P else wpE g c b lo σ P
noncomputable def kList (P : AV → Store → Prop) (as : List AV) (σ : Store) : Prop := as.length ≤ sizeLine ∧ ∀ d, σ d = none → P (.ref d) (σ.set d (.list as))
noncomputable def kTup (P : AV → Store → Prop) (as : List AV) (σ : Store) : Prop := as.length ≤ sizeLine ∧ P (.tup as) σ
noncomputable def kUp2 (g : G) (a : AV) (P : AV → Store → Prop) (b : AV) (σ : Store) : Prop := uptoW g a b σ P
noncomputable def kUp1 (g : G) (c : Cx) (r : Expr) (lo : Locals) (P : AV → Store → Prop) (a : AV) (σ : Store) : Prop := wpE g c r lo σ (kUp2 g a P)
noncomputable def kFr2 (g : G) (a : AV) (P : AV → Store → Prop) (b : AV) (σ : Store) : Prop := fromW g a b σ P
noncomputable def kFr1 (g : G) (c : Cx) (r : Expr) (lo : Locals) (P : AV → Store → Prop) (a : AV) (σ : Store) : Prop := wpE g c r lo σ (kFr2 g a P)
noncomputable def kIt2 (a : AV) (P : AV → Store → Prop) (b : AV) (σ : Store) : Prop := itemW a b σ P
noncomputable def kIt1 (g : G) (c : Cx) (r : Expr) (lo : Locals) (P : AV → Store → Prop) (a : AV) (σ : Store) : Prop := wpE g c r lo σ (kIt2 a P)
noncomputable def kAt (g : G) (n : Str) (P : AV → Store → Prop) (a : AV) (σ : Store) : Prop := attrW g a n σ P
noncomputable def kCall (g : G) (c : Cx) (f : Str) (P : AV → Store → Prop) (as : List AV) (σ : Store) : Prop := callW g c f as σ P
noncomputable def kM2 (g : G) (c : Cx) (m : MK) (P : AV → Store → Prop) (as : List AV) (σ : Store) : Prop := methW g c m as σ P
noncomputable def kM1 (g : G) (c : Cx) (args : List Expr) (lo : Locals) (σ : Store) (P : AV → Store → Prop) (m : MK) : Prop := wpEs g c args lo σ (kM2 g c m P)
noncomputable def kM0 (g : G) (c : Cx) (n : Str) (args : List Expr) (lo : Locals) (P : AV → Store → Prop) (a : AV) (σ : Store) : Prop := methK g a n σ (kM1 g c args lo σ P)
noncomputable def tNot (B : Bool → Store → Prop) (b : Bool) (σ : Store) : Prop := B (!b) σ
noncomputable def tB (B : Bool → Store → Prop) (σ : Store) (q : Bool) : Prop := B q σ
noncomputable def tCmp2 (un : Nat) (op : CmpOp) (a : AV) (B : Bool → Store → Prop) (b : AV) (σ : Store) : Prop := cmpW un op a b σ (tB B σ)
noncomputable def tCmp1 (g : G) (c : Cx) (r : Expr) (op : CmpOp) (lo : Locals) (B : Bool → Store → Prop) (a : AV) (σ : Store) : Prop := wpE g c r lo σ (tCmp2 c.un op a B)
noncomputable def tTr (B : Bool → Store → Prop) (a : AV) (σ : Store) : Prop := truthW a σ (tB B σ)
noncomputable def tBin2 (dp : Nat) (op : Operator) (a : AV) (B : Bool → Store → Prop) (b : AV) (σ : Store) : Prop := binW dp op a b σ (tTr B)
noncomputable def tBin1 (g : G) (c : Cx) (r : Expr) (op : Operator) (lo : Locals) (B : Bool → Store → Prop) (a : AV) (σ : Store) : Prop := wpE g c r lo σ (tBin2 c.dp op a B)
noncomputable def tCall (g : G) (c : Cx) (f : Str) (B : Bool → Store → Prop) (as : List AV) (σ : Store) : Prop := callW g c f as σ (tTr B)
noncomputable def kEs2 (a : AV) (Q : List AV → Store → Prop) (as : List AV) (σ : Store) : Prop := Q (a :: as) σ
noncomputable def kEs1 (g : G) (c : Cx) (r : List Expr) (lo : Locals) (Q : List AV → Store → Prop) (a : AV) (σ : Store) : Prop := wpEs g c r lo σ (kEs2 a Q)
noncomputable def kAnd2 (g : G) (c : Cx) (es : List Expr) (lo : Locals) (P : AV → Store → Prop) (a : AV) (σ : Store) (q : Bool) : Prop := if q = true then wpBool g c .And es lo σ P else P a σ
noncomputable def kAnd1 (g : G) (c : Cx) (es : List Expr) (lo : Locals) (P : AV → Store → Prop) (a : AV) (σ : Store) : Prop := truthW a σ (kAnd2 g c es lo P a σ)
noncomputable def kOr2 (g : G) (c : Cx) (es : List Expr) (lo : Locals) (P : AV → Store → Prop) (a : AV) (σ : Store) (q : Bool) : Prop := if q = true then P a σ else wpBool g c .Or es lo σ P
noncomputable def kOr1 (g : G) (c : Cx) (es : List Expr) (lo : Locals) (P : AV → Store → Prop) (a : AV) (σ : Store) : Prop := truthW a σ (kOr2 g c es lo P a σ)
noncomputable def tAnd (g : G) (c : Cx) (es : List Expr) (lo : Locals) (B : Bool → Store → Prop) (q : Bool) (σ : Store) : Prop := if q = true then wpTs g c .And es lo σ B else B false σ
noncomputable def tOr (g : G) (c : Cx) (es : List Expr) (lo : Locals) (B : Bool → Store → Prop) (q : Bool) (σ : Store) : Prop := if q = true then B true σ else wpTs g c .Or es lo σ B
noncomputable def qNot (Q : Bool → Prop) (q : Bool) : Prop := Q (!q)
noncomputable def xRet (lo : Locals) (R : AF → Locals → Store → Prop) (v : AV) (σ : Store) : Prop := R (.ret v) lo σ
noncomputable def xAsg (x : Str) (lo : Locals) (R : AF → Locals → Store → Prop) (v : AV) (σ : Store) : Prop := R .next (lo.set x v) σ
noncomputable def xAsC (c : Cx) (x : Str) (lo : Locals) (R : AF → Locals → Store → Prop) (v : AV) (σ : Store) : Prop := cellW c x v lo σ (R .next)
noncomputable def xNx (R : AF → Locals → Store → Prop) (σ : Store) (lo : Locals) : Prop := R .next lo σ
noncomputable def xAsT (t : Expr) (lo : Locals) (R : AF → Locals → Store → Prop) (v : AV) (σ : Store) : Prop := assignW t v lo (xNx R σ)
noncomputable def xS4 (lo : Locals) (R : AF → Locals → Store → Prop) (σ : Store) : Prop := R .next lo σ
noncomputable def xS3 (c : Cx) (a x : AV) (lo : Locals) (R : AF → Locals → Store → Prop) (b : AV) (σ : Store) : Prop := setW c a b x σ (xS4 lo R)
noncomputable def xS2 (g : G) (c : Cx) (i : Expr) (x : AV) (lo : Locals) (R : AF → Locals → Store → Prop) (a : AV) (σ : Store) : Prop := wpE g c i lo σ (xS3 c a x lo R)
noncomputable def xS1 (g : G) (c : Cx) (o i : Expr) (lo : Locals) (R : AF → Locals → Store → Prop) (x : AV) (σ : Store) : Prop := wpE g c o lo σ (xS2 g c i x lo R)
noncomputable def xA2 (g : G) (n : Str) (x : AV) (lo : Locals) (R : AF → Locals → Store → Prop) (a : AV) (σ : Store) : Prop := setAttrW g a n x σ (xS4 lo R)
noncomputable def xA1 (g : G) (c : Cx) (o : Expr) (n : Str) (lo : Locals) (R : AF → Locals → Store → Prop) (x : AV) (σ : Store) : Prop := wpE g c o lo σ (xA2 g n x lo R)
noncomputable def xG2 (op : Operator) (a : AV) (x : Str) (lo : Locals) (R : AF → Locals → Store → Prop) (b : AV) (σ : Store) : Prop := iopW op a b σ (xAsg x lo R)
noncomputable def xG1 (g : G) (c : Cx) (v : Expr) (op : Operator) (x : Str) (lo : Locals) (R : AF → Locals → Store → Prop) (a : AV) (σ : Store) : Prop := wpE g c v lo σ (xG2 op a x lo R)
noncomputable def xIf (z : Str → Bool) (g : G) (c : Cx) (a b : List Stmt) (lo : Locals) (R : AF → Locals → Store → Prop) (q : Bool) (σ : Store) : Prop := if q = true then wpZs z g c a lo σ R else wpZs z g c b lo σ R
noncomputable def tstW (g : G) (c : Cx) (t : Expr) (lo : Locals) (σ : Store) (Q : Bool → Store → Prop) : Prop := wpT g c t lo σ Q
noncomputable def bodZ (z : Str → Bool) (g : G) (c : Cx) (b : List Stmt) (lo : Locals) (σ : Store) (Q : AF → Locals → Store → Prop) : Prop := wpZs z g c b lo σ Q
noncomputable def noGd (_ : Store) : Prop := True
noncomputable def xFR (z : Str → Bool) (g : G) (c : Cx) (t : Expr) (b : List Stmt) (lo : Locals) (R : AF → Locals → Store → Prop) (a : AV) (σ : Store) : Prop := ∃ n, a = .int n ∧ -(2 ^ 62) ≤ n ∧ n < 2 ^ 62 ∧ forW (assignW t) (bodZ z g c b) noGd (rangeL n) lo σ R
noncomputable def xFI (z : Str → Bool) (g : G) (c : Cx) (t : Expr) (b : List Stmt) (lo : Locals) (σ : Store) (R : AF → Locals → Store → Prop) (gd : Store → Prop) (l : List AV) : Prop := forW (assignW t) (bodZ z g c b) gd l lo σ R
noncomputable def xF (z : Str → Bool) (g : G) (c : Cx) (t : Expr) (b : List Stmt) (lo : Locals) (R : AF → Locals → Store → Prop) (a : AV) (σ : Store) : Prop := iterW g a σ (xFI z g c t b lo σ R)
noncomputable def xFT (z : Str → Bool) (g : G) (c : Cx) (t : Expr) (b : List Stmt) (lo : Locals) (R : AF → Locals → Store → Prop) (as : List AV) (σ : Store) : Prop := as.length ≤ sizeLine ∧ forW (assignW t) (bodZ z g c b) noGd as lo σ R
noncomputable def xEx (lo : Locals) (R : AF → Locals → Store → Prop) (v : AV) (σ : Store) : Prop := dropped v = true ∧ R .next lo σ

end
section
theorem kBin2_eq {dp : Nat} {op : Operator} {a : AV} {P : AV → Store → Prop} {b : AV} {σ : Store} : kBin2 dp op a P b σ = (binW dp op a b σ P) := rfl
theorem kBin1_eq {g : G} {c : Cx} {r : Expr} {op : Operator} {lo : Locals} {P : AV → Store → Prop} {a : AV} {σ : Store} : kBin1 g c r op lo P a σ = (wpE g c r lo σ (kBin2 c.dp op a P)) := rfl
theorem kUn_eq {op : UnaryOp} {P : AV → Store → Prop} {a : AV} {σ : Store} : kUn op P a σ = (unW op a σ P) := rfl
theorem kB_eq {P : AV → Store → Prop} {σ : Store} {q : Bool} : kB P σ q = (P (.bool q) σ) := rfl
theorem kCmp2_eq {un : Nat} {op : CmpOp} {a : AV} {P : AV → Store → Prop} {b : AV} {σ : Store} : kCmp2 un op a P b σ = (cmpW un op a b σ (kB P σ)) := rfl
theorem kCmp1_eq {g : G} {c : Cx} {r : Expr} {op : CmpOp} {lo : Locals} {P : AV → Store → Prop} {a : AV} {σ : Store} : kCmp1 g c r op lo P a σ = (wpE g c r lo σ (kCmp2 c.un op a P)) := rfl
theorem kIf_eq {g : G} {c : Cx} {a b : Expr} {lo : Locals} {P : AV → Store → Prop} {q : Bool} {σ : Store} : kIf g c a b lo P q σ = (if q = true then wpE g c a lo σ P else wpE g c b lo σ P) := rfl
theorem kList_eq {P : AV → Store → Prop} {as : List AV} {σ : Store} : kList P as σ = (as.length ≤ sizeLine ∧ ∀ d, σ d = none → P (.ref d) (σ.set d (.list as))) := rfl
theorem kTup_eq {P : AV → Store → Prop} {as : List AV} {σ : Store} : kTup P as σ = (as.length ≤ sizeLine ∧ P (.tup as) σ) := rfl
theorem kUp2_eq {g : G} {a : AV} {P : AV → Store → Prop} {b : AV} {σ : Store} : kUp2 g a P b σ = (uptoW g a b σ P) := rfl
theorem kUp1_eq {g : G} {c : Cx} {r : Expr} {lo : Locals} {P : AV → Store → Prop} {a : AV} {σ : Store} : kUp1 g c r lo P a σ = (wpE g c r lo σ (kUp2 g a P)) := rfl
theorem kFr2_eq {g : G} {a : AV} {P : AV → Store → Prop} {b : AV} {σ : Store} : kFr2 g a P b σ = (fromW g a b σ P) := rfl
theorem kFr1_eq {g : G} {c : Cx} {r : Expr} {lo : Locals} {P : AV → Store → Prop} {a : AV} {σ : Store} : kFr1 g c r lo P a σ = (wpE g c r lo σ (kFr2 g a P)) := rfl
theorem kIt2_eq {a : AV} {P : AV → Store → Prop} {b : AV} {σ : Store} : kIt2 a P b σ = (itemW a b σ P) := rfl
theorem kIt1_eq {g : G} {c : Cx} {r : Expr} {lo : Locals} {P : AV → Store → Prop} {a : AV} {σ : Store} : kIt1 g c r lo P a σ = (wpE g c r lo σ (kIt2 a P)) := rfl
theorem kAt_eq {g : G} {n : Str} {P : AV → Store → Prop} {a : AV} {σ : Store} : kAt g n P a σ = (attrW g a n σ P) := rfl
theorem kCall_eq {g : G} {c : Cx} {f : Str} {P : AV → Store → Prop} {as : List AV} {σ : Store} : kCall g c f P as σ = (callW g c f as σ P) := rfl
theorem kM2_eq {g : G} {c : Cx} {m : MK} {P : AV → Store → Prop} {as : List AV} {σ : Store} : kM2 g c m P as σ = (methW g c m as σ P) := rfl
theorem kM1_eq {g : G} {c : Cx} {args : List Expr} {lo : Locals} {σ : Store} {P : AV → Store → Prop} {m : MK} : kM1 g c args lo σ P m = (wpEs g c args lo σ (kM2 g c m P)) := rfl
theorem kM0_eq {g : G} {c : Cx} {n : Str} {args : List Expr} {lo : Locals} {P : AV → Store → Prop} {a : AV} {σ : Store} : kM0 g c n args lo P a σ = (methK g a n σ (kM1 g c args lo σ P)) := rfl
theorem tNot_eq {B : Bool → Store → Prop} {b : Bool} {σ : Store} : tNot B b σ = (B (!b) σ) := rfl
theorem tB_eq {B : Bool → Store → Prop} {σ : Store} {q : Bool} : tB B σ q = (B q σ) := rfl
theorem tCmp2_eq {un : Nat} {op : CmpOp} {a : AV} {B : Bool → Store → Prop} {b : AV} {σ : Store} : tCmp2 un op a B b σ = (cmpW un op a b σ (tB B σ)) := rfl
theorem tCmp1_eq {g : G} {c : Cx} {r : Expr} {op : CmpOp} {lo : Locals} {B : Bool → Store → Prop} {a : AV} {σ : Store} : tCmp1 g c r op lo B a σ = (wpE g c r lo σ (tCmp2 c.un op a B)) := rfl
theorem tTr_eq {B : Bool → Store → Prop} {a : AV} {σ : Store} : tTr B a σ = (truthW a σ (tB B σ)) := rfl
theorem tBin2_eq {dp : Nat} {op : Operator} {a : AV} {B : Bool → Store → Prop} {b : AV} {σ : Store} : tBin2 dp op a B b σ = (binW dp op a b σ (tTr B)) := rfl
theorem tBin1_eq {g : G} {c : Cx} {r : Expr} {op : Operator} {lo : Locals} {B : Bool → Store → Prop} {a : AV} {σ : Store} : tBin1 g c r op lo B a σ = (wpE g c r lo σ (tBin2 c.dp op a B)) := rfl
theorem tCall_eq {g : G} {c : Cx} {f : Str} {B : Bool → Store → Prop} {as : List AV} {σ : Store} : tCall g c f B as σ = (callW g c f as σ (tTr B)) := rfl
theorem kEs2_eq {a : AV} {Q : List AV → Store → Prop} {as : List AV} {σ : Store} : kEs2 a Q as σ = (Q (a :: as) σ) := rfl
theorem kEs1_eq {g : G} {c : Cx} {r : List Expr} {lo : Locals} {Q : List AV → Store → Prop} {a : AV} {σ : Store} : kEs1 g c r lo Q a σ = (wpEs g c r lo σ (kEs2 a Q)) := rfl
theorem kAnd2_eq {g : G} {c : Cx} {es : List Expr} {lo : Locals} {P : AV → Store → Prop} {a : AV} {σ : Store} {q : Bool} : kAnd2 g c es lo P a σ q = (if q = true then wpBool g c .And es lo σ P else P a σ) := rfl
theorem kAnd1_eq {g : G} {c : Cx} {es : List Expr} {lo : Locals} {P : AV → Store → Prop} {a : AV} {σ : Store} : kAnd1 g c es lo P a σ = (truthW a σ (kAnd2 g c es lo P a σ)) := rfl
theorem kOr2_eq {g : G} {c : Cx} {es : List Expr} {lo : Locals} {P : AV → Store → Prop} {a : AV} {σ : Store} {q : Bool} : kOr2 g c es lo P a σ q = (if q = true then P a σ else wpBool g c .Or es lo σ P) := rfl
theorem kOr1_eq {g : G} {c : Cx} {es : List Expr} {lo : Locals} {P : AV → Store → Prop} {a : AV} {σ : Store} : kOr1 g c es lo P a σ = (truthW a σ (kOr2 g c es lo P a σ)) := rfl
theorem tAnd_eq {g : G} {c : Cx} {es : List Expr} {lo : Locals} {B : Bool → Store → Prop} {q : Bool} {σ : Store} : tAnd g c es lo B q σ = (if q = true then wpTs g c .And es lo σ B else B false σ) := rfl
theorem tOr_eq {g : G} {c : Cx} {es : List Expr} {lo : Locals} {B : Bool → Store → Prop} {q : Bool} {σ : Store} : tOr g c es lo B q σ = (if q = true then B true σ else wpTs g c .Or es lo σ B) := rfl
theorem qNot_eq {Q : Bool → Prop} {q : Bool} : qNot Q q = (Q (!q)) := rfl
theorem xRet_eq {lo : Locals} {R : AF → Locals → Store → Prop} {v : AV} {σ : Store} : xRet lo R v σ = (R (.ret v) lo σ) := rfl
theorem xAsg_eq {x : Str} {lo : Locals} {R : AF → Locals → Store → Prop} {v : AV} {σ : Store} : xAsg x lo R v σ = (R .next (lo.set x v) σ) := rfl
theorem xAsC_eq {c : Cx} {x : Str} {lo : Locals} {R : AF → Locals → Store → Prop} {v : AV} {σ : Store} : xAsC c x lo R v σ = (cellW c x v lo σ (R .next)) := rfl
theorem xNx_eq {R : AF → Locals → Store → Prop} {σ : Store} {lo : Locals} : xNx R σ lo = (R .next lo σ) := rfl
theorem xAsT_eq {t : Expr} {lo : Locals} {R : AF → Locals → Store → Prop} {v : AV} {σ : Store} : xAsT t lo R v σ = (assignW t v lo (xNx R σ)) := rfl
theorem xS4_eq {lo : Locals} {R : AF → Locals → Store → Prop} {σ : Store} : xS4 lo R σ = (R .next lo σ) := rfl
theorem xS3_eq {c : Cx} {a x : AV} {lo : Locals} {R : AF → Locals → Store → Prop} {b : AV} {σ : Store} : xS3 c a x lo R b σ = (setW c a b x σ (xS4 lo R)) := rfl
theorem xS2_eq {g : G} {c : Cx} {i : Expr} {x : AV} {lo : Locals} {R : AF → Locals → Store → Prop} {a : AV} {σ : Store} : xS2 g c i x lo R a σ = (wpE g c i lo σ (xS3 c a x lo R)) := rfl
theorem xS1_eq {g : G} {c : Cx} {o i : Expr} {lo : Locals} {R : AF → Locals → Store → Prop} {x : AV} {σ : Store} : xS1 g c o i lo R x σ = (wpE g c o lo σ (xS2 g c i x lo R)) := rfl
theorem xA2_eq {g : G} {n : Str} {x : AV} {lo : Locals} {R : AF → Locals → Store → Prop} {a : AV} {σ : Store} : xA2 g n x lo R a σ = (setAttrW g a n x σ (xS4 lo R)) := rfl
theorem xA1_eq {g : G} {c : Cx} {o : Expr} {n : Str} {lo : Locals} {R : AF → Locals → Store → Prop} {x : AV} {σ : Store} : xA1 g c o n lo R x σ = (wpE g c o lo σ (xA2 g n x lo R)) := rfl
theorem xG2_eq {op : Operator} {a : AV} {x : Str} {lo : Locals} {R : AF → Locals → Store → Prop} {b : AV} {σ : Store} : xG2 op a x lo R b σ = (iopW op a b σ (xAsg x lo R)) := rfl
theorem xG1_eq {g : G} {c : Cx} {v : Expr} {op : Operator} {x : Str} {lo : Locals} {R : AF → Locals → Store → Prop} {a : AV} {σ : Store} : xG1 g c v op x lo R a σ = (wpE g c v lo σ (xG2 op a x lo R)) := rfl
theorem xIf_eq {z : Str → Bool} {g : G} {c : Cx} {a b : List Stmt} {lo : Locals} {R : AF → Locals → Store → Prop} {q : Bool} {σ : Store} : xIf z g c a b lo R q σ = (if q = true then wpZs z g c a lo σ R else wpZs z g c b lo σ R) := rfl
theorem tstW_eq {g : G} {c : Cx} {t : Expr} {lo : Locals} {σ : Store} {Q : Bool → Store → Prop} : tstW g c t lo σ Q = (wpT g c t lo σ Q) := rfl
theorem bodZ_eq {z : Str → Bool} {g : G} {c : Cx} {b : List Stmt} {lo : Locals} {σ : Store} {Q : AF → Locals → Store → Prop} : bodZ z g c b lo σ Q = (wpZs z g c b lo σ Q) := rfl
theorem xFR_eq {z : Str → Bool} {g : G} {c : Cx} {t : Expr} {b : List Stmt} {lo : Locals} {R : AF → Locals → Store → Prop} {a : AV} {σ : Store} : xFR z g c t b lo R a σ = (∃ n, a = .int n ∧ -(2 ^ 62) ≤ n ∧ n < 2 ^ 62 ∧ forW (assignW t) (bodZ z g c b) noGd (rangeL n) lo σ R) := rfl
theorem xFI_eq {z : Str → Bool} {g : G} {c : Cx} {t : Expr} {b : List Stmt} {lo : Locals} {σ : Store} {R : AF → Locals → Store → Prop} {gd : Store → Prop} {l : List AV} : xFI z g c t b lo σ R gd l = (forW (assignW t) (bodZ z g c b) gd l lo σ R) := rfl
theorem xF_eq {z : Str → Bool} {g : G} {c : Cx} {t : Expr} {b : List Stmt} {lo : Locals} {R : AF → Locals → Store → Prop} {a : AV} {σ : Store} : xF z g c t b lo R a σ = (iterW g a σ (xFI z g c t b lo σ R)) := rfl
theorem xFT_eq {z : Str → Bool} {g : G} {c : Cx} {t : Expr} {b : List Stmt} {lo : Locals} {R : AF → Locals → Store → Prop} {as : List AV} {σ : Store} : xFT z g c t b lo R as σ = (as.length ≤ sizeLine ∧ forW (assignW t) (bodZ z g c b) noGd as lo σ R) := rfl
theorem xEx_eq {lo : Locals} {R : AF → Locals → Store → Prop} {v : AV} {σ : Store} : xEx lo R v σ = (dropped v = true ∧ R .next lo σ) := rfl
end
section
variable {g : G} {c : Cx} {lo : Locals} {σ : Store} {P : AV → Store → Prop} {R : AF → Locals → Store → Prop} {B : Bool → Store → Prop}
theorem e_bin {l r : Expr} {op : Operator} {pos : Pos} : wpE g c (.BinOp l op r pos) lo σ P = wpE g c l lo σ (kBin1 g c r op lo P) := rfl
theorem e_un {x : Expr} {op : UnaryOp} {pos : Pos} : wpE g c (.UnaryOp op x pos) lo σ P = wpE g c x lo σ (kUn op P) := rfl
theorem e_boolop {op : BoolOp} {vs : List Expr} {pos : Pos} : wpE g c (.BoolOp op vs pos) lo σ P = wpBool g c op vs lo σ P := rfl
theorem e_cmp {l r : Expr} {op : CmpOp} {pos : Pos} : wpE g c (.Compare l [op] [r] pos) lo σ P = wpE g c l lo σ (kCmp1 g c r op lo P) := rfl
theorem e_if {t a b : Expr} {pos : Pos} : wpE g c (.IfExp t a b pos) lo σ P = wpT g c t lo σ (kIf g c a b lo P) := rfl
theorem e_list {es : List Expr} {pos : Pos} : wpE g c (.List es pos) lo σ P = wpEs g c es lo σ (kList P) := rfl
theorem e_tup {es : List Expr} {k : Nat} {pos : Pos} : wpE g c (.Tuple es k pos) lo σ P = wpEs g c es lo σ (kTup P) := rfl
theorem e_upto {v hi : Expr} {pos p : Pos} : wpE g c (.Subscript v (.Slice none (some hi) none p) pos) lo σ P = wpE g c v lo σ (kUp1 g c hi lo P) := rfl
theorem e_from {v l : Expr} {pos p : Pos} : wpE g c (.Subscript v (.Slice (some l) none none p) pos) lo σ P = wpE g c v lo σ (kFr1 g c l lo P) := rfl
theorem e_item {v i : Expr} {pos : Pos} (h : notSlice i = true) : wpE g c (.Subscript v i pos) lo σ P = wpE g c v lo σ (kIt1 g c i lo P) := by
  cases i <;> first | rfl | exact absurd h Bool.false_ne_true
theorem e_attr {v : Expr} {n : Str} {pos : Pos} : wpE g c (.Attribute v n pos) lo σ P = wpE g c v lo σ (kAt g n P) := rfl
theorem e_dict0 {pos : Pos} : wpE g c (.Dict [] [] pos) lo σ P = ∀ d, σ d = none → P (.ref d) (σ.set d (.tab [])) := rfl
theorem e_call {f : Str} {args : List Expr} {p pos : Pos} : wpE g c (.Call (.Name f p) args [] pos) lo σ P = wpEs g c args lo σ (kCall g c f P) := rfl
theorem e_meth {o : Expr} {n : Str} {args : List Expr} {p pos : Pos} : wpE g c (.Call (.Attribute o n p) args [] pos) lo σ P = wpE g c o lo σ (kM0 g c n args lo P) := rfl
theorem t_not {x : Expr} {pos : Pos} : wpT g c (.UnaryOp .Not x pos) lo σ B = wpT g c x lo σ (tNot B) := rfl
theorem t_boolop {op : BoolOp} {vs : List Expr} {pos : Pos} : wpT g c (.BoolOp op vs pos) lo σ B = wpTs g c op vs lo σ B := rfl
theorem t_cmp {l r : Expr} {op : CmpOp} {pos : Pos} : wpT g c (.Compare l [op] [r] pos) lo σ B = wpE g c l lo σ (tCmp1 g c r op lo B) := rfl
theorem t_name {x : Str} {pos : Pos} : wpT g c (.Name x pos) lo σ B = nameW c x lo σ (tTr B) := rfl
theorem t_bin {l r : Expr} {op : Operator} {pos : Pos} : wpT g c (.BinOp l op r pos) lo σ B = wpE g c l lo σ (tBin1 g c r op lo B) := rfl
theorem t_call {f : Str} {args : List Expr} {p pos : Pos} : wpT g c (.Call (.Name f p) args [] pos) lo σ B = wpEs g c args lo σ (tCall g c f B) := rfl
theorem es_nil {Q : List AV → Store → Prop} : wpEs g c [] lo σ Q = Q [] σ := rfl
theorem es_cons {e : Expr} {r : List Expr} {Q : List AV → Store → Prop} : wpEs g c (e :: r) lo σ Q = wpE g c e lo σ (kEs1 g c r lo Q) := rfl
theorem b_one {op : BoolOp} {e : Expr} : wpBool g c op [e] lo σ P = wpE g c e lo σ P := rfl
theorem b_and {e e₂ : Expr} {r : List Expr} : wpBool g c .And (e :: e₂ :: r) lo σ P = wpE g c e lo σ (kAnd1 g c (e₂ :: r) lo P) := rfl
theorem b_or {e e₂ : Expr} {r : List Expr} : wpBool g c .Or (e :: e₂ :: r) lo σ P = wpE g c e lo σ (kOr1 g c (e₂ :: r) lo P) := rfl
theorem ts_and0 : wpTs g c .And [] lo σ B = B true σ := rfl
theorem ts_or0 : wpTs g c .Or [] lo σ B = B false σ := rfl
theorem ts_and {e : Expr} {r : List Expr} : wpTs g c .And (e :: r) lo σ B = wpT g c e lo σ (tAnd g c r lo B) := rfl
theorem ts_or {e : Expr} {r : List Expr} : wpTs g c .Or (e :: r) lo σ B = wpT g c e lo σ (tOr g c r lo B) := rfl
section
variable {z : Str → Bool}
theorem s_ret {e : Expr} {p : Pos} : wpZ z g c (.Return (some e) p) lo σ R = wpE g c e lo σ (xRet lo R) := rfl
theorem s_assign {x : Str} {p q : Pos} {v : Expr} (h : notComp v = true) : wpS g c (.Assign [.Name x p] v q) lo σ R = wpE g c v lo σ (xAsg x lo R) := by
  cases v <;> first | rfl | exact absurd h Bool.false_ne_true
theorem s_assignT {ts : List Expr} {k : Nat} {p q : Pos} {v : Expr} (h : notTup v = true) : wpZ z g c (.Assign [.Tuple ts k p] v q) lo σ R = wpE g c v lo σ (xAsT (.Tuple ts k p) lo R) := by
  cases v <;> first | rfl | exact absurd h Bool.false_ne_true
theorem s_assignS {o i v : Expr} {p q : Pos} : wpZ z g c (.Assign [.Subscript o i p] v q) lo σ R = wpE g c v lo σ (xS1 g c o i lo R) := rfl
theorem s_assignA {o v : Expr} {n : Str} {p q : Pos} : wpZ z g c (.Assign [.Attribute o n p] v q) lo σ R = wpE g c v lo σ (xA1 g c o n lo R) := rfl
theorem s_aug {x : Str} {p q : Pos} {op : Operator} {v : Expr} : wpZ z g c (.AugAssign (.Name x p) op v q) lo σ R = nameW c x lo σ (xG1 g c v op x lo R) := rfl
theorem s_if {t : Expr} {a b : List Stmt} {p : Pos} : wpZ z g c (.If t a b p) lo σ R = wpT g c t lo σ (xIf z g c a b lo R) := rfl
theorem s_while {t : Expr} {b : List Stmt} {p : Pos} : wpZ z g c (.While t b [] p) lo σ R = ∃ n, whileW (tstW g c t) (bodZ z g c b) n lo σ R := rfl
theorem s_forR {t e : Expr} {f : Str} {b : List Stmt} {p q r : Pos} : wpZ z g c (.For t (.Call (.Name f q) [e] [] r) b [] p) lo σ R = wpE g c e lo σ (xFR z g c t b lo R) := rfl
theorem s_forN {t : Expr} {x : Str} {b : List Stmt} {p q : Pos} : wpZ z g c (.For t (.Name x q) b [] p) lo σ R = nameW c x lo σ (xF z g c t b lo R) := rfl
theorem s_forS {t v i : Expr} {b : List Stmt} {p q : Pos} : wpZ z g c (.For t (.Subscript v i q) b [] p) lo σ R = wpE g c (.Subscript v i q) lo σ (xF z g c t b lo R) := rfl
theorem s_forT {t : Expr} {es : List Expr} {k : Nat} {b : List Stmt} {p q : Pos} : wpZ z g c (.For t (.Tuple es k q) b [] p) lo σ R = wpEs g c es lo σ (xFT z g c t b lo R) := rfl
theorem s_expr {e : Expr} {p : Pos} : wpZ z g c (.Expr e p) lo σ R = wpE g c e lo σ (xEx lo R) := rfl
theorem s_break {p : Pos} : wpZ z g c (.Break p) lo σ R = R .brk lo σ := rfl
theorem s_cont {p : Pos} : wpZ z g c (.Continue p) lo σ R = R .cont lo σ := rfl
theorem s_pass {p : Pos} : wpZ z g c (.Pass p) lo σ R = R .next lo σ := rfl
theorem ss_nil : wpZs z g c [] lo σ R = R .next lo σ := rfl
/-- what stands behind a statement -/
noncomputable def thenZ (z : Str → Bool) (g : G) (c : Cx) (r : List Stmt) (R : AF → Locals → Store → Prop) : AF → Locals → Store → Prop := fun f lo₁ σ₁ => match f with
  | .next => wpZs z g c r lo₁ σ₁ R
  | .brk => R .brk lo₁ σ₁
  | .cont => R .cont lo₁ σ₁
  | .ret v => R (.ret v) lo₁ σ₁
theorem ss_cons {s : Stmt} {r : List Stmt} : wpZs z g c (s :: r) lo σ R = wpZ z g c s lo σ (thenZ z g c r R) := rfl
theorem then_next {r : List Stmt} : thenZ z g c r R .next lo σ = wpZs z g c r lo σ R := rfl
theorem then_brk {r : List Stmt} : thenZ z g c r R .brk lo σ = R .brk lo σ := rfl
theorem then_cont {r : List Stmt} : thenZ z g c r R .cont lo σ = R .cont lo σ := rfl
theorem then_ret {r : List Stmt} {v : AV} : thenZ z g c r R (.ret v) lo σ = R (.ret v) lo σ := rfl
end

/-! operators -/
section
variable {dp un : Nat} {x y : Int}
theorem o_add : binW dp .Add (.int x) (.int y) σ P = P (.int (x + y)) σ := rfl
theorem o_sub : binW dp .Sub (.int x) (.int y) σ P = P (.int (x - y)) σ := rfl
theorem o_mul : binW dp .Mult (.int x) (.int y) σ P = (IntMulOk x y ∧ P (.int (x * y)) σ) := rfl
theorem o_fdiv : binW dp .FloorDiv (.int x) (.int y) σ P = (y ≠ 0 ∧ dp + Builtin.pylongFrames < recursionLimit ∧ P (.int (x.fdiv y)) σ) := rfl
theorem o_mod : binW dp .Mod (.int x) (.int y) σ P = (y ≠ 0 ∧ P (.int (x.fmod y)) σ) := rfl
theorem o_shl : binW dp .LShift (.int x) (.int y) σ P = (0 ≤ y ∧ y ≤ 1000000 ∧ x.natAbs < 2 ^ 64 ∧ P (.int (x * 2 ^ y.toNat)) σ) := rfl
theorem o_shr : binW dp .RShift (.int x) (.int y) σ P = (0 ≤ y ∧ P (.int (x.fdiv (2 ^ y.toNat))) σ) := rfl
theorem o_pow : binW dp .Pow (.int x) (.int y) σ P = (0 ≤ y ∧ y ≤ 1000000 ∧ x.natAbs < 2 ^ 64 ∧ P (.int (x ^ y.toNat)) σ) := rfl
theorem o_and : binW dp .BitAnd (.int x) (.int y) σ P = P (.int (Builtin.bitAnd x y)) σ := rfl
theorem o_or : binW dp .BitOr (.int x) (.int y) σ P = P (.int (Builtin.bitOr x y)) σ := rfl
theorem o_xor : binW dp .BitXor (.int x) (.int y) σ P = P (.int (Builtin.bitXor x y)) σ := rfl
theorem o_cat {p q : Addr} : binW dp .Add (.ref p) (.ref q) σ P = ∃ l r, σ p = some (.list l) ∧ σ q = some (.list r) ∧ l.length + r.length ≤ sizeLine ∧ ∀ d, σ d = none → P (.ref d) (σ.set d (.list (l ++ r))) := by simp only [binW, true_and]
theorem u_inv : unW .Invert (.int x) σ P = P (.int (Builtin.bitNot x)) σ := rfl
theorem u_neg : unW .USub (.int x) σ P = P (.int (-x)) σ := rfl
theorem i_add : iopW .Add (.int x) (.int y) σ P = P (.int (x + y)) σ := rfl
theorem i_sub : iopW .Sub (.int x) (.int y) σ P = P (.int (x - y)) σ := rfl
theorem i_and : iopW .BitAnd (.int x) (.int y) σ P = P (.int (Builtin.bitAnd x y)) σ := rfl
theorem i_or : iopW .BitOr (.int x) (.int y) σ P = P (.int (Builtin.bitOr x y)) σ := rfl
variable {Q : Bool → Prop}
theorem tr_none : truthW .none σ Q = Q false := rfl
theorem tr_bool {b : Bool} : truthW (.bool b) σ Q = Q b := rfl
theorem tr_int : truthW (.int x) σ Q = Q (decide (x ≠ 0)) := rfl
theorem tr_ref {p : Addr} : truthW (.ref p) σ Q = ∃ l, σ p = some (.list l) ∧ (l.length : Int) < 2 ^ 63 ∧ Q (decide (l ≠ [])) := rfl
theorem c_is {a : AV} : cmpW un .Is a .none σ Q = Q a.isNone := by simp only [cmpW, AV.isNone, true_and]
theorem c_isnot {a : AV} : cmpW un .IsNot a .none σ Q = Q (!a.isNone) := by simp only [cmpW, AV.isNone, true_and]
theorem c_in {a b : AV} : cmpW un .In a b σ Q = inW un a b σ Q := rfl
theorem c_notin {a b : AV} : cmpW un .NotIn a b σ Q = inW un a b σ (qNot Q) := rfl
theorem c_eqi : cmpW un .Eq (.int x) (.int y) σ Q = Q (decide (x = y)) := rfl
theorem c_eqs {x y : Str} : cmpW un .Eq (.str x) (.str y) σ Q = Q (decide (x = y)) := rfl
theorem c_nei : cmpW un .NotEq (.int x) (.int y) σ Q = Q (!decide (x = y)) := rfl
theorem c_lt : cmpW un .Lt (.int x) (.int y) σ Q = Q (decide (x < y)) := rfl
theorem c_le : cmpW un .LtE (.int x) (.int y) σ Q = Q (decide (x ≤ y)) := rfl
theorem c_gt : cmpW un .Gt (.int x) (.int y) σ Q = Q (decide (x > y)) := rfl
theorem c_ge : cmpW un .GtE (.int x) (.int y) σ Q = Q (decide (x ≥ y)) := rfl
theorem it_tup {l : List AV} : itemW (.tup l) (.int x) σ P = (0 ≤ x ∧ x < 2 ^ 63 ∧ ∃ v, l[x.toNat]? = some v ∧ P v σ) := rfl
theorem it_ref {p : Addr} : itemW (.ref p) (.int x) σ P = (0 ≤ x ∧ x < 2 ^ 63 ∧ ∃ l v, σ p = some (.list l) ∧ l[x.toNat]? = some v ∧ P v σ) := rfl
theorem it_tup0 {a : AV} {l : List AV} : itemW (.tup (a :: l)) (.int 0) σ P = P a σ := by simp [it_tup]
theorem it_tup1 {a b : AV} {l : List AV} : itemW (.tup (a :: b :: l)) (.int 1) σ P = P b σ := by simp [it_tup]
theorem it_tup2 {a b d : AV} {l : List AV} : itemW (.tup (a :: b :: d :: l)) (.int 2) σ P = P d σ := by simp [it_tup]
theorem call_def {f : Str} {as : List AV} (h : f ∉ bltNames) : callW g c f as σ P = CallN g c.dp c.un f as σ P := if_neg h
theorem len_ref {p : Addr} : callW g c "len" [.ref p] σ P = ∃ l, σ p = some (.list l) ∧ (l.length : Int) < 2 ^ 63 ∧ P (.int l.length) σ := by
  unfold callW bltW
  rw [if_pos (by decide), if_pos rfl]
theorem len_tup {l : List AV} : callW g c "len" [.tup l] σ P = ((l.length : Int) < 2 ^ 63 ∧ P (.int l.length) σ) := by
  unfold callW bltW
  rw [if_pos (by decide), if_pos rfl]
theorem abs_int : callW g c "abs" [.int x] σ P = P (.int (if x < 0 then -x else x)) σ := by
  unfold callW bltW
  rw [if_pos (by decide), if_neg (by decide), if_pos rfl]
theorem max_int : callW g c "max" [.int x, .int y] σ P = P (.int (if y > x then y else x)) σ := by
  unfold callW bltW
  rw [if_pos (by decide), if_neg (by decide), if_neg (by decide), if_pos rfl]
theorem min_int : callW g c "min" [.int x, .int y] σ P = P (.int (if y < x then y else x)) σ := by
  unfold callW bltW
  rw [if_pos (by decide), if_neg (by decide), if_neg (by decide), if_neg (by decide), if_pos rfl]
theorem list_ref {p : Addr} : callW g c "list" [.ref p] σ P = ∃ l, σ p = some (.list l) ∧ l.length ≤ sizeLine ∧ ∀ d, σ d = none → P (.ref d) (σ.set d (.list l)) := by
  unfold callW bltW
  rw [if_pos (by decide), if_neg (by decide), if_neg (by decide), if_neg (by decide), if_neg (by decide), if_pos rfl]
end
theorem back_ret {av : AV} (h : P av σ) : Back P (.ret av) lo σ := ⟨av, σ, rfl, fun _ _ e => e, h⟩
theorem back_less {av : AV} {σ' : Store} (h : P av σ') (k : ∀ a mo, σ' a = some mo → σ a = some mo) : Back P (.ret av) lo σ := ⟨av, σ', rfl, k, h⟩
theorem back_next (h : P .none σ) : Back P .next lo σ := ⟨.none, σ, rfl, fun _ _ e => e, h⟩
end

/-! ### loops by what holds of them -/
section
variable {g : G} {c : Cx} {lo : Locals} {σ : Store} {P : AF → Locals → Store → Prop}
theorem forW_rule {asg : AV → Locals → (Locals → Prop) → Prop} {body : Locals → Store → (AF → Locals → Store → Prop) → Prop} {guard : Store → Prop} (J : List AV → Locals → Store → Prop)
    (hend : ∀ lo σ, J [] lo σ → guard σ ∧ P .next lo σ)
    (hstep : ∀ x r lo σ, J (x :: r) lo σ → guard σ ∧ ∀ Q : AF → Locals → Store → Prop, (∀ lo' σ', J r lo' σ' → Q .next lo' σ' ∧ Q .cont lo' σ') → (∀ lo' σ', P .next lo' σ' → Q .brk lo' σ') → (∀ v lo' σ', P (.ret v) lo' σ' → Q (.ret v) lo' σ') →
      asg x lo fun lo₁ => body lo₁ σ Q) :
    ∀ items lo σ, J items lo σ → forW asg body guard items lo σ P
  | [], lo, σ, h => hend lo σ h
  | x :: r, lo, σ, h => by
    obtain ⟨h1, h2⟩ := hstep x r lo σ h
    exact ⟨h1, h2 _ (fun lo' σ' q => ⟨forW_rule J hend hstep r lo' σ' q, forW_rule J hend hstep r lo' σ' q⟩) (fun _ _ q => q) (fun _ _ _ q => q)⟩
theorem whileW_rule {test : Locals → Store → (Bool → Store → Prop) → Prop} {body : Locals → Store → (AF → Locals → Store → Prop) → Prop} (J : Nat → Locals → Store → Prop)
    (hstep : ∀ n lo σ, J n lo σ → ∀ Q : AF → Locals → Store → Prop, (∀ m lo' σ', m < n → J m lo' σ' → Q .next lo' σ' ∧ Q .cont lo' σ') → (∀ lo' σ', P .next lo' σ' → Q .brk lo' σ') → (∀ v lo' σ', P (.ret v) lo' σ' → Q (.ret v) lo' σ') →
      test lo σ fun b σ₁ => if b = true then body lo σ₁ Q else P .next lo σ₁) :
    ∀ n m lo σ, m < n → J m lo σ → whileW test body n lo σ P
  | 0, _, _, _, h, _ => absurd h (Nat.not_lt_zero _)
  | n + 1, m, lo, σ, hm, h => hstep m lo σ h _ (fun m' lo' σ' q z => ⟨whileW_rule J hstep n m' lo' σ' (by (first | lia | omega)) z, whileW_rule J hstep n m' lo' σ' (by (first | lia | omega)) z⟩) (fun _ _ q => q) (fun _ _ _ q => q)
theorem whileW_ex {test : Locals → Store → (Bool → Store → Prop) → Prop} {body : Locals → Store → (AF → Locals → Store → Prop) → Prop} (J : Nat → Locals → Store → Prop) {m : Nat} (h : J m lo σ)
    (hstep : ∀ n lo σ, J n lo σ → ∀ Q : AF → Locals → Store → Prop, (∀ m lo' σ', m < n → J m lo' σ' → Q .next lo' σ' ∧ Q .cont lo' σ') → (∀ lo' σ', P .next lo' σ' → Q .brk lo' σ') → (∀ v lo' σ', P (.ret v) lo' σ' → Q (.ret v) lo' σ') →
      test lo σ fun b σ₁ => if b = true then body lo σ₁ Q else P .next lo σ₁) : ∃ n, whileW test body n lo σ P :=
  ⟨m + 1, whileW_rule J hstep (m + 1) m lo σ (Nat.lt_succ_self _) h⟩
end
/-! text N1 -/

theorem or_xor_and (a b : Nat) : a ||| b = (a ^^^ b) + (a &&& b) := by
  induction a using Nat.strongRecOn generalizing b with
  | ind a ih =>
    by_cases h : a = 0
    · subst h; simp
    · have e := ih (a / 2) (by (first | lia | omega)) (b / 2)
      have e1 : (a ||| b) / 2 = a / 2 ||| b / 2 := Nat.or_div_two
      have e2 : (a ^^^ b) / 2 = a / 2 ^^^ b / 2 := Nat.xor_div_two
      have e3 : (a &&& b) / 2 = a / 2 &&& b / 2 := Nat.and_div_two
      rw [← e1, ← e2, ← e3] at e
      have m : (a ||| b) % 2 = (a ^^^ b) % 2 + (a &&& b) % 2 := by
        have h1 := Nat.or_mod_two_pow (a := a) (b := b) (n := 1)
        have h2 := Nat.xor_mod_two_pow (a := a) (b := b) (n := 1)
        have h3 := Nat.and_mod_two_pow (a := a) (b := b) (n := 1)
        rw [Nat.pow_one] at h1 h2 h3
        rw [h1, h2, h3]
        rcases Nat.mod_two_eq_zero_or_one a with x | x <;> rcases Nat.mod_two_eq_zero_or_one b with y | y <;> rw [x, y] <;> rfl
      rw [← Nat.div_add_mod (a ||| b) 2, ← Nat.div_add_mod (a ^^^ b) 2, ← Nat.div_add_mod (a &&& b) 2, e, m, Nat.mul_add]
      ac_rfl
theorem band_nat (a b : Nat) : Builtin.bitAnd a b = ((a &&& b : Nat) : Int) := by
  unfold Builtin.bitAnd
  rw [decide_eq_true (Int.natCast_nonneg a), decide_eq_true (Int.natCast_nonneg b)]
  simp only [Int.toNat_natCast]
theorem bnot_neg (a : Nat) : ¬ (0 ≤ Builtin.bitNot (a : Int)) := by unfold Builtin.bitNot; (first | lia | omega)
theorem bnot_bnot (a : Int) : Builtin.bitNot (Builtin.bitNot a) = a := by unfold Builtin.bitNot; (first | lia | omega)
theorem bor_nat (a b : Nat) : Builtin.bitOr a b = ((a ||| b : Nat) : Int) := by
  unfold Builtin.bitOr Builtin.bitAnd
  rw [decide_eq_false (bnot_neg a), decide_eq_false (bnot_neg b)]
  simp only [bnot_bnot, Int.toNat_natCast]
theorem bxor_nat (a b : Nat) : Builtin.bitXor a b = ((a ^^^ b : Nat) : Int) := by
  unfold Builtin.bitXor
  rw [bor_nat, band_nat, or_xor_and]
  (first | lia | omega)
/-- the bits of a that b has not -/
noncomputable def andNot (a b : Nat) : Nat := a ^^^ (a &&& b)
theorem bandnot_nat (a b : Nat) : Builtin.bitAnd a (Builtin.bitNot b) = ((andNot a b : Nat) : Int) := by
  have e := or_xor_and a (a &&& b)
  have e1 : a ||| (a &&& b) = a := by apply Nat.eq_of_testBit_eq; intro i; simp only [Nat.testBit_or, Nat.testBit_and]; cases a.testBit i <;> simp
  have e2 : a &&& (a &&& b) = a &&& b := by apply Nat.eq_of_testBit_eq; intro i; simp only [Nat.testBit_and]; cases a.testBit i <;> simp
  rw [e1, e2] at e
  unfold Builtin.bitAnd
  rw [decide_eq_true (Int.natCast_nonneg a), decide_eq_false (bnot_neg b)]
  simp only [bnot_bnot, Int.toNat_natCast]
  unfold andNot
  (first | lia | omega)
theorem andNot_bit (a b i : Nat) : (andNot a b).testBit i = (a.testBit i && !b.testBit i) := by
  unfold andNot
  simp only [Nat.testBit_xor, Nat.testBit_and]
  cases a.testBit i <;> cases b.testBit i <;> rfl
theorem fdiv_nat (a b : Nat) : (a : Int).fdiv b = ((a / b : Nat) : Int) := (Int.ofNat_fdiv a b).symm
theorem fmod_nat (a b : Nat) : (a : Int).fmod b = ((a % b : Nat) : Int) := by
  rw [Int.fmod_eq_emod_of_nonneg _ (Int.natCast_nonneg b)]; rfl
theorem mul_nat (a b : Nat) : (a : Int) * b = ((a * b : Nat) : Int) := by push_cast; rfl
theorem add_nat (a b : Nat) : (a : Int) + b = ((a + b : Nat) : Int) := by push_cast; rfl
theorem pow_nat (a n : Nat) : (a : Int) ^ n = ((a ^ n : Nat) : Int) := by push_cast; rfl
theorem pow2_nat (n : Nat) : (2 : Int) ^ n = ((2 ^ n : Nat) : Int) := by push_cast; rfl
theorem bit_nat (a n : Nat) : (a / 2 ^ n) &&& 1 = (a.testBit n).toNat := by
  rw [Nat.testBit, Nat.and_one_is_mod, Nat.and_comm, Nat.and_one_is_mod, Nat.shiftRight_eq_div_pow]
  rcases Nat.mod_two_eq_zero_or_one (a / 2 ^ n) with h | h <;> rw [h] <;> rfl
theorem bit1_nat (a n : Nat) : ((a.testBit n).toNat = 1) = (a.testBit n = true) := by cases a.testBit n <;> simp
theorem bit0_nat (a n : Nat) : ((a.testBit n).toNat = 0) = (a.testBit n = false) := by cases a.testBit n <;> simp
theorem bitm_nat (a n : Nat) : a / 2 ^ n % 2 = (a.testBit n).toNat := by
  rw [← bit_nat, Nat.and_one_is_mod]
theorem mulok_l {a b : Int} (h : -(2 ^ 64) < a) (h' : a < 2 ^ 64) : IntMulOk a b := .of_left (PySem.intBits_le_64 h h')
theorem mulok_nat {a b : Nat} (h : a < 2 ^ 64) : IntMulOk (a : Int) (b : Int) := mulok_l (by (first | lia | omega)) (by (first | lia | omega))

section
variable {g : G} {c : Cx} {lo : Locals} {σ : Store} {P : AV → Store → Prop} {Q : Bool → Prop} {dp un x y : Nat}
theorem e_nat0 {k : Nat} {pos : Pos} : wpE g c (.Constant (.int 0) k pos) lo σ P = P (.int ((0 : Nat) : Int)) σ := rfl
theorem e_nat1 {k : Nat} {pos : Pos} : wpE g c (.Constant (.int 1) k pos) lo σ P = P (.int ((1 : Nat) : Int)) σ := rfl
theorem e_nat2 {k : Nat} {pos : Pos} : wpE g c (.Constant (.int 2) k pos) lo σ P = P (.int ((2 : Nat) : Int)) σ := rfl
theorem e_nat3 {k : Nat} {pos : Pos} : wpE g c (.Constant (.int 3) k pos) lo σ P = P (.int ((3 : Nat) : Int)) σ := rfl
theorem e_nat4 {k : Nat} {pos : Pos} : wpE g c (.Constant (.int 4) k pos) lo σ P = P (.int ((4 : Nat) : Int)) σ := rfl
theorem e_nat5 {k : Nat} {pos : Pos} : wpE g c (.Constant (.int 5) k pos) lo σ P = P (.int ((5 : Nat) : Int)) σ := rfl
theorem e_nat32 {k : Nat} {pos : Pos} : wpE g c (.Constant (.int 32) k pos) lo σ P = P (.int ((32 : Nat) : Int)) σ := rfl
theorem e_nat40 {k : Nat} {pos : Pos} : wpE g c (.Constant (.int 40) k pos) lo σ P = P (.int ((40 : Nat) : Int)) σ := rfl
theorem e_nat80 {k : Nat} {pos : Pos} : wpE g c (.Constant (.int 80) k pos) lo σ P = P (.int ((80 : Nat) : Int)) σ := rfl
theorem e_nat251 {k : Nat} {pos : Pos} : wpE g c (.Constant (.int 251) k pos) lo σ P = P (.int ((251 : Nat) : Int)) σ := rfl
theorem isn_none : AV.isNone .none = true := rfl
theorem isn_int {i : Int} : AV.isNone (.int i) = false := rfl
theorem isn_str {x : Str} : AV.isNone (.str x) = false := rfl
theorem isn_tup {l : List AV} : AV.isNone (.tup l) = false := rfl
theorem isn_ref {a : Addr} : AV.isNone (.ref a) = false := rfl
theorem ln0 : (([] : List AV).length ≤ sizeLine) = True := eq_true (by decide)
theorem ln1 {a : AV} : ([a].length ≤ sizeLine) = True := eq_true (by show 1 ≤ sizeLine; decide)
theorem ln2 {a b : AV} : ([a, b].length ≤ sizeLine) = True := eq_true (by show 2 ≤ sizeLine; decide)
theorem ln3 {a b d : AV} : ([a, b, d].length ≤ sizeLine) = True := eq_true (by show 3 ≤ sizeLine; decide)
theorem drop_none : (dropped .none = true) = True := eq_true rfl
theorem n_add : binW dp .Add (.int x) (.int y) σ P = P (.int (x + y : Nat)) σ := by rw [o_add, add_nat]
theorem n_sub (h : y ≤ x) : binW dp .Sub (.int x) (.int y) σ P = P (.int (x - y : Nat)) σ := by rw [o_sub]; congr 2; (first | lia | omega)
theorem n_mul : binW dp .Mult (.int x) (.int y) σ P = (IntMulOk x y ∧ P (.int (x * y : Nat)) σ) := by rw [o_mul, mul_nat]
theorem n_fdiv : binW dp .FloorDiv (.int x) (.int y) σ P = (y ≠ 0 ∧ dp + Builtin.pylongFrames < recursionLimit ∧ P (.int (x / y : Nat)) σ) := by
  rw [o_fdiv, fdiv_nat]; simp only [ne_eq, Int.natCast_eq_zero]
theorem n_mod : binW dp .Mod (.int x) (.int y) σ P = (y ≠ 0 ∧ P (.int (x % y : Nat)) σ) := by
  rw [o_mod, fmod_nat]; simp only [ne_eq, Int.natCast_eq_zero]
theorem n_shl : binW dp .LShift (.int x) (.int y) σ P = (y ≤ 1000000 ∧ x < 2 ^ 64 ∧ P (.int (x * 2 ^ y : Nat)) σ) := by
  rw [o_shl, Int.toNat_natCast, pow2_nat, mul_nat, show ((0 : Int) ≤ (y : Int)) = True by simp, show ((y : Int) ≤ 1000000) = (y ≤ 1000000) by simp only [eq_iff_iff]; (first | lia | omega), true_and]
  rfl
theorem n_shr : binW dp .RShift (.int x) (.int y) σ P = P (.int (x / 2 ^ y : Nat)) σ := by
  rw [o_shr, Int.toNat_natCast, pow2_nat, fdiv_nat, show ((0 : Int) ≤ (y : Int)) = True by simp, true_and]
theorem n_pow : binW dp .Pow (.int x) (.int y) σ P = (y ≤ 1000000 ∧ x < 2 ^ 64 ∧ P (.int (x ^ y : Nat)) σ) := by
  rw [o_pow, Int.toNat_natCast, pow_nat, show ((0 : Int) ≤ (y : Int)) = True by simp, show ((y : Int) ≤ 1000000) = (y ≤ 1000000) by simp only [eq_iff_iff]; (first | lia | omega), true_and]
  rfl
theorem n_and : binW dp .BitAnd (.int x) (.int y) σ P = P (.int (x &&& y : Nat)) σ := by rw [o_and, band_nat]
theorem n_or : binW dp .BitOr (.int x) (.int y) σ P = P (.int (x ||| y : Nat)) σ := by rw [o_or, bor_nat]
theorem n_xor : binW dp .BitXor (.int x) (.int y) σ P = P (.int (x ^^^ y : Nat)) σ := by rw [o_xor, bxor_nat]
theorem n_andnot : binW dp .BitAnd (.int x) (.int (Builtin.bitNot y)) σ P = P (.int (andNot x y : Nat)) σ := by rw [o_and, bandnot_nat]
theorem ni_add : iopW .Add (.int x) (.int y) σ P = P (.int (x + y : Nat)) σ := by rw [i_add, add_nat]
theorem ni_sub (h : y ≤ x) : iopW .Sub (.int x) (.int y) σ P = P (.int (x - y : Nat)) σ := by rw [i_sub]; congr 2; (first | lia | omega)
theorem ni_and : iopW .BitAnd (.int x) (.int y) σ P = P (.int (x &&& y : Nat)) σ := by rw [i_and, band_nat]
theorem ni_or : iopW .BitOr (.int x) (.int y) σ P = P (.int (x ||| y : Nat)) σ := by rw [i_or, bor_nat]
theorem ntr_int : truthW (.int x) σ Q = Q (decide (x ≠ 0)) := by rw [tr_int]; simp only [ne_eq, Int.natCast_eq_zero]
theorem nc_eq : cmpW un .Eq (.int x) (.int y) σ Q = Q (decide (x = y)) := by rw [c_eqi]; simp only [Int.natCast_inj]
theorem nc_ne : cmpW un .NotEq (.int x) (.int y) σ Q = Q (!decide (x = y)) := by rw [c_nei]; simp only [Int.natCast_inj]
theorem nc_lt : cmpW un .Lt (.int x) (.int y) σ Q = Q (decide (x < y)) := by rw [c_lt]; simp only [Int.ofNat_lt]
theorem nc_le : cmpW un .LtE (.int x) (.int y) σ Q = Q (decide (x ≤ y)) := by rw [c_le]; simp only [Int.ofNat_le]
theorem nc_gt : cmpW un .Gt (.int x) (.int y) σ Q = Q (decide (y < x)) := by rw [c_gt]; simp only [gt_iff_lt, Int.ofNat_lt]
theorem nc_ge : cmpW un .GtE (.int x) (.int y) σ Q = Q (decide (y ≤ x)) := by rw [c_ge]; simp only [ge_iff_le, Int.ofNat_le]
theorem nit_ref {p : Addr} : itemW (.ref p) (.int x) σ P = (x < 2 ^ 63 ∧ ∃ l v, σ p = some (.list l) ∧ l[x]? = some v ∧ P v σ) := by
  rw [it_ref, Int.toNat_natCast, show ((0 : Int) ≤ (x : Int)) = True by simp, show ((x : Int) < 2 ^ 63) = (x < 2 ^ 63) by simp only [eq_iff_iff]; (first | lia | omega), true_and]
theorem nit_tup0 {a : AV} {l : List AV} : itemW (.tup (a :: l)) (.int (0 : Nat)) σ P = P a σ := by simp [it_tup]
theorem nit_tup1 {a b : AV} {l : List AV} : itemW (.tup (a :: b :: l)) (.int (1 : Nat)) σ P = P b σ := by simp [it_tup]
theorem nit_tup2 {a b d : AV} {l : List AV} : itemW (.tup (a :: b :: d :: l)) (.int (2 : Nat)) σ P = P d σ := by simp [it_tup]
theorem nabs {z : Int} : callW g c "abs" [.int z] σ P = P (.int (z.natAbs : Nat)) σ := by
  rw [abs_int]; congr 2; split <;> (first | lia | omega)
theorem nmax : callW g c "max" [.int x, .int y] σ P = P (.int (max x y : Nat)) σ := by
  rw [max_int]; congr 2; split <;> (first | lia | omega)
theorem nmin : callW g c "min" [.int x, .int y] σ P = P (.int (min x y : Nat)) σ := by
  rw [min_int]; congr 2; split <;> (first | lia | omega)
end
/-! text VC14 -/

/-- locals that are known at some names -/
noncomputable def Locals.sets (lo : Locals) : List (Str × AV) → Locals
  | [] => lo
  | (x, v) :: r => Locals.sets (lo.set x v) r
theorem Locals.set_id {lo : Locals} {x : Str} {v : AV} (h : lo x = some v) : lo.set x v = lo := by
  funext y; unfold Locals.set; split
  · rename_i e; rw [e, h]
  · rfl
theorem Locals.sets_id {lo : Locals} : ∀ {l : List (Str × AV)}, (∀ p ∈ l, lo p.1 = some p.2) → lo.sets l = lo
  | [], _ => rfl
  | (x, v) :: r, h => by
    unfold Locals.sets
    rw [Locals.set_id (h _ (.head _)), Locals.sets_id fun p hp => h p (.tail _ hp)]
noncomputable def Has (lo : Locals) (l : List (Str × AV)) : Prop := ∃ b : Locals, lo = b.sets l
theorem Has.of {lo : Locals} {l : List (Str × AV)} (h : ∀ p ∈ l, lo p.1 = some p.2) : Has lo l := ⟨lo, (Locals.sets_id h).symm⟩
theorem has_nil {lo : Locals} : ∀ p ∈ ([] : List (Str × AV)), lo p.1 = some p.2 := fun _ h => nomatch h
theorem has_cons {lo : Locals} {x : Str} {v : AV} {r : List (Str × AV)} (h : lo x = some v) (t : ∀ p ∈ r, lo p.1 = some p.2) : ∀ p ∈ (x, v) :: r, lo p.1 = some p.2 := fun p hp => by
  cases hp with
  | head => exact h
  | tail _ hp => exact t p hp
theorem set_at {lo : Locals} {x y : Str} {v : AV} : lo.set y v x = if x = y then some v else lo x := rfl
theorem all_nil {Q : Str × AV → Prop} : (∀ p ∈ ([] : List (Str × AV)), Q p) = True := eq_true fun _ h => nomatch h
theorem all_cons {Q : Str × AV → Prop} {x : Str × AV} {r : List (Str × AV)} : (∀ p ∈ x :: r, Q p) = (Q x ∧ ∀ p ∈ r, Q p) := by simp only [List.mem_cons, forall_eq_or_imp]


section
variable {g : G} {c : Cx} {lo : Locals} {σ : Store} {P : AF → Locals → Store → Prop} {K : Locals → Prop}
theorem asg_name {x : Str} {p : Pos} {v : AV} : assignW (.Name x p) v lo K = K (lo.set x v) := rfl
theorem asg_tup2 {x y : Str} {p q r : Pos} {k : Nat} {a b : AV} : assignW (.Tuple [.Name x p, .Name y q] k r) (.tup [a, b]) lo K = K ((lo.set x a).set y b) := by
  unfold assignW
  refine propext ⟨?_, fun h => ⟨[x, y], [a, b], rfl, rfl, rfl, h⟩⟩
  rintro ⟨xs, l, h1, h2, h3, h4⟩
  cases h1; cases h2
  exact h4
theorem asg_tup3 {x y z : Str} {p q r s : Pos} {k : Nat} {a b d : AV} : assignW (.Tuple [.Name x p, .Name y q, .Name z s] k r) (.tup [a, b, d]) lo K = K (((lo.set x a).set y b).set z d) := by
  unfold assignW
  refine propext ⟨?_, fun h => ⟨[x, y, z], [a, b, d], rfl, rfl, rfl, h⟩⟩
  rintro ⟨xs, l, h1, h2, h3, h4⟩
  cases h1; cases h2
  exact h4

noncomputable abbrev Asg := AV → Locals → (Locals → Prop) → Prop
noncomputable abbrev Bod := Locals → Store → (AF → Locals → Store → Prop) → Prop
/-- what a turn must end in -/
structure Turn (J : Locals → Store → Prop) (P Q : AF → Locals → Store → Prop) : Prop where
  next : ∀ lo' σ', J lo' σ' → Q .next lo' σ'
  cont : ∀ lo' σ', J lo' σ' → Q .cont lo' σ'
  brk : ∀ lo' σ', P .next lo' σ' → Q .brk lo' σ'
  ret : ∀ v lo' σ', P (.ret v) lo' σ' → Q (.ret v) lo' σ'
theorem forL_rule {α : Type} {asg : Asg} {body : Bod} {guard : Store → Prop} (f : α → AV) (l : List α) (J : List α → Locals → Store → Prop) (h0 : J [] lo σ)
    (hend : ∀ lo σ, J l lo σ → guard σ ∧ P .next lo σ)
    (hstep : ∀ pre x post lo σ, l = pre ++ x :: post → J pre lo σ → guard σ ∧ ∀ Q, Turn (J (pre ++ [x])) P Q → asg (f x) lo fun lo₁ => body lo₁ σ Q) :
    forW asg body guard (l.map f) lo σ P := by
  refine forW_rule (fun items lo σ => ∃ pre post, l = pre ++ post ∧ items = post.map f ∧ J pre lo σ) ?_ ?_ _ _ _ ⟨[], l, rfl, rfl, h0⟩
  · rintro lo σ ⟨pre, post, e, q, h⟩
    have : post = [] := by cases post with | nil => rfl | cons _ _ => cases q
    subst this
    rw [List.append_nil] at e
    subst e
    exact hend lo σ h
  · rintro y r lo σ ⟨pre, post, e, q, h⟩
    cases post with
    | nil => cases q
    | cons x post =>
      rw [List.map_cons] at q
      obtain ⟨rfl, rfl⟩ := List.cons.inj q
      obtain ⟨h1, h2⟩ := hstep pre x post lo σ e h
      refine ⟨h1, fun Q q1 q2 q3 => h2 Q ⟨fun lo' σ' z => (q1 lo' σ' ?_).1, fun lo' σ' z => (q1 lo' σ' ?_).2, q2, q3⟩⟩
      · exact ⟨pre ++ [x], post, by rw [e]; simp, rfl, z⟩
      · exact ⟨pre ++ [x], post, by rw [e]; simp, rfl, z⟩
theorem rangeL_nat (n : Nat) : rangeL (n : Nat) = (List.range n).map fun i => AV.int (i : Nat) := rfl
theorem forR_rule {asg : Asg} {body : Bod} (n : Nat) (J : Nat → Locals → Store → Prop) (h0 : J 0 lo σ) (hend : ∀ lo σ, J n lo σ → P .next lo σ)
    (hstep : ∀ i lo σ, i < n → J i lo σ → ∀ Q, Turn (J (i + 1)) P Q → asg (.int (i : Nat)) lo fun lo₁ => body lo₁ σ Q) : forW asg body noGd (rangeL (n : Nat)) lo σ P := by
  rw [rangeL_nat]
  refine forL_rule (fun i : Nat => AV.int (i : Nat)) (List.range n) (fun pre => J pre.length) h0 (fun lo σ h => ⟨trivial, hend lo σ (by simpa using h)⟩) fun pre x post lo σ e h => ⟨trivial, fun Q q => ?_⟩
  have hl : pre.length < n := by
    have := congrArg List.length e
    simp at this
    (first | lia | omega)
  have hx : x = pre.length := by
    have : (List.range n)[pre.length]? = some x := by rw [e]; simp
    rw [List.getElem?_range hl] at this
    exact (Option.some.inj this).symm
  rw [List.length_append, List.length_singleton] at q
  rw [hx]
  exact hstep _ lo σ hl h Q q
theorem while_rule {test : Locals → Store → (Bool → Store → Prop) → Prop} {body : Bod} (J : Nat → Locals → Store → Prop) {m : Nat} (h : J m lo σ)
    (hstep : ∀ n lo σ, J n lo σ → ∀ Q, Turn (fun lo' σ' => ∃ m, m < n ∧ J m lo' σ') P Q →
      test lo σ fun b σ₁ => if b = true then body lo σ₁ Q else P .next lo σ₁) : ∃ n, whileW test body n lo σ P :=
  whileW_ex J h fun n lo σ h Q q1 q2 q3 => hstep n lo σ h Q ⟨fun lo' σ' ⟨m, a, b⟩ => (q1 m lo' σ' a b).1, fun lo' σ' ⟨m, a, b⟩ => (q1 m lo' σ' a b).2, q2, q3⟩
noncomputable def turnW (asg : Asg) (body : Bod) (guard : Store → Prop) (r : List AV) (P : AF → Locals → Store → Prop) : AF → Locals → Store → Prop := fun f lo σ => match f with
  | .next => forW asg body guard r lo σ P
  | .cont => forW asg body guard r lo σ P
  | .brk => P .next lo σ
  | .ret x => P (.ret x) lo σ
section
variable {asg : Asg} {body : Bod} {guard : Store → Prop} {r : List AV} {v : AV}
noncomputable def xTb (body : Bod) (σ : Store) (Q : AF → Locals → Store → Prop) (lo : Locals) : Prop := body lo σ Q
theorem xTb_eq {Q : AF → Locals → Store → Prop} : xTb body σ Q lo = body lo σ Q := rfl
theorem noGd_eq : noGd σ = True := rfl
theorem fw_cons : forW asg body guard (v :: r) lo σ P = (guard σ ∧ asg v lo (xTb body σ (turnW asg body guard r P))) := rfl
theorem fw_nil : forW asg body guard [] lo σ P = (guard σ ∧ P .next lo σ) := rfl
theorem turn_next : turnW asg body guard r P .next lo σ = forW asg body guard r lo σ P := rfl
theorem turn_cont : turnW asg body guard r P .cont lo σ = forW asg body guard r lo σ P := rfl
theorem turn_brk : turnW asg body guard r P .brk lo σ = P .next lo σ := rfl
theorem turn_ret : turnW asg body guard r P (.ret v) lo σ = P (.ret v) lo σ := rfl
theorem iter_tup {l : List AV} {k : (Store → Prop) → List AV → Prop} : iterW g (.tup l) σ k = k (fun _ => True) l := rfl
end
end
/-! text P1 -/

noncomputable def stmtAt (i : Nat) : Stmt := PySem.Challenge.pw_on0118_01.main.body.getD i (.Pass ⟨0, 0, 0, 0⟩)
noncomputable def fnParams : Stmt → Arguments
  | .FunctionDef _ a _ _ _ _ _ _ _ _ => a
  | _ => default
noncomputable def fnBody : Stmt → List Stmt
  | .FunctionDef _ _ b _ _ _ _ _ _ _ => b
  | _ => []
noncomputable def fnScope : Stmt → Scope
  | .FunctionDef _ _ _ _ _ _ s _ _ _ => s
  | _ => default
/-- the def stands written out -/
noncomputable def FnA (g : G) (fa : Addr) (st : Stmt) : Prop :=
  ∃ name qual doc pm an cdv ct oc od osl, g.K.lookup fa = some ⟨oc, od, .func (fnOf name qual (fnParams st) (fnBody st) (fnScope st) .none .none doc pm an cdv ct), osl⟩ ∧ codeIn g.K cdv qual = true
noncomputable def FnK (g : G) (f : Str) (st : Stmt) : Prop := FnA g (g.fn f) st
noncomputable def fnOk (st : Stmt) (xs : List Str) : Bool :=
  decide xs.Nodup && (xs.all fun x => (fnScope st).names.lookup x == some .local && !(x == ("__debug__" : Str))) && !(fnScope st).isCoroutine && !(fnScope st).isGenerator && (fnScope st).kind == .function &&
    ((fnScope st).names.all fun x => !(x.2 == .cell)) && chkSs (fnScope st).names (fnBody st)

theorem FnA.code {g : G} {fa : Addr} {st : Stmt} (h : FnA g fa st) (xs : List Str) (hok : fnOk st xs = true) {dp un : Nat} {as : List AV} {σ : Store} {P : AV → Store → Prop} (hroom : dp < recursionLimit) 
    (hlen : xs.length = as.length)
    (hbind : ∀ (name qual : Str) doc pm an cdv ct (vs : List Value), vs.length = xs.length → bindArgs (fnOf name qual (fnParams st) (fnBody st) (fnScope st) .none .none doc pm an cdv ct) ⟨vs, []⟩ = pure (xs.zip vs))
    (k : ∀ c' : Cx, c'.Ok g → c'.dp = dp + 1 → c'.un = un + 3 → c'.cs = fnScope st → wpSs g c' (fnBody st) (argsL xs as) σ (Back P)) : CallC g dp un (.ref fa) as σ P := by
  obtain ⟨name, qual, doc, pm, an, cdv, ct, oc, od, osl, ho, hcd⟩ := h
  unfold fnOk at hok
  simp only [Bool.and_eq_true, Bool.not_eq_true', List.all_eq_true, beq_iff_eq, decide_eq_true_eq] at hok
  obtain ⟨⟨⟨⟨⟨⟨h1, h2⟩, h3⟩, h4⟩, h5⟩, h6⟩, h7⟩ := hok
  refine CallC.def ho hcd hroom xs [] (fun s vs _ hv => ⟨[], fun h => by simp only [HRels], BindsTo.of_eq ?_⟩) h1 h2 h3 h4 h5 (fun x hx => by simpa using h6 x hx) h7 (by simpa only [List.append_nil] using k)
  rw [List.append_nil]
  exact hbind _ _ _ _ _ _ _ vs (by rw [hv, hlen])

theorem FnA.call {g : G} {fa : Addr} {st : Stmt} (h : FnA g fa st) (xs : List Str) (hok : fnOk st xs = true) {dp un : Nat} {as : List AV} {σ : Store} {P : AV → Store → Prop} (hroom : dp < recursionLimit) 
    (hlen : xs.length = as.length)
    (hbind : ∀ (name qual : Str) doc pm an cdv ct (vs : List Value), vs.length = xs.length → bindArgs (fnOf name qual (fnParams st) (fnBody st) (fnScope st) .none .none doc pm an cdv ct) ⟨vs, []⟩ = pure (xs.zip vs))
    (k : ∀ c' : Cx, c'.Ok g → c'.dp = dp + 1 → c'.un = un + 3 → c'.cs = fnScope st → wpSs g c' (fnBody st) (argsL xs as) σ (Back P)) : CallP g dp un (.ref fa) as σ P := (FnA.code h xs hok hroom hlen hbind k).p
/-- the defs stand as the text has them -/
structure Defs (g : G) : Prop where
  dfull_table : FnK g "full_table" (stmtAt 2)
  dvar_table : FnK g "var_table" (stmtAt 3)
  dcofactor : FnK g "cofactor" (stmtAt 4)
  ddepends : FnK g "depends" (stmtAt 5)
  dcube_table : FnK g "cube_table" (stmtAt 6)
  dcover_table : FnK g "cover_table" (stmtAt 7)
  disop : FnK g "isop" (stmtAt 8)
  dopposed : FnK g "opposed" (stmtAt 10)
  dother_side : FnK g "other_side" (stmtAt 11)
  drule_positive : FnK g "rule_positive" (stmtAt 12)
  drule_negative : FnK g "rule_negative" (stmtAt 13)
  dliteral_chain : FnK g "literal_chain" (stmtAt 15)
  dcommonest_literal : FnK g "commonest_literal" (stmtAt 16)
  dfactor : FnK g "factor" (stmtAt 17)
  dtree_size : FnK g "tree_size" (stmtAt 18)
  dbuild_tree : FnK g "build_tree" (stmtAt 19)
  dbest_tree : FnK g "best_tree" (stmtAt 20)
  dlaw_feed : FnK g "_law_feed" (stmtAt 25)
  dlaw_pick : FnK g "_law_pick" (stmtAt 26)
  dlaw_at : FnK g "_law_at" (stmtAt 27)
  dlaw_cost : FnK g "_law_cost" (stmtAt 28)
  dlaw_run : FnK g "_law_run" (stmtAt 29)
  dlaw_bit : FnK g "_law_bit" (stmtAt 30)
theorem mw_app {g : G} {c : Cx} {σ : Store} {P : AV → Store → Prop} {p : Addr} {x : AV} : methW g c (.app p) [x] σ P = ∃ l, σ p = some (.list l) ∧ l.length ≤ sizeLine ∧ P .none (σ.set p (.list (l ++ [x]))) := rfl
def strNe (x y : Str) : Bool := !decide (x = y)
theorem strNe_ne {x y : Str} (h : strNe x y = true) : ¬ x = y := of_decide_eq_false (Bool.not_eq_true' _ ▸ h)
theorem len1 {α : Type} {l : List α} (h : l.length = 1) : ∃ a, l = [a] := by
  rcases l with _ | ⟨a, _ | ⟨b, l⟩⟩ <;> first | exact ⟨_, rfl⟩ | cases h
theorem len2 {α : Type} {l : List α} (h : l.length = 2) : ∃ a b, l = [a, b] := by
  rcases l with _ | ⟨a, l⟩
  · cases h
  · obtain ⟨b, rfl⟩ := len1 (Nat.succ.inj h); exact ⟨_, _, rfl⟩
theorem len3 {α : Type} {l : List α} (h : l.length = 3) : ∃ a b c, l = [a, b, c] := by
  rcases l with _ | ⟨a, l⟩
  · cases h
  · obtain ⟨b, c, rfl⟩ := len2 (Nat.succ.inj h); exact ⟨_, _, _, rfl⟩
theorem len4 {α : Type} {l : List α} (h : l.length = 4) : ∃ a b c d, l = [a, b, c, d] := by
  rcases l with _ | ⟨a, l⟩
  · cases h
  · obtain ⟨b, c, d, rfl⟩ := len3 (Nat.succ.inj h); exact ⟨_, _, _, _, rfl⟩
def strNe3 (x a b d : Str) : Bool := strNe x a && (strNe x b && strNe x d)
theorem name_hit {c : Cx} {x : Str} {lo : Locals} {σ : Store} {P : AV → Store → Prop} {v : AV} : nameW c x (lo.set x v) σ P = P v σ := by rw [name_set, if_pos rfl]
theorem name_miss {c : Cx} {x y : Str} {lo : Locals} {σ : Store} {P : AV → Store → Prop} {v : AV} (h : strNe x y = true) : nameW c x (lo.set y v) σ P = nameW c x lo σ P := by rw [name_set, if_neg (strNe_ne h)]
theorem arg_hit {c : Cx} {x : Str} {ys : List Str} {vs : List AV} {σ : Store} {P : AV → Store → Prop} {v : AV} : nameW c x (argsL (x :: ys) (v :: vs)) σ P = P v σ := by rw [name_args, if_pos rfl]
theorem arg_miss {c : Cx} {x y : Str} {ys : List Str} {vs : List AV} {σ : Store} {P : AV → Store → Prop} {v : AV} (h : strNe x y = true) : nameW c x (argsL (y :: ys) (v :: vs)) σ P = nameW c x (argsL ys vs) σ P := by rw [name_args, if_neg (strNe_ne h)]
theorem name_miss3 {c : Cx} {x y y₂ y₃ : Str} {lo : Locals} {σ : Store} {P : AV → Store → Prop} {v v₂ v₃ : AV} (h : strNe3 x y y₂ y₃ = true) : nameW c x (((lo.set y₃ v₃).set y₂ v₂).set y v) σ P = nameW c x lo σ P := by
  obtain ⟨h1, h⟩ := Bool.and_eq_true_iff.mp h
  obtain ⟨h2, h3⟩ := Bool.and_eq_true_iff.mp h
  rw [name_miss h1, name_miss h2, name_miss h3]
set_option hygiene false in
local macro_rules | `(tactic| walk_at "vcA") => `(tactic| simp (decide := true) only [↓kBin2_eq, ↓kBin1_eq, ↓kUn_eq, ↓kB_eq, ↓kCmp2_eq, ↓kCmp1_eq, ↓kIf_eq, ↓kList_eq, ↓kTup_eq, ↓kUp2_eq, ↓kUp1_eq, ↓kFr2_eq, ↓kFr1_eq, ↓kIt2_eq, ↓kIt1_eq, ↓kAt_eq, ↓kCall_eq, ↓kM2_eq, ↓kM1_eq, ↓kM0_eq, ↓tNot_eq, ↓tB_eq, ↓tCmp2_eq, ↓tCmp1_eq, ↓tTr_eq, ↓tBin2_eq, ↓tBin1_eq, ↓tCall_eq, ↓kEs2_eq, ↓kEs1_eq, ↓kAnd2_eq, ↓kAnd1_eq, ↓kOr2_eq, ↓kOr1_eq, ↓tAnd_eq, ↓tOr_eq, ↓qNot_eq, ↓xRet_eq, ↓xAsg_eq, ↓xAsC_eq, ↓xNx_eq, ↓xAsT_eq, ↓xS4_eq, ↓xS3_eq, ↓xS2_eq, ↓xS1_eq, ↓xA2_eq, ↓xA1_eq, ↓xG2_eq, ↓xG1_eq, ↓xIf_eq, ↓tstW_eq, ↓bodZ_eq, ↓xFR_eq, ↓xFI_eq, ↓xF_eq, ↓xFT_eq, ↓xEx_eq, ↓xTb_eq, ↓noGd_eq, ↓turn_next, ↓turn_cont, ↓turn_brk, ↓turn_ret, ↓name_hit, ↓name_miss3, name_miss, ↓arg_hit, arg_miss, ↓e_nat0, ↓e_nat1, ↓e_nat2, ↓e_nat3, ↓e_nat4, ↓e_nat5, ↓e_nat32, ↓e_nat40, ↓e_nat80, ↓e_nat251, ↓asg_name, ↓asg_tup2, ↓asg_tup3, ↓e_str, ↓e_none, ↓e_bool, ↓e_name, ↓e_bin, ↓e_un, ↓e_boolop, ↓e_cmp, ↓e_if, ↓e_list, ↓e_tup, ↓e_upto, ↓e_from, ↓e_item, ↓e_attr, ↓e_dict0, ↓e_call, ↓e_meth, ↓t_not, ↓t_boolop, ↓t_cmp, ↓t_name, ↓t_bin, ↓t_call, ↓es_nil, ↓es_cons, ↓b_one, ↓b_and, ↓b_or, ↓ts_and0, ↓ts_or0, ↓ts_and, ↓ts_or, ↓s_ret, ↓s_assign, ↓s_assignT, ↓s_assignS, ↓s_assignA, ↓s_aug, ↓s_if, ↓s_while, ↓s_forR, ↓s_forN, ↓s_forT, ↓s_forS, ↓s_expr, ↓s_break, ↓s_cont, ↓s_pass, ↓ss_nil, ↓ss_cons, ↓then_next, ↓then_brk, ↓then_cont, ↓then_ret, ↓n_add, ↓n_mul, ↓n_fdiv, ↓n_mod, ↓n_shl, ↓n_shr, ↓n_pow, ↓n_and, ↓n_or, ↓n_xor, ↓n_andnot, ↓o_cat, ↓u_inv, ↓u_neg, ↓ni_add, ↓ni_and, ↓ni_or, ↓tr_none, ↓tr_bool, ↓ntr_int, ↓tr_ref, ↓c_is, ↓c_isnot, ↓c_in, ↓c_notin, ↓nc_eq, ↓c_eqs, ↓nc_ne, ↓nc_lt, ↓nc_le, ↓nc_gt, ↓nc_ge, ↓nit_tup0, ↓nit_tup1, ↓nit_tup2, ↓nit_ref, ↓call_def, ↓len_ref, ↓len_tup, ↓nabs, ↓nmax, ↓nmin, ↓list_ref, ↓mw_app, decide_true, decide_false, decide_eq_true_eq, Bool.not_true, Bool.not_false, Bool.not_eq_true', decide_eq_false_iff_not, true_and, and_true, Bool.false_eq_true, reduceCtorEq, isn_none, isn_int, isn_str, isn_tup, isn_ref, ln0, ln1, ln2, ln3, drop_none, bit_nat, bit1_nat, bit0_nat, bitm_nat, Nat.one_mul, Nat.zero_add, Nat.pow_one, ne_eq, decide_not, not_false_eq_true, ↓reduceIte])
set_option hygiene false in
local macro_rules | `(tactic| walk_at "vc") => `(tactic| repeat (first | walk_at "vcA" | simp only [isn_tree]))
set_option hygiene false in
local macro_rules | `(tactic| walk_at "has") => `(tactic| (refine Has.of ?_; repeat (first | exact has_nil | (apply has_cons; first | kernel_rfl | rfl))))

set_option hygiene false in
local macro_rules | `(tactic| walk_at "bind1") => `(tactic| (intro name qual doc pm an cdv ct vs hv; obtain ⟨v1, rfl⟩ := len1 hv; exact rfl))
set_option hygiene false in
local macro_rules | `(tactic| walk_at "bind2") => `(tactic| (intro name qual doc pm an cdv ct vs hv; obtain ⟨v1, v2, rfl⟩ := len2 hv; exact rfl))
set_option hygiene false in
local macro_rules | `(tactic| walk_at "bind3") => `(tactic| (intro name qual doc pm an cdv ct vs hv; obtain ⟨v1, v2, v3, rfl⟩ := len3 hv; exact rfl))
set_option hygiene false in
local macro_rules | `(tactic| walk_at "bind4") => `(tactic| (intro name qual doc pm an cdv ct vs hv; obtain ⟨v1, v2, v3, v4, rfl⟩ := len4 hv; exact rfl))
set_option hygiene false in
local macro_rules | `(tactic| walk_at "unroll") => `(tactic| try simp only [iter_tup, xFI_eq, xF_eq, noGd_eq, xTb_eq, fw_cons, fw_nil, turn_next, turn_cont, turn_brk, turn_ret, true_and])
theorem lim_a {dp N : Nat} (h : dp + 100 < N) (k : Nat.ble N 1000 = true) : dp < recursionLimit := by
  have := Nat.le_of_ble_eq_true k
  show dp < 1000
  (first | lia | omega)
theorem lim_b {dp N : Nat} (h : dp < N) (k : Nat.ble N 1000 = true) : dp < recursionLimit := Nat.lt_of_lt_of_le h (Nat.le_of_ble_eq_true k)
theorem dd_a {c dp N M : Nat} (e : c = dp + 1) (h : dp + 100 < N) (k : Nat.ble (N + 1) M = true) : c + 100 < M := by
  have := Nat.le_of_ble_eq_true k
  (first | lia | omega)
theorem dd_b {c dp N M : Nat} (e : c = dp + 1) (h : dp < N) (k : Nat.ble (N + 1) M = true) : c < M := by
  have := Nat.le_of_ble_eq_true k
  (first | lia | omega)
set_option hygiene false in
local macro_rules | `(tactic| walk_at "lim") => `(tactic| first | exact lim_a (by assumption) (by rfl) | exact lim_b (by assumption) (by rfl) | (rw [limit1000]; (first | lia | omega)))
set_option hygiene false in
local macro_rules | `(tactic| walk_at "dd") => `(tactic| first | exact dd_a (by assumption) (by assumption) (by rfl) | exact dd_b (by assumption) (by assumption) (by rfl) | (first | lia | omega))
/-! text P2 -/


/-! ### truth tables -/
noncomputable def full (k : Nat) : Nat := 2 ^ (2 ^ k) - 1
noncomputable def varT (i k : Nat) : Nat := full k ^^^ full k / (2 ^ (2 ^ i) + 1)
noncomputable def cofT (t i bit k : Nat) : Nat :=
  if bit = 1 then (t &&& varT i k) ||| (t &&& varT i k) / 2 ^ (2 ^ i) else (t ^^^ (t &&& varT i k)) ||| (t ^^^ (t &&& varT i k)) * 2 ^ (2 ^ i)
noncomputable def depT (t i k : Nat) : Bool := !decide (cofT t i 0 k = cofT t i 1 k)
noncomputable def cubeTo (places values k : Nat) : Nat → Nat
  | 0 => full k
  | i + 1 => if places.testBit i = true then (if values.testBit i = true then cubeTo places values k i &&& varT i k else cubeTo places values k i &&& (full k ^^^ varT i k)) else cubeTo places values k i
noncomputable abbrev Cube := Nat × Nat
noncomputable def cubeT (c : Cube) (k : Nat) : Nat := cubeTo c.1 c.2 k k
noncomputable def coverTo (k : Nat) : List Cube → Nat → Nat
  | [], r => r
  | c :: l, r => coverTo k l (r ||| cubeT c k)
noncomputable def coverT (l : List Cube) (k : Nat) : Nat := coverTo k l 0
theorem coverTo_append (k : Nat) (c : Cube) : ∀ (l : List Cube) (r : Nat), coverTo k (l ++ [c]) r = coverTo k l r ||| cubeT c k
  | [], _ => rfl
  | _ :: l, r => coverTo_append k c l _
noncomputable def cubeV (c : Cube) : AV := .tup [.int (c.1 : Nat), .int (c.2 : Nat)]

section
variable {g : G} {dp un : Nat} {σ : Store} {P : AV → Store → Prop}
theorem small_pow {k : Nat} (h : k ≤ 4) : 2 ^ k ≤ 16 := Nat.le_trans (Nat.pow_le_pow_right (by decide) h) (by decide)
theorem limit1000 : recursionLimit = 1000 := rfl
theorem frames100 : Builtin.pylongFrames = 100 := rfl
theorem full_table_spec (D : Defs g) (hd : dp + 100 < 900) {k : Nat} (h1 : k ≤ 4) (h : P (.int (full k : Nat)) σ) : CallN g dp un "full_table" [.int k] σ P := by
  refine FnA.call D.dfull_table ["k"] (by decide +kernel) (by walk_at "lim") rfl (by walk_at "bind1") fun c O hdp hun hcs => ?_
  show wpSs g c (_ :: _) _ _ _
  walk_at "vc"
  have := small_pow h1
  rw [n_sub (Nat.two_pow_pos _)]
  walk_at "vc"
  exact ⟨by (first | lia | omega), by (first | lia | omega), back_ret h⟩
theorem var_table_spec (D : Defs g) (hd : dp + 100 < 899) {i k : Nat} (h1 : k ≤ 4) (hi : i ≤ 4) (h : P (.int (varT i k : Nat)) σ) : CallN g dp un "var_table" [.int i, .int k] σ P := by
  refine FnA.call D.dvar_table ["i", "k"] (by decide +kernel) (by walk_at "lim") rfl (by walk_at "bind2") fun c O hdp hun hcs => ?_
  show wpSs g c (_ :: _) _ _ _
  walk_at "vc"
  refine full_table_spec D (by walk_at "dd") h1 ?_
  walk_at "vc"
  have := small_pow hi
  exact ⟨by (first | lia | omega), by (first | lia | omega), by rw [limit1000, frames100]; (first | lia | omega), back_ret h⟩
theorem cofactor_spec (D : Defs g) (hd : dp + 100 < 898) {t i b k : Nat} (h1 : k ≤ 4) (hi : i ≤ 4) (ht : t < 2 ^ 64) (h : P (.int (cofT t i b k : Nat)) σ) : CallN g dp un "cofactor" [.int t, .int i, .int b, .int k] σ P := by
  refine FnA.call D.dcofactor ["t", "i", "bit", "k"] (by decide +kernel) (by walk_at "lim") rfl (by walk_at "bind4") fun c O hdp hun hcs => ?_
  show wpSs g c (_ :: _) _ _ _
  walk_at "vc"
  refine var_table_spec D (by walk_at "dd") h1 hi ?_
  have := small_pow hi
  walk_at "vc"
  unfold cofT at h
  split
  · rename_i e
    rw [if_pos e] at h
    exact ⟨by (first | lia | omega), back_ret h⟩
  · rename_i e
    rw [if_neg e] at h
    exact ⟨by (first | lia | omega), by (first | lia | omega), Nat.xor_lt_two_pow ht (Nat.lt_of_le_of_lt Nat.and_le_left ht), back_ret h⟩
theorem depends_spec (D : Defs g) (hd : dp + 100 < 897) {t i k : Nat} (h1 : k ≤ 4) (hi : i ≤ 4) (ht : t < 2 ^ 64) (h : P (.bool (depT t i k)) σ) : CallN g dp un "depends" [.int t, .int i, .int k] σ P := by
  refine FnA.call D.ddepends ["t", "i", "k"] (by decide +kernel) (by walk_at "lim") rfl (by walk_at "bind3") fun c O hdp hun hcs => ?_
  show wpSs g c (_ :: _) _ _ _
  walk_at "vc"
  refine cofactor_spec D (by walk_at "dd") h1 hi ht ?_
  refine cofactor_spec D (by walk_at "dd") h1 hi ht ?_
  walk_at "vc"
  exact back_ret h
theorem full_lt {k : Nat} (h : k ≤ 4) : full k < 2 ^ 64 := by
  have : 2 ^ (2 ^ k) ≤ 2 ^ 16 := Nat.pow_le_pow_right (by decide) (small_pow h)
  unfold full
  (first | lia | omega)
theorem cube_table_spec (D : Defs g) (hd : dp + 100 < 897) {q : Cube} {k : Nat} (h1 : k ≤ 4) (h : P (.int (cubeT q k : Nat)) σ) : CallN g dp un "cube_table" [cubeV q, .int k] σ P := by
  refine FnA.call D.dcube_table ["cube", "k"] (by decide +kernel) (by walk_at "lim") rfl (by walk_at "bind2") fun c O hdp hun hcs => ?_
  show wpSs g c (_ :: _) _ _ _
  obtain ⟨p, v⟩ := q
  unfold cubeV
  walk_at "vc"
  refine full_table_spec D (by walk_at "dd") h1 ?_
  refine ⟨_, rfl, by (first | lia | omega), by (first | lia | omega), ?_⟩
  refine forR_rule k (fun i lo σ' => σ' = σ ∧ Has lo [("k", .int k), ("places", .int p), ("values", .int v), ("full", .int (full k : Nat)), ("result", .int (cubeTo p v k i : Nat))]) ⟨rfl, by walk_at "has"⟩ ?_ ?_
  · rintro lo σ' ⟨rfl, lo, rfl⟩
    simp only [Locals.sets]
    walk_at "vc"
    exact back_ret h
  · rintro i lo σ' hi ⟨rfl, lo, rfl⟩ Q T
    simp only [Locals.sets]
    walk_at "vc"
    split
    · rename_i e1
      split
      · rename_i e2
        refine var_table_spec D (by walk_at "dd") h1 (by (first | lia | omega)) ?_
        walk_at "vc"
        refine T.next _ _ ⟨rfl, ?_⟩
        simp only [cubeTo, e1, e2, if_true]
        walk_at "has"
      · rename_i e2
        refine var_table_spec D (by walk_at "dd") h1 (by (first | lia | omega)) ?_
        walk_at "vc"
        refine T.next _ _ ⟨rfl, ?_⟩
        simp only [cubeTo, e1, e2, if_true, if_false]
        walk_at "has"
    · rename_i e1
      refine T.next _ _ ⟨rfl, ?_⟩
      simp only [cubeTo, e1, if_false]
      walk_at "has"
theorem cover_table_spec (D : Defs g) (hd : dp + 100 < 896) {p : Addr} {l : List Cube} (hl : σ p = some (.list (l.map cubeV))) {k : Nat} (h1 : k ≤ 4) (h : P (.int (coverT l k : Nat)) σ) : CallN g dp un "cover_table" [.ref p, .int k] σ P := by
  refine FnA.call D.dcover_table ["cubes", "k"] (by decide +kernel) (by walk_at "lim") rfl (by walk_at "bind2") fun c O hdp hun hcs => ?_
  show wpSs g c (_ :: _) _ _ _
  walk_at "vc"
  refine ⟨_, ⟨p, rfl, .inl hl⟩, ?_⟩
  refine forL_rule cubeV l (fun pre lo σ' => σ' = σ ∧ Has lo [("k", .int k), ("result", .int (coverT pre k : Nat))]) ⟨rfl, by walk_at "has"⟩ ?_ ?_
  · rintro lo σ' ⟨rfl, lo, rfl⟩
    simp only [Locals.sets]
    walk_at "vc"
    exact ⟨⟨p, rfl, .inl hl⟩, back_ret h⟩
  · rintro pre q post lo σ' e ⟨rfl, lo, rfl⟩
    refine ⟨⟨p, rfl, .inl hl⟩, fun Q T => ?_⟩
    simp only [Locals.sets]
    walk_at "vc"
    refine cube_table_spec D (by walk_at "dd") h1 ?_
    walk_at "vc"
    refine T.next _ _ ⟨rfl, ?_⟩
    unfold coverT
    rw [coverTo_append]
    walk_at "has"
end
/-! text P3 -/
/-! ### parts of stores -/
noncomputable def Sub (σ σ' : Store) : Prop := ∀ a mo, σ a = some mo → σ' a = some mo
theorem Sub.refl (σ : Store) : Sub σ σ := fun _ _ e => e
theorem Sub.trans {a b c : Store} (x : Sub a b) (y : Sub b c) : Sub a c := fun p m e => y p m (x p m e)
theorem Sub.none {σ σ' : Store} (h : Sub σ σ') {a : Addr} (e : σ' a = none) : σ a = none := by
  cases q : σ a with
  | none => rfl
  | some m => rw [h a m q] at e; cases e
theorem Sub.ne {σ σ' : Store} (h : Sub σ σ') {a b : Addr} {m : MO} (e : σ a = some m) (e' : σ' b = Option.none) : a ≠ b := by
  rintro rfl
  rw [h _ _ e] at e'; cases e'
/-- an object outside the part is changed or made -/
theorem Sub.set {σ σ' : Store} (h : Sub σ σ') {a : Addr} {m : MO} (e : σ a = Option.none) : Sub σ (σ'.set a m) := fun b m' q => by
  have hne : b ≠ a := by rintro rfl; rw [e] at q; cases q
  rw [Store.set_ne hne]
  exact h _ _ q
theorem Sub.new {σ : Store} {a : Addr} {m : MO} (e : σ a = Option.none) : Sub σ (σ.set a m) := (Sub.refl σ).set e
/-- the part with one more object -/
theorem Sub.plus {σ σ' : Store} (h : Sub σ σ') {a : Addr} {m : MO} (e : σ' a = some m) : Sub (σ.set a m) σ' := fun b m' q => by
  unfold Store.set at q
  split at q
  · rename_i z; cases q; rw [z, e]
  · exact h _ _ q
section
variable {g : G} {c : Cx} {σ σ' : Store} {P : AV → Store → Prop} {lo : Locals}
theorem back_sub {av : AV} (h : P av σ) (k : Sub σ σ') : Back P (.ret av) lo σ' := back_less h k
/-- a new list is handed back -/
noncomputable abbrev New (σ : Store) (m : MO) (P : AV → Store → Prop) : Prop := ∀ d σ', σ d = none → Sub σ σ' → σ' d = some m → P (.ref d) σ'
theorem mk_app {p : Addr} {l : List AV} {K : MK → Prop} (h : σ p = some (.list l)) : methK g (.ref p) "append" σ K = K (.app p) := by
  simp only [methK, h, if_true]
end



noncomputable def topVar (on upper k : Nat) : Nat → Option Nat
  | 0 => none
  | i + 1 => if depT on i k = true ∨ depT upper i k = true then some i else topVar on upper k i
theorem topVar_lt {on upper k : Nat} : ∀ {n i : Nat}, topVar on upper k n = some i → i < n
  | 0, _, h => by cases h
  | n + 1, i, h => by
    unfold topVar at h
    split at h
    · cases h; (first | lia | omega)
    · have := topVar_lt h; (first | lia | omega)
noncomputable def sub0on (on upper i k : Nat) : Nat := cofT on i 0 k &&& (full k ^^^ cofT upper i 1 k)
noncomputable def sub1on (on upper i k : Nat) : Nat := cofT on i 1 k &&& (full k ^^^ cofT upper i 0 k)
noncomputable def sub2on (on upper i k : Nat) (c0 c1 : List Cube) : Nat := (cofT on i 0 k &&& (full k ^^^ coverT c0 k)) ||| (cofT on i 1 k &&& (full k ^^^ coverT c1 k))
noncomputable def sub2up (upper i k : Nat) : Nat := cofT upper i 0 k &&& cofT upper i 1 k
noncomputable def lift0 (i : Nat) (c : Cube) : Cube := (c.1 ||| 2 ^ i, c.2)
noncomputable def lift1 (i : Nat) (c : Cube) : Cube := (c.1 ||| 2 ^ i, c.2 ||| 2 ^ i)
noncomputable def isopF : Nat → Nat → Nat → Nat → List Cube
  | 0, _, _, _ => []
  | f + 1, on, upper, k => if on = 0 then [] else if upper = full k then [(0, 0)] else match topVar on upper k k with
    | none => []
    | some i =>
      let c0 := isopF f (sub0on on upper i k) (cofT upper i 0 k) k
      let c1 := isopF f (sub1on on upper i k) (cofT upper i 1 k) k
      let c2 := isopF f (sub2on on upper i k c0 c1) (sub2up upper i k) k
      c0.map (lift0 i) ++ c1.map (lift1 i) ++ c2
/-- the recursion comes to its end -/
noncomputable def IsopOk : Nat → Nat → Nat → Nat → Prop
  | 0, _, _, _ => False
  | f + 1, on, upper, k => on < 2 ^ 64 ∧ upper < 2 ^ 64 ∧ (on = 0 ∨ upper = full k ∨ ∃ i, topVar on upper k k = some i ∧
      IsopOk f (sub0on on upper i k) (cofT upper i 0 k) k ∧ IsopOk f (sub1on on upper i k) (cofT upper i 1 k) k ∧
      IsopOk f (sub2on on upper i k (isopF f (sub0on on upper i k) (cofT upper i 0 k) k) (isopF f (sub1on on upper i k) (cofT upper i 1 k) k)) (sub2up upper i k) k)
theorem isopF_len : ∀ (f on upper k : Nat), (isopF f on upper k).length ≤ 3 ^ f
  | 0, _, _, _ => by simp [isopF]
  | f + 1, on, upper, k => by
    unfold isopF
    split
    · simp
    · split
      · simp only [List.length_singleton]; exact Nat.one_le_pow _ _ (by decide)
      · split
        · simp
        · rename_i i _
          have h1 := isopF_len f (sub0on on upper i k) (cofT upper i 0 k) k
          have h2 := isopF_len f (sub1on on upper i k) (cofT upper i 1 k) k
          have h3 := isopF_len f (sub2on on upper i k (isopF f (sub0on on upper i k) (cofT upper i 0 k) k) (isopF f (sub1on on upper i k) (cofT upper i 1 k) k)) (sub2up upper i k) k
          simp only [List.length_append, List.length_map]
          rw [Nat.pow_succ]
          (first | lia | omega)
theorem pow3 {f : Nat} (h : f ≤ 5) : 3 ^ f ≤ 243 := Nat.le_trans (Nat.pow_le_pow_right (by decide) h) (by decide)
theorem sizeLine_eq : sizeLine = 16777216 := rfl

section
variable {g : G} {dp un : Nat} {σ : Store} {P : AV → Store → Prop}
theorem isop_spec (D : Defs g) : ∀ (f : Nat) {dp un : Nat} {σ : Store} {P : AV → Store → Prop} {on upper k : Nat}, f ≤ 5 → dp + f + 100 < 890 → k ≤ 4 → IsopOk f on upper k → New σ (.list ((isopF f on upper k).map cubeV)) P →
    CallN g dp un "isop" [.int on, .int upper, .int k] σ P := by
  intro f
  induction f with
  | zero => intro dp un σ P on upper k _ _ _ h _; exact h.elim
  | succ f ih =>
  intro dp un σ P on upper k hf hd h1 hok h
  refine FnA.call D.disop ["on", "upper", "k"] (by decide +kernel) (by walk_at "lim") rfl (by walk_at "bind3") fun c O hdp hun hcs => ?_
  show wpSs g c (_ :: _) _ _ _
  obtain ⟨ho, hu, hok⟩ := hok
  unfold isopF at h
  walk_at "vc"
  split
  · rename_i e
    rw [if_pos e] at h
    exact fun d e => back_ret (h d _ e (Sub.new e) Store.set_same)
  · rename_i e0
    rw [if_neg e0] at h
    refine full_table_spec D (by walk_at "dd") h1 ?_
    walk_at "vc"
    split
    · rename_i e1
      rw [if_pos e1] at h
      exact fun d e => back_ret (h d _ e (Sub.new e) Store.set_same)
    · rename_i e1
      rw [if_neg e1] at h
      obtain ⟨i, hi, k0, k1, k2⟩ := (hok.resolve_left e0).resolve_left e1
      rw [hi] at h
      dsimp only at h
      have hik := topVar_lt hi
      rw [n_sub (by (first | lia | omega))]
      walk_at "vc"
      generalize hR : thenZ _ g c _ _ = R
      have fin : ∀ lo : Locals, Has lo [("on", .int on), ("upper", .int upper), ("k", .int k), ("full", .int (full k : Nat)), ("i", .int i)] → R .next lo σ := by
        rintro _ ⟨lo, rfl⟩
        subst hR
        simp only [Locals.sets]
        walk_at "vc"
        refine cofactor_spec D (by walk_at "dd") h1 (by (first | lia | omega)) ho ?_
        walk_at "vc"
        refine cofactor_spec D (by walk_at "dd") h1 (by (first | lia | omega)) ho ?_
        walk_at "vc"
        refine cofactor_spec D (by walk_at "dd") h1 (by (first | lia | omega)) hu ?_
        walk_at "vc"
        refine cofactor_spec D (by walk_at "dd") h1 (by (first | lia | omega)) hu ?_
        walk_at "vc"
        refine ih (on := sub0on on upper i k) (by (first | lia | omega)) (by (first | lia | omega)) h1 k0 (fun d0 σ0 n0 S0 m0 => ?_)
        walk_at "vc"
        refine ih (on := sub1on on upper i k) (by (first | lia | omega)) (by (first | lia | omega)) h1 k1 (fun d1 σ1 n1 S1 m1 => ?_)
        have m0 := S1 _ _ m0
        walk_at "vc"
        refine cover_table_spec D (by walk_at "dd") m0 h1 ?_
        walk_at "vc"
        refine cover_table_spec D (by walk_at "dd") m1 h1 ?_
        walk_at "vc"
        refine ih (on := sub2on on upper i k _ _) (upper := sub2up upper i k) (by (first | lia | omega)) (by (first | lia | omega)) h1 k2 (fun d2 σ2 n2 S2 m2 => ?_)
        walk_at "vc"
        have len0 := Nat.le_trans (isopF_len f (sub0on on upper i k) (cofT upper i 0 k) k) (pow3 (by (first | lia | omega)))
        have len1 := Nat.le_trans (isopF_len f (sub1on on upper i k) (cofT upper i 1 k) k) (pow3 (by (first | lia | omega)))
        have len2 := Nat.le_trans (isopF_len f (sub2on on upper i k (isopF f (sub0on on upper i k) (cofT upper i 0 k) k) (isopF f (sub1on on upper i k) (cofT upper i 1 k) k)) (sub2up upper i k) k) (pow3 (by (first | lia | omega)))
        intro d3 n3
        have hS3 : Sub σ (σ2.set d3 (.list [])) := ((S0.trans S1).trans S2).set (((S0.trans S1).trans S2).none n3)
        refine ⟨_, ⟨d0, rfl, .inl ((Sub.new n3) _ _ (S2 _ _ m0))⟩, ?_⟩
        refine forL_rule cubeV _ (fun pre lo σ' => Sub σ2 σ' ∧ σ' d3 = some (.list ((pre.map (lift0 i)).map cubeV)) ∧ Has lo [("i", .int i), ("cubes1", .ref d1), ("cubes2", .ref d2), ("found", .ref d3)])
          ⟨Sub.new n3, Store.set_same, by walk_at "has"⟩ ?_ ?_
        · rintro _ σ3 ⟨S3, m3, lo, rfl⟩
          refine ⟨⟨d0, rfl, .inl (S3 _ _ (S2 _ _ m0))⟩, ?_⟩
          simp only [Locals.sets]
          walk_at "vc"
          refine ⟨_, ⟨d1, rfl, .inl (S3 _ _ (S2 _ _ m1))⟩, ?_⟩
          refine forL_rule cubeV _ (fun pre lo σ' => Sub σ2 σ' ∧ σ' d3 = some (.list (((isopF f (sub0on on upper i k) (cofT upper i 0 k) k).map (lift0 i) ++ pre.map (lift1 i)).map cubeV)) ∧ Has lo [("i", .int i), ("cubes2", .ref d2), ("found", .ref d3)])
            ⟨S3, by rw [m3]; simp, by walk_at "has"⟩ ?_ ?_
          · rintro _ σ4 ⟨S4, m4, lo, rfl⟩
            refine ⟨⟨d1, rfl, .inl (S4 _ _ (S2 _ _ m1))⟩, ?_⟩
            simp only [Locals.sets]
            walk_at "vc"
            refine ⟨_, _, m4, S4 _ _ m2, ?_, fun d5 n5 => ?_⟩
            · simp only [List.length_map, List.length_append]
              rw [sizeLine_eq]; (first | lia | omega)
            · exact back_ret (h d5 _ ((((S0.trans S1).trans S2).trans S4).none n5) ((((S0.trans S1).trans S2).trans S4).set ((((S0.trans S1).trans S2).trans S4).none n5)) (by rw [Store.set_same, ← List.map_append]))
          · rintro pre q post _ σ4 e ⟨S4, m4, lo, rfl⟩
            refine ⟨⟨d1, rfl, .inl (S4 _ _ (S2 _ _ m1))⟩, fun Q T => ?_⟩
            simp only [Locals.sets]
            unfold cubeV
            walk_at "vc"
            rw [mk_app m4]
            walk_at "vc"
            have hlen := congrArg List.length e
            simp only [List.length_append, List.length_cons] at hlen
            refine ⟨by (first | lia | omega), by (first | lia | omega), _, m4, ?_, T.next _ _ ⟨S4.set n3, ?_, by walk_at "has"⟩⟩
            · simp only [List.length_map, List.length_append]
              rw [sizeLine_eq]; (first | lia | omega)
            · rw [Store.set_same]
              simp only [List.map_append, List.map_cons, List.map_nil, List.append_assoc]
              rfl
        · rintro pre q post _ σ3 e ⟨S3, m3, lo, rfl⟩
          refine ⟨⟨d0, rfl, .inl (S3 _ _ (S2 _ _ m0))⟩, fun Q T => ?_⟩
          simp only [Locals.sets]
          unfold cubeV
          walk_at "vc"
          rw [mk_app m3]
          walk_at "vc"
          have hlen := congrArg List.length e
          simp only [List.length_append, List.length_cons] at hlen
          refine ⟨by (first | lia | omega), _, m3, ?_, T.next _ _ ⟨S3.set n3, ?_, by walk_at "has"⟩⟩
          · simp only [List.length_map]
            rw [sizeLine_eq]; (first | lia | omega)
          · rw [Store.set_same]
            simp only [List.map_append, List.map_cons, List.map_nil]
            rfl
      refine while_rule (m := k - 1) (fun n lo σ' => σ' = σ ∧ n < k ∧ topVar on upper k (n + 1) = some i ∧ Has lo [("on", .int on), ("upper", .int upper), ("k", .int k), ("full", .int (full k : Nat)), ("i", .int n)])
        ⟨rfl, by (first | lia | omega), by rw [show k - 1 + 1 = k by (first | lia | omega)]; exact hi, by walk_at "has"⟩ ?_
      rintro n lo σ' ⟨rfl, hn, ht, lo, rfl⟩ Q T
      simp only [Locals.sets]
      walk_at "vc"
      refine depends_spec D (by walk_at "dd") h1 (by (first | lia | omega)) ho ?_
      walk_at "vc"
      unfold topVar at ht
      split
      · rename_i q1
        refine depends_spec D (by walk_at "dd") h1 (by (first | lia | omega)) hu ?_
        walk_at "vc"
        split
        · rename_i q2
          rw [if_neg (by simp [q1, q2])] at ht
          have := topVar_lt ht
          rw [ni_sub (by (first | lia | omega))]
          walk_at "vc"
          refine T.next _ _ ⟨n - 1, by (first | lia | omega), rfl, by (first | lia | omega), by rw [show n - 1 + 1 = n by (first | lia | omega)]; exact ht, by walk_at "has"⟩
        · rename_i q2
          rw [if_pos (by simp [q2])] at ht
          cases ht
          exact fin _ (by walk_at "has")
      · rename_i q1
        rw [if_pos (by simp [q1])] at ht
        cases ht
        exact fin _ (by walk_at "has")
end
/-! text P4 -/


/-! ### trees -/
theorem sok_zero : PyData.strOk "zero" = true := by decide +kernel
theorem sok_one : PyData.strOk "one" = true := by decide +kernel
theorem sok_lit : PyData.strOk "lit" = true := by decide +kernel
theorem sok_and : PyData.strOk "and" = true := by decide +kernel
theorem sok_or : PyData.strOk "or" = true := by decide +kernel
inductive Tree where
  | zero
  | one
  | lit (p s : Nat)
  | and (l r : Tree)
  | or (l r : Tree)
  deriving Inhabited, DecidableEq
namespace Tree
noncomputable def av : Tree → AV
  | zero => .tup [.str "zero"]
  | one => .tup [.str "one"]
  | lit p s => .tup [.str "lit", .int (p : Nat), .int (s : Nat)]
  | and l r => .tup [.str "and", l.av, r.av]
  | or l r => .tup [.str "or", l.av, r.av]
noncomputable def pd : Tree → PyData
  | zero => .tuple [.str "zero"]
  | one => .tuple [.str "one"]
  | lit p s => .tuple [.str "lit", .int (p : Nat), .int (s : Nat)]
  | and l r => .tuple [.str "and", l.pd, r.pd]
  | or l r => .tuple [.str "or", l.pd, r.pd]
noncomputable def dep : Tree → Nat
  | zero => 1
  | one => 1
  | lit _ _ => 1
  | and l r => max l.dep r.dep + 1
  | or l r => max l.dep r.dep + 1
noncomputable def cost : Tree → Nat
  | zero => 0
  | one => 0
  | lit _ _ => 0
  | and l r => 1 + l.cost + r.cost
  | or l r => 1 + l.cost + r.cost
noncomputable def at_ (x : Nat) : Tree → Bool
  | zero => false
  | one => true
  | lit p s => decide ((x.testBit p).toNat = s)
  | and l r => l.at_ x && r.at_ x
  | or l r => l.at_ x || r.at_ x
noncomputable def ok (k : Nat) : Tree → Prop
  | zero => True
  | one => True
  | lit p s => p < k ∧ s ≤ 1
  | and l r => l.ok k ∧ r.ok k
  | or l r => l.ok k ∧ r.ok k
theorem av_pd : ∀ t : Tree, t.av.pd = some t.pd
  | zero => rfl
  | one => rfl
  | lit _ _ => rfl
  | and l r => by simp only [av, AV.pd, AV.pds, av_pd l, av_pd r, pd]; rfl
  | or l r => by simp only [av, AV.pd, AV.pds, av_pd l, av_pd r, pd]; rfl
theorem av_sd (t : Tree) (σ : Store) : t.av.sd σ = some t.pd := by
  have := av_pd t
  cases t <;> exact this
theorem lay : ∀ t : Tree, t.pd.canLay0 = true
  | zero => by simp [pd, PyData.canLay0, PyData.canLayAll0, sok_zero]
  | one => by simp [pd, PyData.canLay0, PyData.canLayAll0, sok_one]
  | lit _ _ => by simp [pd, PyData.canLay0, PyData.canLayAll0, sok_lit]
  | and l r => by simp [pd, PyData.canLay0, PyData.canLayAll0, lay l, lay r, sok_and]
  | or l r => by simp [pd, PyData.canLay0, PyData.canLayAll0, lay l, lay r, sok_or]
theorem depth : ∀ t : Tree, t.pd.depth = t.dep
  | zero => rfl
  | one => rfl
  | lit _ _ => rfl
  | and l r => by simp [pd, PyData.depth, PyData.depthAll, depth l, depth r, dep]
  | or l r => by simp [pd, PyData.depth, PyData.depthAll, depth l, depth r, dep]
theorem isn (t : Tree) : AV.isNone t.av = false := by cases t <;> rfl
theorem eqv_self : ∀ t : Tree, PyData.eqv t.pd t.pd = true
  | zero => by simp [pd, PyData.eqv, PyData.eqvAll]
  | one => by simp [pd, PyData.eqv, PyData.eqvAll]
  | lit _ _ => by simp [pd, PyData.eqv, PyData.eqvAll]
  | and l r => by simp [pd, PyData.eqv, PyData.eqvAll, eqv_self l, eqv_self r]
  | or l r => by simp [pd, PyData.eqv, PyData.eqvAll, eqv_self l, eqv_self r]
theorem eqv_one (t : Tree) : PyData.eqv t.pd one.pd = decide (t = one) := by
  cases t <;> simp (decide := true) [pd, PyData.eqv, PyData.eqvAll]
end Tree
theorem isn_tree {t : Tree} : AV.isNone t.av = false := t.isn

theorem cLine_eq : cLine = 9900 := rfl
section
variable {g : G} {dp un : Nat} {σ : Store} {P : AV → Store → Prop}
theorem in_andor {x : Str} {Q : Bool → Prop} (hu : un + 2 < cLine) (hx : PyData.strOk x = true) (h : Q (decide (x = "and" ∨ x = "or"))) : inW un (.str x) (.tup [.str "and", .str "or"]) σ Q := by
  refine ⟨hu, hx, ["and", "or"], rfl, by simp [sok_and, sok_or], ?_⟩
  have e : decide (x ∈ (["and", "or"] : List Str)) = decide (x = "and" ∨ x = "or") := by simp
  rw [e]
  exact h
theorem tree_size_spec (D : Defs g) : ∀ (t : Tree) {dp un : Nat} {σ : Store} {P : AV → Store → Prop}, dp + t.dep < 1000 → P (.int (t.cost : Nat)) σ → CallN g dp un "tree_size" [t.av] σ P := by
  intro t
  induction t with
  | zero =>
    intro dp un σ P hd h
    simp only [Tree.dep] at hd
    refine FnA.call D.dtree_size ["tree"] (by decide +kernel) (by walk_at "lim") rfl (by walk_at "bind1") fun c O hdp hun hcs => ?_
    show wpSs g c (_ :: _) _ _ _
    simp only [Tree.av]
    walk_at "vc"
    exact back_ret h
  | one =>
    intro dp un σ P hd h
    simp only [Tree.dep] at hd
    refine FnA.call D.dtree_size ["tree"] (by decide +kernel) (by walk_at "lim") rfl (by walk_at "bind1") fun c O hdp hun hcs => ?_
    show wpSs g c (_ :: _) _ _ _
    simp only [Tree.av]
    walk_at "vc"
    exact back_ret h
  | lit p s =>
    intro dp un σ P hd h
    simp only [Tree.dep] at hd
    refine FnA.call D.dtree_size ["tree"] (by decide +kernel) (by walk_at "lim") rfl (by walk_at "bind1") fun c O hdp hun hcs => ?_
    show wpSs g c (_ :: _) _ _ _
    simp only [Tree.av]
    walk_at "vc"
    exact back_ret h
  | and l r ihl ihr =>
    intro dp un σ P hd h
    simp only [Tree.dep] at hd
    refine FnA.call D.dtree_size ["tree"] (by decide +kernel) (by walk_at "lim") rfl (by walk_at "bind1") fun c O hdp hun hcs => ?_
    show wpSs g c (_ :: _) _ _ _
    simp only [Tree.av]
    walk_at "vc"
    refine ihl (by (first | lia | omega)) ?_
    walk_at "vc"
    refine ihr (by (first | lia | omega)) ?_
    walk_at "vc"
    exact back_ret h
  | or l r ihl ihr =>
    intro dp un σ P hd h
    simp only [Tree.dep] at hd
    refine FnA.call D.dtree_size ["tree"] (by decide +kernel) (by walk_at "lim") rfl (by walk_at "bind1") fun c O hdp hun hcs => ?_
    show wpSs g c (_ :: _) _ _ _
    simp only [Tree.av]
    walk_at "vc"
    refine ihl (by (first | lia | omega)) ?_
    walk_at "vc"
    refine ihr (by (first | lia | omega)) ?_
    walk_at "vc"
    exact back_ret h
theorem law_cost_spec (D : Defs g) : ∀ (t : Tree) {dp un : Nat} {σ : Store} {P : AV → Store → Prop}, dp + t.dep < 1000 → un + 3 * t.dep + 10 < 9900 → P (.int (t.cost : Nat)) σ → CallN g dp un "_law_cost" [t.av] σ P := by
  intro t
  have leaf : ∀ (x : Str) (r : List AV) {dp un : Nat} {σ : Store} {P : AV → Store → Prop}, dp + 1 < 1000 → un + 10 < 9900 → PyData.strOk x = true → ¬ (x = "and" ∨ x = "or") → P (.int (0 : Nat)) σ → CallN g dp un "_law_cost" [.tup (.str x :: r)] σ P := by
    intro x r dp un σ P hd hu hx hn h
    refine FnA.call D.dlaw_cost ["tree"] (by decide +kernel) (by walk_at "lim") rfl (by walk_at "bind1") fun c O hdp hun hcs => ?_
    show wpSs g c (_ :: _) _ _ _
    walk_at "vc"
    refine in_andor (by rw [cLine_eq]; (first | lia | omega)) hx ?_
    simp only [hn, decide_false, Bool.not_false, if_true]
    walk_at "vc"
    exact back_ret h
  have node : ∀ (x : Str) (l r : Tree) {dp un : Nat} {σ : Store} {P : AV → Store → Prop}, dp + 1 < 1000 → un + 10 < 9900 → PyData.strOk x = true → (x = "and" ∨ x = "or") → 
      (∀ {σ : Store} {P : AV → Store → Prop}, P (.int (l.cost : Nat)) σ → CallN g (dp + 1) (un + 3) "_law_cost" [l.av] σ P) → (∀ {σ : Store} {P : AV → Store → Prop}, P (.int (r.cost : Nat)) σ → CallN g (dp + 1) (un + 3) "_law_cost" [r.av] σ P) →
      P (.int (1 + l.cost + r.cost : Nat)) σ → CallN g dp un "_law_cost" [.tup [.str x, l.av, r.av]] σ P := by
    intro x l r dp un σ P hd hu hx hn hl hr h
    refine FnA.call D.dlaw_cost ["tree"] (by decide +kernel) (by walk_at "lim") rfl (by walk_at "bind1") fun c O hdp hun hcs => ?_
    show wpSs g c (_ :: _) _ _ _
    walk_at "vc"
    refine in_andor (by rw [cLine_eq]; (first | lia | omega)) hx ?_
    simp only [hn, decide_true, Bool.not_true, Bool.false_eq_true, if_false]
    walk_at "vc"
    rw [hdp, hun]
    refine hl ?_
    walk_at "vc"
    rw [hdp, hun]
    refine hr ?_
    walk_at "vc"
    exact back_ret (by rw [show l.cost + r.cost + 1 = 1 + l.cost + r.cost by (first | lia | omega)]; exact h)
  induction t with
  | zero => intro dp un σ P hd hu h; simp only [Tree.dep] at hd hu; exact leaf _ _ (by (first | lia | omega)) (by (first | lia | omega)) sok_zero (by decide) h
  | one => intro dp un σ P hd hu h; simp only [Tree.dep] at hd hu; exact leaf _ _ (by (first | lia | omega)) (by (first | lia | omega)) sok_one (by decide) h
  | lit p s => intro dp un σ P hd hu h; simp only [Tree.dep] at hd hu; exact leaf _ _ (by (first | lia | omega)) (by (first | lia | omega)) sok_lit (by decide) h
  | and l r ihl ihr => intro dp un σ P hd hu h; simp only [Tree.dep] at hd hu; exact node _ l r (by (first | lia | omega)) (by (first | lia | omega)) sok_and (by decide) (fun q => ihl (by (first | lia | omega)) (by (first | lia | omega)) q) (fun q => ihr (by (first | lia | omega)) (by (first | lia | omega)) q) h
  | or l r ihl ihr => intro dp un σ P hd hu h; simp only [Tree.dep] at hd hu; exact node _ l r (by (first | lia | omega)) (by (first | lia | omega)) sok_or (by decide) (fun q => ihl (by (first | lia | omega)) (by (first | lia | omega)) q) (fun q => ihr (by (first | lia | omega)) (by (first | lia | omega)) q) h
end
/-! text P5 -/


theorem min_bit (a b : Bool) : min a.toNat b.toNat = (a && b).toNat := by cases a <;> cases b <;> rfl
theorem max_bit (a b : Bool) : max a.toNat b.toNat = (a || b).toNat := by cases a <;> cases b <;> rfl
section
variable {g : G} {dp un : Nat} {σ : Store} {P : AV → Store → Prop}
theorem law_at_spec (D : Defs g) {x : Nat} : ∀ (t : Tree) {dp un : Nat} {σ : Store} {P : AV → Store → Prop}, dp + t.dep + 100 < 999 → t.ok 4 → P (.int ((t.at_ x).toNat : Nat)) σ → CallN g dp un "_law_at" [t.av, .int x] σ P := by
  intro t
  induction t with
  | zero =>
    intro dp un σ P hd hk h
    refine FnA.call D.dlaw_at ["tree", "line"] (by decide +kernel) (by walk_at "lim") rfl (by walk_at "bind2") fun c O hdp hun hcs => ?_
    show wpSs g c (_ :: _) _ _ _
    simp only [Tree.av]
    walk_at "vc"
    exact back_ret h
  | one =>
    intro dp un σ P hd hk h
    refine FnA.call D.dlaw_at ["tree", "line"] (by decide +kernel) (by walk_at "lim") rfl (by walk_at "bind2") fun c O hdp hun hcs => ?_
    show wpSs g c (_ :: _) _ _ _
    simp only [Tree.av]
    walk_at "vc"
    exact back_ret h
  | lit p s =>
    intro dp un σ P hd hk h
    refine FnA.call D.dlaw_at ["tree", "line"] (by decide +kernel) (by walk_at "lim") rfl (by walk_at "bind2") fun c O hdp hun hcs => ?_
    show wpSs g c (_ :: _) _ _ _
    simp only [Tree.av]
    walk_at "vc"
    obtain ⟨h1, h2⟩ := hk
    simp only [Tree.dep] at hd
    have := Nat.two_pow_pos p
    refine ⟨by (first | lia | omega), by (first | lia | omega), by rw [limit1000, frames100]; (first | lia | omega), ?_⟩
    simp only [Tree.at_] at h
    split
    · rename_i e
      simp only [e, decide_true] at h
      exact back_ret h
    · rename_i e
      simp only [e, decide_false] at h
      exact back_ret h
  | and l r ihl ihr =>
    intro dp un σ P hd hk h
    refine FnA.call D.dlaw_at ["tree", "line"] (by decide +kernel) (by walk_at "lim") rfl (by walk_at "bind2") fun c O hdp hun hcs => ?_
    show wpSs g c (_ :: _) _ _ _
    simp only [Tree.av]
    simp only [Tree.dep] at hd
    walk_at "vc"
    refine ihl (by (first | lia | omega)) hk.1 ?_
    walk_at "vc"
    refine ihr (by (first | lia | omega)) hk.2 ?_
    walk_at "vc"
    exact back_ret (by rw [min_bit]; exact h)
  | or l r ihl ihr =>
    intro dp un σ P hd hk h
    refine FnA.call D.dlaw_at ["tree", "line"] (by decide +kernel) (by walk_at "lim") rfl (by walk_at "bind2") fun c O hdp hun hcs => ?_
    show wpSs g c (_ :: _) _ _ _
    simp only [Tree.av]
    simp only [Tree.dep] at hd
    walk_at "vc"
    refine ihl (by (first | lia | omega)) hk.1 ?_
    walk_at "vc"
    refine ihr (by (first | lia | omega)) hk.2 ?_
    walk_at "vc"
    exact back_ret (by rw [max_bit]; exact h)

/-! the chain of a cube's literals -/
noncomputable def chainT (mask value : Nat) : Nat → Option Tree
  | 0 => none
  | p + 1 => if mask.testBit p = true then some (match chainT mask value p with
      | none => .lit p (value.testBit p).toNat
      | some t => .and t (.lit p (value.testBit p).toNat)) else chainT mask value p
noncomputable def optT : Option Tree → AV
  | none => .none
  | some t => t.av
theorem chainT_end {mask value p : Nat} (h : mask / 2 ^ p = 0) : ∀ q, p ≤ q → chainT mask value q = chainT mask value p := by
  intro q hq
  induction q with
  | zero => rw [show p = 0 by (first | lia | omega)]
  | succ q ih =>
    by_cases e : p = q + 1
    · rw [e]
    · have : mask.testBit q = false := by
        apply Nat.testBit_lt_two_pow
        have h1 : mask < 2 ^ p := by
          rcases Nat.lt_or_ge mask (2 ^ p) with z | z
          · exact z
          · have := Nat.div_pos z (Nat.two_pow_pos p)
            (first | lia | omega)
        exact Nat.lt_of_lt_of_le h1 (Nat.pow_le_pow_right (by decide) (by (first | lia | omega)))
      rw [chainT, this, if_neg (by simp), ih (by (first | lia | omega))]
noncomputable def chain (c : Cube) : Tree := (chainT c.1 c.2 4).getD .one
theorem literal_chain_spec (D : Defs g) (hd : dp < 900) {q : Cube} (hq : q.1 < 16) (h : P (chain q).av σ) : CallN g dp un "literal_chain" [cubeV q] σ P := by
  refine FnA.call D.dliteral_chain ["cube"] (by decide +kernel) (by walk_at "lim") rfl (by walk_at "bind1") fun c O hdp hun hcs => ?_
  show wpSs g c (_ :: _) _ _ _
  obtain ⟨m, v⟩ := q
  dsimp only at hq
  unfold cubeV
  walk_at "vc"
  generalize hR : thenZ _ g c _ _ = R
  have fin : ∀ lo : Locals, Has lo [("tree", optT (chainT m v 4))] → R .next lo σ := by
    rintro _ ⟨lo, rfl⟩
    subst hR
    simp only [Locals.sets]
    walk_at "vc"
    unfold chain at h
    dsimp only at h
    cases e : chainT m v 4 with
    | none =>
      rw [e] at h
      simp only [optT]
      walk_at "vc"
      exact back_ret h
    | some t =>
      rw [e] at h
      simp only [optT]
      walk_at "vc"
      exact back_ret h
  refine while_rule (m := 4) (fun n lo σ' => σ' = σ ∧ n ≤ 4 ∧ Has lo [("mask", .int m), ("value", .int v), ("place", .int (4 - n : Nat)), ("tree", optT (chainT m v (4 - n)))]) ⟨rfl, by (first | lia | omega), by walk_at "has"⟩ ?_
  rintro n lo σ' ⟨rfl, hn, lo, rfl⟩ Q T
  simp only [Locals.sets]
  walk_at "vc"
  split
  · rename_i e
    have hn0 : n ≠ 0 := by
      rintro rfl
      apply e
      exact Nat.div_eq_of_lt (by (first | lia | omega))
    have hs : 4 - n + 1 = 4 - (n - 1) := by (first | lia | omega)
    split
    · rename_i q
      have hm : chainT m v (4 - (n - 1)) = some (match chainT m v (4 - n) with
        | none => .lit (4 - n) (v.testBit (4 - n)).toNat
        | some t => .and t (.lit (4 - n) (v.testBit (4 - n)).toNat)) := by rw [← hs, chainT, if_pos (by simpa using q)]
      cases e2 : chainT m v (4 - n) with
      | none =>
        simp only [optT]
        walk_at "vc"
        refine T.next _ _ ⟨n - 1, by (first | lia | omega), rfl, by (first | lia | omega), ?_⟩
        rw [hm, e2, hs]
        walk_at "has"
      | some t =>
        simp only [optT]
        walk_at "vc"
        refine T.next _ _ ⟨n - 1, by (first | lia | omega), rfl, by (first | lia | omega), ?_⟩
        rw [hm, e2, hs]
        walk_at "has"
    · rename_i q
      have hm : chainT m v (4 - (n - 1)) = chainT m v (4 - n) := by rw [← hs, chainT, if_neg (by simpa using q)]
      refine T.next _ _ ⟨n - 1, by (first | lia | omega), rfl, by (first | lia | omega), ?_⟩
      rw [hm, hs]
      walk_at "has"
  · rename_i e
    have e' : m / 2 ^ (4 - n) = 0 := by simpa using e
    refine fin _ ?_
    rw [chainT_end e' 4 (by (first | lia | omega))]
    walk_at "has"
end
/-! text P6 -/


noncomputable def hasLit (p s : Nat) (c : Cube) : Bool := c.1.testBit p && decide ((c.2.testBit p).toNat = s)
noncomputable def cnt (l : List Cube) (p s : Nat) : Nat := (l.filter (hasLit p s)).length
noncomputable abbrev Best := Nat × Nat × Nat
noncomputable def better (l : List Cube) (p : Nat) (b : Best) (s : Nat) : Best := if b.1 < cnt l p s then (cnt l p s, p, s) else b
noncomputable def bestTo (l : List Cube) : Nat → Best
  | 0 => (0, 0, 0)
  | p + 1 => better l p (better l p (bestTo l p) 0) 1
noncomputable def bestV (b : Best) : AV := .tup [.int (b.1 : Nat), .int (b.2.1 : Nat), .int (b.2.2 : Nat)]
theorem cnt_snoc (l : List Cube) (c : Cube) (p s : Nat) : cnt (l ++ [c]) p s = if hasLit p s c = true then cnt l p s + 1 else cnt l p s := by
  unfold cnt
  rw [List.filter_append, List.length_append]
  split
  · rename_i e; rw [List.filter_cons_of_pos e]; rfl
  · rename_i e; rw [List.filter_cons_of_neg e]; rfl
theorem foldl_snoc {α β : Type} (f : β → α → β) (b : β) (l : List α) (x : α) : (l ++ [x]).foldl f b = f (l.foldl f b) x := by simp

section
variable {g : G} {dp un : Nat} {σ : Store} {P : AV → Store → Prop}
theorem commonest_spec (D : Defs g) (hd : dp < 900) {p : Addr} {l : List Cube} (hl : σ p = some (.list (l.map cubeV))) {k : Nat} (h1 : k ≤ 4) (h : P (bestV (bestTo l k)) σ) : CallN g dp un "commonest_literal" [.ref p, .int k] σ P := by
  refine FnA.call D.dcommonest_literal ["cubes", "k"] (by decide +kernel) (by walk_at "lim") rfl (by walk_at "bind2") fun c O hdp hun hcs => ?_
  show wpSs g c (_ :: _) _ _ _
  walk_at "vc"
  refine ⟨_, rfl, by (first | lia | omega), by (first | lia | omega), ?_⟩
  refine forR_rule k (fun i lo σ' => σ' = σ ∧ Has lo [("cubes", .ref p), ("best", bestV (bestTo l i))]) ⟨rfl, by walk_at "has"⟩ ?_ ?_
  · rintro lo σ' ⟨rfl, lo, rfl⟩
    simp only [Locals.sets]
    walk_at "vc"
    exact back_ret h
  · rintro i lo σ' hi ⟨rfl, lo, rfl⟩ Q T
    simp only [Locals.sets]
    walk_at "vc"
    show forW _ _ _ (([0, 1] : List Nat).map fun n => AV.int (n : Nat)) _ _ _
    refine forL_rule (fun n : Nat => AV.int (n : Nat)) ([0, 1] : List Nat) (fun pre lo σ'' => σ'' = σ' ∧ Has lo [("cubes", .ref p), ("place", .int i), ("best", bestV (pre.foldl (better l i) (bestTo l i)))]) ⟨rfl, by walk_at "has"⟩ ?_ ?_
    · rintro lo σ'' ⟨rfl, lo, rfl⟩
      refine ⟨trivial, ?_⟩
      simp only [Locals.sets]
      walk_at "vc"
      refine T.next _ _ ⟨rfl, ?_⟩
      walk_at "has"
    · rintro pre s post lo σ'' e ⟨rfl, lo, rfl⟩
      refine ⟨trivial, fun Q T => ?_⟩
      simp only [Locals.sets]
      walk_at "vc"
      refine ⟨_, ⟨p, rfl, .inl hl⟩, ?_⟩
      refine forL_rule cubeV l (fun pr lo σ' => σ' = σ'' ∧ Has lo [("cubes", .ref p), ("place", .int i), ("best", bestV (pre.foldl (better l i) (bestTo l i))), ("sign", .int s), ("count", .int (cnt pr i s : Nat))]) ⟨rfl, by walk_at "has"⟩ ?_ ?_
      · rintro lo σ' ⟨rfl, lo, rfl⟩
        refine ⟨⟨p, rfl, .inl hl⟩, ?_⟩
        simp only [Locals.sets, bestV]
        walk_at "vc"
        split
        · rename_i q
          refine T.next _ _ ⟨rfl, ?_⟩
          rw [foldl_snoc, better, if_pos q]
          walk_at "has"
        · rename_i q
          refine T.next _ _ ⟨rfl, ?_⟩
          rw [foldl_snoc, better, if_neg q]
          walk_at "has"
      · rintro pr q post' lo σ' e' ⟨rfl, lo, rfl⟩
        refine ⟨⟨p, rfl, .inl hl⟩, fun Q T => ?_⟩
        obtain ⟨m, v⟩ := q
        simp only [Locals.sets, cubeV]
        walk_at "vc"
        have cs := cnt_snoc pr (m, v) i s
        split
        · rename_i q1
          split
          · rename_i q2
            rw [if_pos (by simp only [hasLit, q2, decide_true, Bool.and_true]; simpa using q1)] at cs
            refine T.next _ _ ⟨rfl, ?_⟩
            rw [cs]
            walk_at "has"
          · rename_i q2
            rw [if_neg (by simp [hasLit, q2])] at cs
            refine T.next _ _ ⟨rfl, ?_⟩
            rw [cs]
            walk_at "has"
        · rename_i q1
          rw [if_neg (by simp at q1; simp [hasLit, q1])] at cs
          refine T.next _ _ ⟨rfl, ?_⟩
          rw [cs]
          walk_at "has"
end
/-! text P7 -/


noncomputable def cutLit (p : Nat) (c : Cube) : Cube := (andNot c.1 (2 ^ p), andNot c.2 (2 ^ p))
noncomputable def quot (b : Best) (l : List Cube) : List Cube := (l.filter (hasLit b.2.1 b.2.2)).map (cutLit b.2.1)
noncomputable def restOf (b : Best) (l : List Cube) : List Cube := l.filter fun c => !hasLit b.2.1 b.2.2 c
noncomputable def joinAnd (leaf inner : Tree) : Tree := if inner = .one then leaf else .and leaf inner
noncomputable def factorF : Nat → List Cube → Nat → Tree
  | 0, _, _ => .zero
  | f + 1, l, k => if l = [] then .zero else if ∃ c ∈ l, c.1 = 0 then .one else if l.length = 1 then chain (l.headD (0, 0)) else
    if (bestTo l k).1 = 1 then .or (factorF f (l.take (l.length / 2)) k) (factorF f (l.drop (l.length / 2)) k)
    else if restOf (bestTo l k) l = [] then joinAnd (.lit (bestTo l k).2.1 (bestTo l k).2.2) (factorF f (quot (bestTo l k) l) k)
      else .or (joinAnd (.lit (bestTo l k).2.1 (bestTo l k).2.2) (factorF f (quot (bestTo l k) l) k)) (factorF f (restOf (bestTo l k) l) k)
/-- the recursion comes to its end -/
noncomputable def FactorOk : Nat → List Cube → Nat → Prop
  | 0, _, _ => False
  | f + 1, l, k => l.length ≤ 10000 ∧ (∀ c ∈ l, c.1 < 16) ∧ (l = [] ∨ (∃ c ∈ l, c.1 = 0) ∨ l.length = 1 ∨
    ((bestTo l k).1 = 1 ∧ FactorOk f (l.take (l.length / 2)) k ∧ FactorOk f (l.drop (l.length / 2)) k) ∨
    ((bestTo l k).1 ≠ 1 ∧ (bestTo l k).2.1 ≤ 4 ∧ FactorOk f (quot (bestTo l k) l) k ∧ (restOf (bestTo l k) l = [] ∨ FactorOk f (restOf (bestTo l k) l) k)))
theorem and_pow_ne (m p : Nat) : (¬ (m &&& 2 ^ p) = 0) = (m.testBit p = true) := by
  refine propext ⟨fun h => ?_, fun h e => ?_⟩
  · cases q : m.testBit p with
    | true => rfl
    | false =>
      refine absurd (Nat.eq_of_testBit_eq fun i => ?_) h
      rw [Nat.testBit_and, Nat.testBit_two_pow, Nat.zero_testBit]
      by_cases e : p = i
      · subst e; rw [q]; rfl
      · rw [decide_eq_false e, Bool.and_false]
  · have := congrArg (fun x => x.testBit p) e
    simp [Nat.testBit_and, h] at this
theorem quot_snoc (b : Best) (l : List Cube) (q : Cube) : quot b (l ++ [q]) = if hasLit b.2.1 b.2.2 q = true then quot b l ++ [cutLit b.2.1 q] else quot b l := by
  unfold quot
  rw [List.filter_append]
  split
  · rename_i e; rw [List.filter_cons_of_pos e]; simp
  · rename_i e; rw [List.filter_cons_of_neg e]; simp
theorem rest_snoc (b : Best) (l : List Cube) (q : Cube) : restOf b (l ++ [q]) = if hasLit b.2.1 b.2.2 q = true then restOf b l else restOf b l ++ [q] := by
  unfold restOf
  rw [List.filter_append]
  split
  · rename_i e; rw [List.filter_cons_of_neg (by simp [e])]; simp
  · rename_i e; rw [List.filter_cons_of_pos (by simp [e])]; simp
section
variable {g : G} {c : Cx} {lo : Locals} {dp un : Nat} {σ : Store} {P : AV → Store → Prop}
theorem eq_one_tree {t : Tree} {Q : Bool → Prop} (hu : un + 1 < cLine) (h : Q (decide (t = .one))) : cmpW un .Eq t.av (.tup [.str "one"]) σ Q := by
  have k : ∃ da db, t.av.sd σ = some da ∧ Tree.one.av.sd σ = some db ∧ da.canLay0 = true ∧ db.canLay0 = true ∧ un + min da.depth db.depth < cLine ∧ Q (da.eqv db) :=
    ⟨t.pd, Tree.one.pd, t.av_sd σ, rfl, t.lay, Tree.one.lay, by
      have : Tree.one.pd.depth = 1 := rfl
      rw [this]
      exact Nat.lt_of_le_of_lt (Nat.add_le_add_left (Nat.min_le_right _ _) _) hu, by rw [Tree.eqv_one]; exact h⟩
  cases t <;> exact k
theorem up_nat {p : Addr} {k : Nat} {l : List AV} (hl : σ p = some (.list l)) (hsz : l.length ≤ sizeLine) (h : ∀ d, σ d = none → P (.ref d) (σ.set d (.list (l.take k)))) : uptoW g (.ref p) (.int k) σ P :=
  ⟨by (first | lia | omega), l, ⟨p, rfl, .inl hl⟩, hsz, by rw [Int.toNat_natCast]; exact h⟩
theorem fr_nat {p : Addr} {k : Nat} {l : List AV} (hl : σ p = some (.list l)) (hsz : l.length ≤ sizeLine) (h : ∀ d, σ d = none → P (.ref d) (σ.set d (.list (l.drop k)))) : fromW g (.ref p) (.int k) σ P :=
  ⟨by (first | lia | omega), l, ⟨p, rfl, .inl hl⟩, hsz, by rw [Int.toNat_natCast]; exact h⟩
theorem factor_spec (D : Defs g) : ∀ (f : Nat) {dp un : Nat} {σ : Store} {P : AV → Store → Prop} {p : Addr} {l : List Cube} {k : Nat}, dp + f + 100 < 990 → un + 3 * f + 10 < 9900 → k ≤ 4 → σ p = some (.list (l.map cubeV)) → FactorOk f l k →
    P (factorF f l k).av σ → CallN g dp un "factor" [.ref p, .int k] σ P := by
  intro f
  induction f with
  | zero => intro dp un σ P p l k _ _ _ _ h _; exact h.elim
  | succ f ih =>
  intro dp un σ P p l k hd hu h1 hl hok h
  refine FnA.call D.dfactor ["cubes", "k"] (by decide +kernel) (by walk_at "lim") rfl (by walk_at "bind2") fun c O hdp hun hcs => ?_
  show wpSs g c (_ :: _) _ _ _
  obtain ⟨hlen, hm, hok⟩ := hok
  unfold factorF at h
  walk_at "vc"
  refine ⟨_, hl, by rw [List.length_map]; (first | lia | omega), ?_⟩
  by_cases e0 : l = []
  · subst e0
    rw [if_pos rfl] at h
    walk_at "vc"
    exact back_ret h
  rw [if_neg e0] at h
  rw [if_neg (by simp [e0])]
  refine ⟨_, ⟨p, rfl, .inl hl⟩, ?_⟩
  refine forL_rule cubeV l (fun pre lo σ' => σ' = σ ∧ (∀ q ∈ pre, q.1 ≠ 0) ∧ Has lo [("cubes", .ref p), ("k", .int k)]) ⟨rfl, fun _ q => (by cases q), by walk_at "has"⟩ ?_ ?_
  rotate_left
  · rintro pre q post lo σ' e ⟨rfl, hp, lo, rfl⟩
    refine ⟨⟨p, rfl, .inl hl⟩, fun Q T => ?_⟩
    obtain ⟨m, v⟩ := q
    simp only [Locals.sets, cubeV]
    walk_at "vc"
    split
    · rename_i q1
      subst q1
      rw [if_pos ⟨(0, v), by rw [e]; simp, rfl⟩] at h
      exact T.ret _ _ _ (back_ret (lo := lo) h)
    · rename_i q1
      refine T.next _ _ ⟨rfl, fun q hq => ?_, by walk_at "has"⟩
      rcases List.mem_append.mp hq with hq | hq
      · exact hp q hq
      · rw [List.mem_singleton.mp hq]; exact q1
  · rintro lo σ' ⟨rfl, e1, lo, rfl⟩
    refine ⟨⟨p, rfl, .inl hl⟩, ?_⟩
    have e1' : ¬ ∃ c ∈ l, c.1 = 0 := fun ⟨c, a, b⟩ => e1 c a b
    rw [if_neg e1'] at h
    simp only [Locals.sets]
    walk_at "vc"
    refine ⟨_, hl, by rw [List.length_map]; (first | lia | omega), ?_⟩
    rw [List.length_map]
    walk_at "vc"
    split
    · rename_i e2
      rw [if_pos e2] at h
      match l, e2, hl, hm, h with
      | [q], _, hl, hm, h =>
        refine ⟨_, _, hl, rfl, ?_⟩
        walk_at "vc"
        refine literal_chain_spec D (by walk_at "dd") (hm q (.head _)) ?_
        walk_at "vc"
        exact back_ret h
    · rename_i e2
      rw [if_neg e2] at h
      refine commonest_spec D (by walk_at "dd") hl h1 ?_
      unfold bestV
      walk_at "vc"
      split
      · rename_i e3
        rw [if_pos e3] at h
        obtain ⟨_, k1, k2⟩ := (((hok.resolve_left e0).resolve_left e1').resolve_left e2).resolve_right (fun z => z.1 e3)
        refine ⟨_, hl, by rw [List.length_map]; (first | lia | omega), ?_⟩
        rw [List.length_map]
        walk_at "vc"
        refine ⟨by rw [limit1000, frames100]; (first | lia | omega), ?_⟩
        refine up_nat hl (by rw [List.length_map, sizeLine_eq]; (first | lia | omega)) fun d n => ?_
        rw [← List.map_take]
        have S0 := Sub.new (m := .list ((l.take (l.length / 2)).map cubeV)) n
        have m0 : (σ'.set d (.list ((l.take (l.length / 2)).map cubeV))) d = some (.list ((l.take (l.length / 2)).map cubeV)) := Store.set_same
        generalize σ'.set d (.list ((l.take (l.length / 2)).map cubeV)) = σ1 at *
        refine ih (by (first | lia | omega)) (by (first | lia | omega)) h1 m0 k1 ?_
        walk_at "vc"
        refine fr_nat (S0 _ _ hl) (by rw [List.length_map, sizeLine_eq]; (first | lia | omega)) fun d2 n2 => ?_
        rw [← List.map_drop]
        have S1 := Sub.new (m := .list ((l.drop (l.length / 2)).map cubeV)) n2
        have m1 : (σ1.set d2 (.list ((l.drop (l.length / 2)).map cubeV))) d2 = some (.list ((l.drop (l.length / 2)).map cubeV)) := Store.set_same
        generalize σ1.set d2 (.list ((l.drop (l.length / 2)).map cubeV)) = σ2 at *
        refine ih (by (first | lia | omega)) (by (first | lia | omega)) h1 m1 k2 ?_
        walk_at "vc"
        exact back_sub h (S0.trans S1)
      · rename_i e3
        rw [if_neg e3] at h
        obtain ⟨_, hp4, k1, k2⟩ := (((hok.resolve_left e0).resolve_left e1').resolve_left e2).resolve_left (fun z => e3 z.1)
        generalize hb : bestTo l k = b at *
        refine ⟨by (first | lia | omega), fun d n d1 n1 => ?_⟩
        have hdd : d ≠ d1 := by rintro rfl; rw [Store.set_same] at n1; cases n1
        have n1' : σ' d1 = none := by rw [Store.set_ne hdd.symm] at n1; exact n1
        have S1 : Sub σ' ((σ'.set d (.list [])).set d1 (.list [])) := (Sub.new n).set n1'
        have m0 : ((σ'.set d (.list [])).set d1 (.list [])) d = some (.list []) := by rw [Store.set_ne hdd, Store.set_same]
        have m1 : ((σ'.set d (.list [])).set d1 (.list [])) d1 = some (.list []) := Store.set_same
        generalize (σ'.set d (.list [])).set d1 (.list []) = σ1 at *
        refine ⟨_, ⟨p, rfl, .inl (S1 _ _ hl)⟩, ?_⟩
        refine forL_rule cubeV l (fun pre lo σ2 => Sub σ' σ2 ∧ σ2 d = some (.list ((quot b pre).map cubeV)) ∧ σ2 d1 = some (.list ((restOf b pre).map cubeV)) ∧
          Has lo [("k", .int k), ("place", .int b.2.1), ("sign", .int b.2.2), ("bit", .int (2 ^ b.2.1 : Nat)), ("quotient", .ref d), ("rest", .ref d1)]) ⟨S1, m0, m1, by walk_at "has"⟩ ?_ ?_
        rotate_left
        · rintro pre q post lo σ2 e ⟨S2, m2, m3, lo, rfl⟩
          refine ⟨⟨p, rfl, .inl (S2 _ _ hl)⟩, fun Q T => ?_⟩
          have hql : (quot b pre).length ≤ 10000 ∧ (restOf b pre).length ≤ 10000 := by
            have h1 := List.length_filter_le (hasLit b.2.1 b.2.2) pre
            have h2 := List.length_filter_le (fun c => !hasLit b.2.1 b.2.2 c) pre
            have h3 := congrArg List.length e
            simp only [List.length_append, List.length_cons] at h3
            unfold quot restOf
            rw [List.length_map]
            (first | lia | omega)
          have s1 := quot_snoc b pre q
          have s2 := rest_snoc b pre q
          obtain ⟨m, v⟩ := q
          simp only [Locals.sets, cubeV]
          walk_at "vc"
          simp only [and_pow_ne]
          have other : hasLit b.2.1 b.2.2 (m, v) = false → ∀ lo', Has lo' [("k", .int k), ("place", .int b.2.1), ("sign", .int b.2.2), ("bit", .int (2 ^ b.2.1 : Nat)), ("quotient", .ref d), ("rest", .ref d1)] → ∃ l, σ2 d1 = some (MO.list l) ∧ l.length ≤ sizeLine ∧ Q AF.next lo' (σ2.set d1 (MO.list (l ++ [AV.tup [AV.int ↑m, AV.int ↑v]]))) := by
            intro q lo' hlo
            rw [if_neg (by rw [q]; simp)] at s1 s2
            refine ⟨_, m3, by rw [List.length_map, sizeLine_eq]; (first | lia | omega), T.next _ _ ⟨S2.set n1', ?_, ?_, hlo⟩⟩
            · rw [Store.set_ne hdd, m2, s1]
            · rw [Store.set_same, s2, List.map_append]; rfl
          split
          · rename_i q1
            split
            · rename_i q2
              rw [if_pos (by simp [hasLit, q1, q2])] at s1 s2
              rw [mk_app m2]
              walk_at "vc"
              refine ⟨_, m2, by rw [List.length_map, sizeLine_eq]; (first | lia | omega), T.next _ _ ⟨S2.set n, ?_, ?_, by walk_at "has"⟩⟩
              · rw [Store.set_same, s1, List.map_append]; rfl
              · rw [Store.set_ne hdd.symm, m3, s2]
            · rename_i q2
              rw [mk_app m3]
              walk_at "vc"
              exact other (by simp [hasLit, q2]) _ (by walk_at "has")
          · rename_i q1
            rw [mk_app m3]
            walk_at "vc"
            exact other (by simp at q1; simp [hasLit, q1]) _ (by walk_at "has")
        · rintro lo σ2 ⟨S2, m2, m3, lo, rfl⟩
          refine ⟨⟨p, rfl, .inl (S2 _ _ hl)⟩, ?_⟩
          simp only [Locals.sets]
          walk_at "vc"
          refine ih (by (first | lia | omega)) (by (first | lia | omega)) h1 m2 k1 ?_
          walk_at "vc"
          refine eq_one_tree (by rw [cLine_eq]; (first | lia | omega)) ?_
          walk_at "vc"
          have hrl : (restOf b l).length ≤ 10000 := Nat.le_trans (List.length_filter_le _ _) hlen
          split
          · rename_i e
            refine ⟨_, m3, by rw [List.length_map]; (first | lia | omega), ?_⟩
            by_cases er : restOf b l = []
            · rw [if_neg (by simp [er])]
              rw [if_pos er, joinAnd, if_pos e] at h
              exact back_sub h S2
            · rw [if_pos (by simpa using er)]
              rw [if_neg er, joinAnd, if_pos e] at h
              refine ih (by (first | lia | omega)) (by (first | lia | omega)) h1 m3 (k2.resolve_left er) ?_
              walk_at "vc"
              exact back_sub h S2
          · rename_i e
            refine ⟨_, m3, by rw [List.length_map]; (first | lia | omega), ?_⟩
            by_cases er : restOf b l = []
            · rw [if_neg (by simp [er])]
              rw [if_pos er, joinAnd, if_neg e] at h
              exact back_sub h S2
            · rw [if_pos (by simpa using er)]
              rw [if_neg er, joinAnd, if_neg e] at h
              refine ih (by (first | lia | omega)) (by (first | lia | omega)) h1 m3 (k2.resolve_left er) ?_
              walk_at "vc"
              exact back_sub h S2
end
/-! text P8 -/


noncomputable def onT (t k : Nat) : Tree := factorF 450 (isopF 5 t t k) k
/-- what the plain law shows of a table -/
structure TabOk (t k : Nat) : Prop where
  lt : t < 2 ^ (2 ^ k)
  isop : IsopOk 5 t t k
  factor : FactorOk 450 (isopF 5 t t k) k
  dep : (onT t k).dep ≤ 410
  cost : (onT t k).cost ≤ 410
  ok : (onT t k).ok k
  sem : ∀ x, x < 2 ^ k → (onT t k).at_ x = t.testBit x
noncomputable def bestT (t k : Nat) : Tree × Nat := if (onT (full k ^^^ t) k).cost < (onT t k).cost then (onT (full k ^^^ t) k, 1) else (onT t k, 0)
section
variable {g : G} {dp un : Nat} {σ : Store} {P : AV → Store → Prop}
theorem on_spec (D : Defs g) {t k : Nat} (hd : dp < 430) (hu : un + 2000 < 9900) (h1 : k ≤ 4) (h : TabOk t k) {p : Addr} {σ' : Store} (hp : σ' p = some (.list ((isopF 5 t t k).map cubeV))) (q : P (onT t k).av σ') :
    CallN g dp un "factor" [.ref p, .int k] σ' P := factor_spec D 450 (by (first | lia | omega)) (by (first | lia | omega)) h1 hp h.factor q
theorem best_tree_spec (D : Defs g) {t k : Nat} (hd : dp < 420) (hu : un + 2010 < 9900) (h1 : k ≤ 4) (ht : TabOk t k) (ht' : TabOk (full k ^^^ t) k) (h : P (.tup [(bestT t k).1.av, .int ((bestT t k).2 : Nat)]) σ) :
    CallN g dp un "best_tree" [.int t, .int k] σ P := by
  refine FnA.call D.dbest_tree ["table", "k"] (by decide +kernel) (by walk_at "lim") rfl (by walk_at "bind2") fun c O hdp hun hcs => ?_
  show wpSs g c (_ :: _) _ _ _
  walk_at "vc"
  have := small_pow h1
  refine ⟨by (first | lia | omega), by (first | lia | omega), ?_⟩
  rw [n_sub (Nat.two_pow_pos _)]
  walk_at "vc"
  refine isop_spec D 5 (by (first | lia | omega)) (by (first | lia | omega)) h1 ht.isop fun d0 σ0 n0 S0 m0 => ?_
  refine on_spec D (by walk_at "dd") (by (first | lia | omega)) h1 ht m0 ?_
  walk_at "vc"
  refine isop_spec D 5 (on := full k ^^^ t) (upper := full k ^^^ t) (by (first | lia | omega)) (by (first | lia | omega)) h1 ht'.isop fun d1 σ1 n1 S1 m1 => ?_
  refine on_spec D (by walk_at "dd") (by (first | lia | omega)) h1 ht' m1 ?_
  walk_at "vc"
  refine tree_size_spec D _ (by have := ht'.dep; (first | lia | omega)) ?_
  refine tree_size_spec D _ (by have := ht.dep; (first | lia | omega)) ?_
  walk_at "vc"
  unfold bestT at h
  split
  · rename_i e
    rw [if_pos e] at h
    exact back_sub h (S0.trans S1)
  · rename_i e
    rw [if_neg e] at h
    exact back_sub h (S0.trans S1)
end
/-! text Q1 -/

/-! ### the graph -/
noncomputable abbrev Nd := Option (Nat × Nat)
noncomputable def pairV (p : Nat × Nat) : AV := .tup [.int (p.1 : Nat), .int (p.2 : Nat)]
noncomputable def ndV : Nd → AV
  | none => .none
  | some p => pairV p
noncomputable abbrev Tb := List ((Nat × Nat) × Nat)
noncomputable def tbV (tb : Tb) : List ((Int × Int) × Int) := tb.map fun e => ((((e.1.1 : Nat) : Int), ((e.1.2 : Nat) : Int)), ((e.2 : Nat) : Int))
structure Ag where
  x : Addr
  d : Addr
  n : Addr
  i : Addr
  o : Addr
  t : Addr
structure AgAt (g : G) (a : Ag) (σ : Store) (ns : List Nd) (ins : List Nat) (tb : Tb) : Prop where
  x : σ a.x = some (.inst (g.fn "Aig") a.d)
  d : σ a.d = some (.attrs [("table", .ref a.t), ("outputs", .ref a.o), ("inputs", .ref a.i), ("nodes", .ref a.n)])
  n : σ a.n = some (.list (ns.map ndV))
  i : σ a.i = some (.list (ins.map fun j => AV.int (j : Nat)))
  t : σ a.t = some (.tab (tbV tb))
  ni : a.n ≠ a.i
noncomputable def clsBody : Stmt → List Stmt
  | .ClassDef _ _ _ b _ _ _ _ _ _ _ => b
  | _ => []
noncomputable def methAt (i : Nat) : Stmt := (clsBody (stmtAt 22)).getD i (.Pass ⟨0, 0, 0, 0⟩)

/-- what the written part says of the class -/
structure ClsOk (g : G) : Prop where
  nodes : AttrIn g (g.fn "Aig") "nodes"
  inputs : AttrIn g (g.fn "Aig") "inputs"
  table : AttrIn g (g.fn "Aig") "table"
  land : ∃ f, MethIn g (g.fn "Aig") "land" f ∧ FnA g f (methAt 4)
  add_input : ∃ f, MethIn g (g.fn "Aig") "add_input" f ∧ FnA g f (methAt 1)
section
variable {g : G} {c : Cx} {dp un : Nat} {σ : Store} {P : AV → Store → Prop} {a : Ag} {ns : List Nd} {ins : List Nat} {tb : Tb}
theorem at_nodes (K : ClsOk g) (A : AgAt g a σ ns ins tb) : attrW g (.ref a.x) "nodes" σ P = P (.ref a.n) σ := by
  refine propext ⟨?_, fun h => ⟨_, _, _, _, _, rfl, A.x, A.d, rfl, K.nodes, h⟩⟩
  rintro ⟨x, C, d, l, av, e1, e2, e3, e4, e5, h⟩
  cases e1
  rw [A.x] at e2; cases e2
  rw [A.d] at e3; cases e3
  cases e4
  exact h
theorem at_inputs (K : ClsOk g) (A : AgAt g a σ ns ins tb) : attrW g (.ref a.x) "inputs" σ P = P (.ref a.i) σ := by
  refine propext ⟨?_, fun h => ⟨_, _, _, _, _, rfl, A.x, A.d, rfl, K.inputs, h⟩⟩
  rintro ⟨x, C, d, l, av, e1, e2, e3, e4, e5, h⟩
  cases e1
  rw [A.x] at e2; cases e2
  rw [A.d] at e3; cases e3
  cases e4
  exact h
theorem at_table (K : ClsOk g) (A : AgAt g a σ ns ins tb) : attrW g (.ref a.x) "table" σ P = P (.ref a.t) σ := by
  refine propext ⟨?_, fun h => ⟨_, _, _, _, _, rfl, A.x, A.d, rfl, K.table, h⟩⟩
  rintro ⟨x, C, d, l, av, e1, e2, e3, e4, e5, h⟩
  cases e1
  rw [A.x] at e2; cases e2
  rw [A.d] at e3; cases e3
  cases e4
  exact h

noncomputable def oppB (p : Nat × Nat) (l : Nat) : Bool := decide (p.1 = l ^^^ 1 ∨ p.2 = l ^^^ 1)
theorem opposed_spec (D : Defs g) (hd : dp < 990) {v : AV} {p : Nat × Nat} {l : Nat} (h : P (.bool (oppB p l)) σ) : CallN g dp un "opposed" [v, pairV p, .int l] σ P := by
  refine FnA.call D.dopposed ["aig", "pair", "literal"] (by decide +kernel) (by walk_at "lim") rfl (by walk_at "bind3") fun c O hdp hun hcs => ?_
  show wpSs g c (_ :: _) _ _ _
  unfold pairV
  walk_at "vc"
  unfold oppB at h
  split
  · rename_i e
    simp only [e, true_or, decide_true] at h ⊢
    exact back_ret h
  · rename_i e
    simp only [e, false_or] at h
    exact back_ret h
noncomputable def othS (p : Nat × Nat) (l : Nat) : Nat := if p.1 = l then p.2 else p.1
theorem other_side_spec (D : Defs g) (hd : dp < 990) {p : Nat × Nat} {l : Nat} (h : P (.int (othS p l : Nat)) σ) : CallN g dp un "other_side" [pairV p, .int l] σ P := by
  refine FnA.call D.dother_side ["pair", "literal"] (by decide +kernel) (by walk_at "lim") rfl (by walk_at "bind2") fun c O hdp hun hcs => ?_
  show wpSs g c (_ :: _) _ _ _
  unfold pairV
  walk_at "vc"
  unfold othS at h
  split
  · rename_i e
    rw [if_pos e] at h
    exact back_ret h
  · rename_i e
    rw [if_neg e] at h
    exact back_ret h
noncomputable def inPb (p : Nat × Nat) (x : Nat) : Bool := decide (x = p.1 ∨ x = p.2)
noncomputable abbrev inP (p : Nat × Nat) (x : Nat) : Prop := inPb p x = true
theorem in_pair {x : Nat} {p : Nat × Nat} {Q : Bool → Prop} (hu : un + 2 < cLine) (h : Q (inPb p x)) : inW un (.int x) (pairV p) σ Q := by
  refine ⟨hu, [(p.1 : Int), (p.2 : Int)], rfl, ?_⟩
  have e : decide ((x : Int) ∈ [(p.1 : Int), (p.2 : Int)]) = inPb p x := by
    unfold inPb
    simp only [List.mem_cons, List.not_mem_nil, or_false, Int.natCast_inj]
  rw [e]; exact h
/-- the node at a place -/
noncomputable def nd (ns : List Nd) (i : Nat) : Nd := (ns[i]?).getD none
theorem nd_get {i : Nat} (h : i < ns.length) : (ns.map ndV)[i]? = some (ndV (nd ns i)) := by
  unfold nd
  rw [List.getElem?_map, List.getElem?_eq_getElem h]; rfl
theorem isn_pair {p : Nat × Nat} : AV.isNone (pairV p) = false := rfl
theorem isn_nd (n : Nd) : AV.isNone (ndV n) = n.isNone := by cases n <;> rfl
theorem it_node (A : AgAt g a σ ns ins tb) {i : Nat} (hl : i < ns.length) (hlen : ns.length ≤ 1000000) (h : P (ndV (nd ns i)) σ) : itemW (.ref a.n) (.int i) σ P := by
  rw [nit_ref]
  exact ⟨by (first | lia | omega), _, _, A.n, nd_get hl, h⟩
theorem it_nodeE {Q : AV → Prop} (A : AgAt g a σ ns ins tb) {i : Nat} (hl : i < ns.length) (hlen : ns.length ≤ 1000000) (h : Q (ndV (nd ns i))) : i < 2 ^ 63 ∧ ∃ l v, σ a.n = some (.list l) ∧ l[i]? = some v ∧ Q v := Eq.mp (nit_ref (P := fun v _ => Q v)) (it_node (P := fun v _ => Q v) A hl hlen h)
noncomputable def posF (ns : List Nd) (a b : Nat) (p : Nat × Nat) : Option Nat :=
  if inP p b then some a else if oppB p b = true then some 0 else match nd ns (b / 2) with
    | none => none
    | some q => if b &&& 1 = 0 then (if oppB p q.1 = true ∨ oppB p q.2 = true then some 0 else none) else none
noncomputable def optV : Option Nat → AV
  | none => .none
  | some n => .int (n : Nat)
theorem rule_positive_spec (D : Defs g) (K : ClsOk g) (hd : dp < 980) (hu : un + 20 < 9900) (A : AgAt g a σ ns ins tb) (hlen : ns.length ≤ 1000000) {l r : Nat} {p : Nat × Nat} (hp : ns[l / 2]? = some (some p)) (hr : r < 2 * ns.length) (h : P (optV (posF ns l r p)) σ) :
    CallN g dp un "rule_positive" [.ref a.x, .int l, .int r] σ P := by
  refine FnA.call D.drule_positive ["aig", "a", "b"] (by decide +kernel) (by walk_at "lim") rfl (by walk_at "bind3") fun c O hdp hun hcs => ?_
  show wpSs g c (_ :: _) _ _ _
  walk_at "vc"
  simp only [at_nodes K A]
  walk_at "vc"
  have hl : l / 2 < ns.length := (List.getElem?_eq_some_iff.mp hp).1
  have hpn : nd ns (l / 2) = some p := by unfold nd; rw [hp]; rfl
  refine it_nodeE A hl hlen ?_
  rw [hpn]
  simp only [ndV]
  refine in_pair (by rw [cLine_eq]; (first | lia | omega)) ?_
  walk_at "vc"
  unfold posF at h
  split
  · rename_i e
    rw [if_pos e] at h
    exact back_ret h
  · rename_i e
    rw [if_neg e] at h
    refine opposed_spec D (by walk_at "dd") ?_
    walk_at "vc"
    split
    · rename_i e1
      rw [if_pos e1] at h
      exact back_ret h
    · rename_i e1
      rw [if_neg e1] at h
      simp only [at_nodes K A]
      walk_at "vc"
      refine it_nodeE A (by (first | lia | omega)) hlen ?_
      cases hq : nd ns (r / 2) with
      | none =>
        rw [hq] at h
        simp only [ndV]
        walk_at "vc"
        exact back_ret h
      | some q =>
        rw [hq] at h
        simp only [ndV]
        dsimp only at h
        simp only [isn_pair]
        walk_at "vc"
        split
        · rename_i e2
          rw [if_pos e2] at h
          unfold pairV
          walk_at "vc"
          refine opposed_spec D (by walk_at "dd") ?_
          walk_at "vc"
          split
          · rename_i e3
            rw [if_pos (.inl e3)] at h
            exact back_ret h
          · rename_i e3
            refine opposed_spec D (by walk_at "dd") ?_
            walk_at "vc"
            split
            · rename_i e4
              rw [if_pos (.inr e4)] at h
              exact back_ret h
            · rename_i e4
              rw [if_neg (fun z => z.elim e3 e4)] at h
              exact back_ret h
        · rename_i e2
          rw [if_neg e2] at h
          exact back_ret h
inductive Step where
  | none
  | is (v : Nat)
  | and (x y : Nat)
noncomputable def stepV : Step → AV
  | .none => .none
  | .is v => .tup [.str "is", .int (v : Nat)]
  | .and x y => .tup [.str "and", .int (x : Nat), .int (y : Nat)]
noncomputable def negF (ns : List Nd) (b : Nat) (p : Nat × Nat) : Step :=
  if oppB p b = true then .is b else if inP p b then .and b (othS p b ^^^ 1) else match nd ns (b / 2) with
    | none => .none
    | some q => if b &&& 1 = 0 then (if oppB p q.1 = true then .is b else if oppB p q.2 = true then .is b else if inP p q.1 then .and b (othS p q.1 ^^^ 1) else if inP p q.2 then .and b (othS p q.2 ^^^ 1) else .none)
      else (if inP p q.1 ∧ othS p q.1 = othS q q.1 ^^^ 1 then .is (q.1 ^^^ 1) else if inP p q.2 ∧ othS p q.2 = othS q q.2 ^^^ 1 then .is (q.2 ^^^ 1) else .none)
theorem rule_negative_spec (D : Defs g) (K : ClsOk g) (hd : dp < 980) (hu : un + 20 < 9900) (A : AgAt g a σ ns ins tb) (hlen : ns.length ≤ 1000000) {l r : Nat} {p : Nat × Nat} (hp : ns[l / 2]? = some (some p)) (hr : r < 2 * ns.length) (h : P (stepV (negF ns r p)) σ) :
    CallN g dp un "rule_negative" [.ref a.x, .int l, .int r] σ P := by
  refine FnA.call D.drule_negative ["aig", "a", "b"] (by decide +kernel) (by walk_at "lim") rfl (by walk_at "bind3") fun c O hdp hun hcs => ?_
  show wpSs g c (_ :: _) _ _ _
  walk_at "vc"
  simp only [at_nodes K A]
  walk_at "vc"
  have hl : l / 2 < ns.length := (List.getElem?_eq_some_iff.mp hp).1
  have hpn : nd ns (l / 2) = some p := by unfold nd; rw [hp]; rfl
  refine it_nodeE A hl hlen ?_
  rw [hpn]
  simp only [ndV]
  unfold negF at h
  refine opposed_spec D (by walk_at "dd") ?_
  walk_at "vc"
  split
  · rename_i e
    rw [if_pos e] at h
    exact back_ret h
  rename_i e
  rw [if_neg e] at h
  refine in_pair (by rw [cLine_eq]; (first | lia | omega)) ?_
  walk_at "vc"
  split
  · rename_i e1
    rw [if_pos e1] at h
    refine other_side_spec D (by walk_at "dd") ?_
    walk_at "vc"
    exact back_ret h
  rename_i e1
  rw [if_neg e1] at h
  simp only [at_nodes K A]
  walk_at "vc"
  refine it_nodeE A (by (first | lia | omega)) hlen ?_
  cases hq : nd ns (r / 2) with
  | none =>
    rw [hq] at h
    simp only [ndV]
    walk_at "vc"
    exact back_ret h
  | some q =>
    rw [hq] at h
    simp only [ndV]
    dsimp only at h
    simp only [isn_pair]
    walk_at "vc"
    split
    · rename_i e2
      rw [if_pos e2] at h
      have un : ∀ Q, iterW g (pairV q) σ Q = iterW g (.tup [.int (q.1 : Nat), .int (q.2 : Nat)]) σ Q := fun _ => rfl
      rw [un]
      walk_at "unroll"
      walk_at "vc"
      refine opposed_spec D (by walk_at "dd") ?_
      walk_at "vc"
      split
      · rename_i e3
        rw [if_pos e3] at h
        walk_at "unroll"
        walk_at "vc"
        walk_at "vc"
        walk_at "unroll"
        walk_at "vc"
        exact back_ret h
      · rename_i e3
        rw [if_neg e3] at h
        walk_at "unroll"
        walk_at "vc"
        refine opposed_spec D (by walk_at "dd") ?_
        walk_at "vc"
        split
        · rename_i e4
          rw [if_pos e4] at h
          walk_at "unroll"
          walk_at "vc"
          walk_at "vc"
          walk_at "unroll"
          walk_at "vc"
          exact back_ret h
        · rename_i e4
          rw [if_neg e4] at h
          walk_at "unroll"
          walk_at "vc"
          rw [un]
          walk_at "unroll"
          walk_at "vc"
          walk_at "vc"
          walk_at "unroll"
          walk_at "vc"
          refine in_pair (by rw [cLine_eq]; (first | lia | omega)) ?_
          walk_at "vc"
          split
          · rename_i e5
            rw [if_pos e5] at h
            refine other_side_spec D (by walk_at "dd") ?_
            walk_at "vc"
            walk_at "vc"
            walk_at "unroll"
            walk_at "vc"
            exact back_ret h
          · rename_i e5
            rw [if_neg e5] at h
            walk_at "vc"
            walk_at "unroll"
            walk_at "vc"
            refine in_pair (by rw [cLine_eq]; (first | lia | omega)) ?_
            walk_at "vc"
            split
            · rename_i e6
              rw [if_pos e6] at h
              refine other_side_spec D (by walk_at "dd") ?_
              walk_at "vc"
              walk_at "vc"
              walk_at "unroll"
              walk_at "vc"
              exact back_ret h
            · rename_i e6
              rw [if_neg e6] at h
              walk_at "vc"
              walk_at "unroll"
              walk_at "vc"
              exact back_ret h
    · rename_i e2
      rw [if_neg e2] at h
      have un : ∀ Q, iterW g (pairV q) σ Q = iterW g (.tup [.int (q.1 : Nat), .int (q.2 : Nat)]) σ Q := fun _ => rfl
      rw [un]
      walk_at "unroll"
      walk_at "vc"
      walk_at "vc"
      walk_at "unroll"
      walk_at "vc"
      refine in_pair (by rw [cLine_eq]; (first | lia | omega)) ?_
      walk_at "vc"
      split
      · rename_i e3
        refine other_side_spec D (by walk_at "dd") ?_
        walk_at "vc"
        refine other_side_spec D (by walk_at "dd") ?_
        walk_at "vc"
        split
        · rename_i e4
          rw [if_pos ⟨e3, e4⟩] at h
          walk_at "vc"
          walk_at "unroll"
          walk_at "vc"
          exact back_ret h
        · rename_i e4
          rw [if_neg (fun z => e4 z.2)] at h
          walk_at "vc"
          walk_at "unroll"
          walk_at "vc"
          refine in_pair (by rw [cLine_eq]; (first | lia | omega)) ?_
          walk_at "vc"
          split
          · rename_i f1
            refine other_side_spec D (by walk_at "dd") ?_
            walk_at "vc"
            refine other_side_spec D (by walk_at "dd") ?_
            walk_at "vc"
            split
            · rename_i f2
              rw [if_pos ⟨f1, f2⟩] at h
              walk_at "vc"
              walk_at "unroll"
              walk_at "vc"
              exact back_ret h
            · rename_i f2
              rw [if_neg (fun z => f2 z.2)] at h
              walk_at "vc"
              walk_at "unroll"
              walk_at "vc"
              exact back_ret h
          · rename_i f1
            rw [if_neg (fun z => f1 z.1)] at h
            walk_at "vc"
            walk_at "unroll"
            walk_at "vc"
            exact back_ret h
      · rename_i e3
        rw [if_neg (fun z => e3 z.1)] at h
        walk_at "vc"
        walk_at "unroll"
        walk_at "vc"
        refine in_pair (by rw [cLine_eq]; (first | lia | omega)) ?_
        walk_at "vc"
        split
        · rename_i f1
          refine other_side_spec D (by walk_at "dd") ?_
          walk_at "vc"
          refine other_side_spec D (by walk_at "dd") ?_
          walk_at "vc"
          split
          · rename_i f2
            rw [if_pos ⟨f1, f2⟩] at h
            walk_at "vc"
            walk_at "unroll"
            walk_at "vc"
            exact back_ret h
          · rename_i f2
            rw [if_neg (fun z => f2 z.2)] at h
            walk_at "vc"
            walk_at "unroll"
            walk_at "vc"
            exact back_ret h
        · rename_i f1
          rw [if_neg (fun z => f1 z.1)] at h
          walk_at "vc"
          walk_at "unroll"
          walk_at "vc"
          exact back_ret h
end
/-! text Q2 -/


/-! ### what literals mean -/
noncomputable def lv (v : Nat → Bool) (l : Nat) : Bool := v (l / 2) ^^ l.testBit 0
structure Cons (ns : List Nd) (v : Nat → Bool) : Prop where
  zero : v 0 = false
  node : ∀ i p, ns[i]? = some (some p) → v i = (lv v p.1 && lv v p.2)
structure Wf (ns : List Nd) (tb : Tb) : Prop where
  zero : ns[0]? = some none
  lits : ∀ (i : Nat) (p : Nat × Nat), ns[i]? = some (some p) → p.1 < 2 * i ∧ p.2 < 2 * i
  tab : ∀ p n, tb.lookup p = some n → ns[n]? = some (some p)
  tlen : tb.length ≤ ns.length
theorem Cons.less {ns e : List Nd} {v : Nat → Bool} (h : Cons (ns ++ e) v) : Cons ns v := ⟨h.zero, fun i p q => h.node i p (by
  rw [List.getElem?_append_left (List.getElem?_eq_some_iff.mp q).1]; exact q)⟩
theorem xor1_div (l : Nat) : (l ^^^ 1) / 2 = l / 2 := by rw [Nat.xor_div_two]; simp
theorem xor1_bit (l : Nat) : (l ^^^ 1).testBit 0 = !l.testBit 0 := by rw [Nat.testBit_xor]; simp
theorem xor1_lt {l n : Nat} (h : l < 2 * n) : l ^^^ 1 < 2 * n := by have := xor1_div l; (first | lia | omega)
theorem lv_xor1 (v : Nat → Bool) (l : Nat) : lv v (l ^^^ 1) = !lv v l := by
  unfold lv
  rw [xor1_div, xor1_bit]
  cases v (l / 2) <;> cases l.testBit 0 <;> rfl
theorem lv_zero {v : Nat → Bool} (h : v 0 = false) : lv v 0 = false := by simp [lv, h]
theorem lv_one {v : Nat → Bool} (h : v 0 = false) : lv v 1 = true := by simp [lv, h]
theorem and1_bit (l : Nat) : (l &&& 1 = 0) = (l.testBit 0 = false) := by
  rw [Nat.and_one_is_mod, Nat.testBit_zero]
  rcases Nat.mod_two_eq_zero_or_one l with h | h <;> simp [h]
theorem opp_sound {v : Nat → Bool} {p : Nat × Nat} {l : Nat} (h : oppB p l = true) : (lv v p.1 && lv v p.2 && lv v l) = false := by
  unfold oppB at h
  rcases of_decide_eq_true h with h | h
  · rw [h, lv_xor1]; cases lv v l <;> simp
  · rw [h, lv_xor1]; cases lv v l <;> simp
theorem inP_sound {v : Nat → Bool} {p : Nat × Nat} {x : Nat} (h : inP p x) : (lv v p.1 && lv v p.2) = (lv v x && lv v (othS p x)) := by
  unfold inP inPb at h
  unfold othS
  rcases of_decide_eq_true h with h | h
  · subst h; rw [if_pos rfl]
  · subst h
    by_cases e : p.1 = p.2
    · rw [if_pos e, e]
    · rw [if_neg e, Bool.and_comm]
theorem oth_lt {p : Nat × Nat} {x n : Nat} (h : p.1 < n ∧ p.2 < n) : othS p x < n := by unfold othS; split; exact h.2; exact h.1
theorem inP_lt {p : Nat × Nat} {x n : Nat} (h : p.1 < n ∧ p.2 < n) (q : inP p x) : x < n := by
  unfold inP inPb at q
  rcases of_decide_eq_true q with q | q
  · rw [q]; exact h.1
  · rw [q]; exact h.2
theorem nd_some {ns : List Nd} {i : Nat} {p : Nat × Nat} (h : nd ns i = some p) : ns[i]? = some (some p) := by
  unfold nd at h
  cases q : ns[i]? with
  | none => rw [q] at h; cases h
  | some x => rw [q] at h; rw [show x = some p from h]

noncomputable def StepOk (ns : List Nd) (a b : Nat) : Step → Prop
  | .none => True
  | .is z => z < 2 * ns.length ∧ ∀ v, Cons ns v → lv v z = (lv v a && lv v b)
  | .and x y => x < 2 * ns.length ∧ y < 2 * ns.length ∧ ∀ v, Cons ns v → (lv v x && lv v y) = (lv v a && lv v b)
theorem StepOk.symm {ns : List Nd} {a b : Nat} : ∀ {s : Step}, StepOk ns a b s → StepOk ns b a s
  | .none, _ => trivial
  | .is _, h => ⟨h.1, fun v c => by rw [h.2 v c, Bool.and_comm]⟩
  | .and _ _, h => ⟨h.1, h.2.1, fun v c => by rw [h.2.2 v c, Bool.and_comm]⟩
theorem lv_node {ns : List Nd} {v : Nat → Bool} (C : Cons ns v) {l : Nat} {p : Nat × Nat} (h : ns[l / 2]? = some (some p)) : lv v l = ((lv v p.1 && lv v p.2) ^^ l.testBit 0) := by
  unfold lv
  rw [C.node _ _ h]; rfl
theorem pos_sound {ns : List Nd} {tb : Tb} (W : Wf ns tb) {l r z : Nat} {p : Nat × Nat} (hp : ns[l / 2]? = some (some p)) (he : l &&& 1 = 0) (hl : l < 2 * ns.length) (h : posF ns l r p = some z) : StepOk ns l r (.is z) := by
  rw [and1_bit] at he
  have h0 : 0 < 2 * ns.length := by (first | lia | omega)
  unfold posF at h
  split at h
  · rename_i e
    cases h
    refine ⟨hl, fun v C => ?_⟩
    rw [lv_node C hp, he, inP_sound e]
    cases lv v r <;> cases lv v (othS p r) <;> rfl
  · split at h
    · rename_i e
      cases h
      refine ⟨h0, fun v C => ?_⟩
      have := opp_sound (v := v) e
      rw [lv_node C hp, he, lv_zero C.zero, Bool.xor_false, this]
    · split at h
      · cases h
      · rename_i q hq
        have hq := nd_some hq
        split at h
        · rename_i e2
          rw [and1_bit] at e2
          split at h
          · rename_i e3
            cases h
            refine ⟨h0, fun v C => ?_⟩
            rw [lv_node C hp, lv_node C hq, he, e2, lv_zero C.zero, Bool.xor_false, Bool.xor_false]
            rcases e3 with e3 | e3
            · have := opp_sound (v := v) e3
              revert this
              cases lv v p.1 <;> cases lv v p.2 <;> cases lv v q.1 <;> cases lv v q.2 <;> simp
            · have := opp_sound (v := v) e3
              revert this
              cases lv v p.1 <;> cases lv v p.2 <;> cases lv v q.1 <;> cases lv v q.2 <;> simp
          · cases h
        · cases h
theorem neg_sound {ns : List Nd} {tb : Tb} (W : Wf ns tb) {l r : Nat} {p : Nat × Nat} (hp : ns[l / 2]? = some (some p)) (he : ¬ l &&& 1 = 0) (hl : l < 2 * ns.length) (hr : r < 2 * ns.length) : StepOk ns l r (negF ns r p) := by
  rw [and1_bit, Bool.not_eq_false] at he
  have hpl := W.lits _ _ hp
  have hpl' : p.1 < 2 * ns.length ∧ p.2 < 2 * ns.length := by (first | lia | omega)
  unfold negF
  split
  · rename_i e
    refine ⟨hr, fun v C => ?_⟩
    have := opp_sound (v := v) e
    rw [lv_node C hp, he]
    revert this
    cases lv v p.1 <;> cases lv v p.2 <;> cases lv v r <;> simp
  · split
    · rename_i e
      refine ⟨hr, xor1_lt (oth_lt hpl'), fun v C => ?_⟩
      have := inP_sound (v := v) e
      rw [lv_node C hp, he, lv_xor1, this]
      cases lv v r <;> cases lv v (othS p r) <;> rfl
    · split
      · trivial
      · rename_i q hq
        have hq := nd_some hq
        have hql := W.lits _ _ hq
        have hql' : q.1 < 2 * ns.length ∧ q.2 < 2 * ns.length := by (first | lia | omega)
        split
        · rename_i e2
          rw [and1_bit] at e2
          split
          · rename_i e3
            refine ⟨hr, fun v C => ?_⟩
            have := opp_sound (v := v) e3
            rw [lv_node C hp, lv_node C hq, he, e2]
            revert this
            cases lv v p.1 <;> cases lv v p.2 <;> cases lv v q.1 <;> cases lv v q.2 <;> simp
          · split
            · rename_i e3
              refine ⟨hr, fun v C => ?_⟩
              have := opp_sound (v := v) e3
              rw [lv_node C hp, lv_node C hq, he, e2]
              revert this
              cases lv v p.1 <;> cases lv v p.2 <;> cases lv v q.1 <;> cases lv v q.2 <;> simp
            · split
              · rename_i e3
                refine ⟨hr, xor1_lt (oth_lt hpl'), fun v C => ?_⟩
                have := inP_sound (v := v) e3
                rw [lv_node C hp, lv_node C hq, he, e2, lv_xor1, this]
                cases lv v q.1 <;> cases lv v q.2 <;> cases lv v (othS p q.1) <;> rfl
              · split
                · rename_i e3
                  refine ⟨hr, xor1_lt (oth_lt hpl'), fun v C => ?_⟩
                  have := inP_sound (v := v) e3
                  rw [lv_node C hp, lv_node C hq, he, e2, lv_xor1, this]
                  cases lv v q.1 <;> cases lv v q.2 <;> cases lv v (othS p q.2) <;> rfl
                · trivial
        · rename_i e2
          rw [and1_bit, Bool.not_eq_false] at e2
          have fin : ∀ x, inP q x → x < 2 * ns.length → inP p x ∧ othS p x = othS q x ^^^ 1 → StepOk ns l r (.is (x ^^^ 1)) := by
            intro x hx hxl ⟨h1, h2⟩
            refine ⟨xor1_lt hxl, fun v C => ?_⟩
            have a1 := inP_sound (v := v) h1
            have a2 := inP_sound (v := v) hx
            rw [lv_node C hp, lv_node C hq, he, e2, a1, a2, h2, lv_xor1, lv_xor1]
            cases lv v x <;> cases lv v (othS q x) <;> rfl
          split
          · rename_i e3
            exact fin q.1 (by simp [inP, inPb]) hql'.1 e3
          · split
            · rename_i e3
              exact fin q.2 (by simp [inP, inPb]) hql'.2 e3
            · trivial
/-! text Q3 -/


section
variable {g : G} {c : Cx} {lo : Locals} {σ : Store}
theorem swap_ok (O : c.Ok g) {e₁ e₂ : Expr} {x y : Str} {ts : List Expr} {k k' : Nat} {tp vp q : Pos} {P : AF → Locals → Store → Prop} {a b : AV}
    (hs : swapsWithSole [.Tuple ts k tp] (.Tuple [e₁, e₂] k' vp) q.line c.env = (pure false : Sem Bool))
    (hw : swappedStores [.Tuple ts k tp] (.Tuple [e₁, e₂] k' vp) c.env = (pure (some [x, y]) : Sem (Option (List Str))))
    (hx : okN c x) (hy : okN c y) (h : AE g c (.Tuple [e₁, e₂] k' vp) lo σ fun v σ₁ => v = .tup [a, b] ∧ P .next ((lo.set y b).set x a) σ₁) : AX g c (.Assign [.Tuple ts k tp] (.Tuple [e₁, e₂] k' vp) q) lo σ P := by
  intro X s S
  refine Assign_Tuple_swapped (names := [x, y]) ?_ hs hw
  refine noE (h X s S) fun v s₁ z => ?_
  obtain ⟨_, σ₁, ⟨rfl, h₁⟩, r₁, S₁, E₁⟩ := z
  simp only [HRel, HRels] at r₁
  obtain ⟨t, vs, rfl, e1, v1, r1, rfl, h1, v2, r2, rfl, h2, rfl⟩ := r₁
  refine unpackItems_tuple rfl (t := t) (items := [v1, v2].toArray) ⟨_, e1, rfl, 0, rfl⟩ fun h' he => ?_
  obtain ⟨S', E⟩ := S₁.keep (h' := h') (tk := s₁.toks) fun b o q => he b o (Nat.ne_of_lt (Heap.lt_size q)) q
  refine assignInOrder_cons (wpAny_bindName (store_ok O hy S' (h2.le E.tup) fun s₂ S₂ E₂ => ?_))
  refine assignInOrder_cons (wpAny_bindName (store_ok O hx S₂ ((h1.le E.tup).le E₂.tup) fun s₃ S₃ E₃ => ?_))
  exact wpAny_pure ⟨.next, _, σ₁, h₁, rfl, S₃, E₁.trans (E.trans (E₂.trans E₃))⟩
end

theorem mk_get {g : G} {σ : Store} {p : Addr} {l : List ((Int × Int) × Int)} {K : MK → Prop} (h : σ p = some (.tab l)) : methK g (.ref p) "get" σ K = K (.get p) := by
  simp only [methK, h, true_and]
structure Grown (g : G) (a : Ag) (ins : List Nat) (ns : List Nd) (σ : Store) (k : Nat) (ns' : List Nd) (tb' : Tb) (σ' : Store) : Prop where
  at_ : AgAt g a σ' ns' ins tb'
  wf : Wf ns' tb'
  ext : ∃ e, ns' = ns ++ e ∧ e.length ≤ k
  frame : ∀ b, b ≠ a.n → b ≠ a.t → σ' b = σ b
theorem Grown.same {g : G} {a : Ag} {ins : List Nat} {ns : List Nd} {σ : Store} {k : Nat} {tb : Tb} (A : AgAt g a σ ns ins tb) (W : Wf ns tb) : Grown g a ins ns σ k ns tb σ := ⟨A, W, ⟨[], (List.append_nil _).symm, Nat.zero_le _⟩, fun _ _ _ => rfl⟩
section
variable {g : G} {c : Cx} {dp un : Nat} {σ : Store} {P : AV → Store → Prop} {a : Ag} {ns : List Nd} {ins : List Nat} {tb : Tb}
theorem tb_map {l r : Nat} : (tbV tb).lookup ((l : Int), (r : Int)) = (tb.lookup (l, r)).map fun n => ((n : Nat) : Int) := by
  unfold tbV
  induction tb with
  | nil => rfl
  | cons e tb ih =>
    obtain ⟨⟨x, y⟩, n⟩ := e
    rw [List.map_cons, List.lookup_cons, List.lookup_cons]
    by_cases h : (l, r) = (x, y)
    · cases h
      rw [beq_self_eq_true, beq_self_eq_true]
      rfl
    · have h1 : ((l, r) == (x, y)) = false := beq_eq_false_iff_ne.mpr h
      have h2 : (((l : Int), (r : Int)) == ((x : Int), (y : Int))) = false := beq_eq_false_iff_ne.mpr fun z => h (by
        simp only [Prod.mk.injEq, Int.natCast_inj] at z ⊢; exact z)
      rw [h1, h2]
      exact ih
theorem tb_look {l r : Nat} {d : Int} : ((tbV tb).lookup ((l : Int), (r : Int))).getD d = match tb.lookup (l, r) with | some n => ((n : Nat) : Int) | none => d := by
  rw [tb_map]
  cases tb.lookup (l, r) <;> rfl
theorem ne_mo {x y : Addr} {m m' : MO} (h : σ x = some m) (h' : σ y = some m') (hm : m ≠ m') : x ≠ y := by
  rintro rfl; rw [h] at h'; exact hm (Option.some.inj h')
theorem AgAt.grow (A : AgAt g a σ ns ins tb) (W : Wf ns tb) {x y : Nat} (hx : x < 2 * ns.length) (hy : y < 2 * ns.length) (ht : tb.lookup (x, y) = none) :
    Grown g a ins ns σ 1 (ns ++ [some (x, y)]) (tb ++ [((x, y), ns.length)]) ((σ.set a.n (.list ((ns ++ [some (x, y)]).map ndV))).set a.t (.tab (tbV (tb ++ [((x, y), ns.length)])))) := by
  have e1 := ne_mo A.n A.x (by simp)
  have e2 := ne_mo A.n A.d (by simp)
  have e3 := ne_mo A.n A.t (by simp)
  have e4 := ne_mo A.t A.x (by simp)
  have e5 := ne_mo A.t A.d (by simp)
  have e6 := ne_mo A.t A.i (by simp)
  refine ⟨⟨?_, ?_, ?_, ?_, ?_, A.ni⟩, ⟨?_, ?_, ?_, ?_⟩, ⟨_, rfl, by simp⟩, fun b h1 h2 => by rw [Store.set_ne h2, Store.set_ne h1]⟩
  · rw [Store.set_ne e4.symm, Store.set_ne e1.symm]; exact A.x
  · rw [Store.set_ne e5.symm, Store.set_ne e2.symm]; exact A.d
  · rw [Store.set_ne e3, Store.set_same]
  · rw [Store.set_ne e6.symm, Store.set_ne A.ni.symm]; exact A.i
  · rw [Store.set_same]
  · rw [List.getElem?_append_left (List.getElem?_eq_some_iff.mp W.zero).1]; exact W.zero
  · intro i p hp
    rw [List.getElem?_append] at hp
    split at hp
    · exact W.lits i p hp
    · rename_i hi
      have : i = ns.length := by
        have := (List.getElem?_eq_some_iff.mp hp).1
        simp at this
        (first | lia | omega)
      subst this
      simp at hp
      subst hp
      exact ⟨hx, hy⟩
  · intro p n hp
    rw [List.lookup_append] at hp
    cases q : tb.lookup p with
    | some m =>
      rw [q] at hp
      simp at hp
      subst hp
      rw [List.getElem?_append_left (List.getElem?_eq_some_iff.mp (W.tab _ _ q)).1]
      exact W.tab _ _ q
    | none =>
      rw [q] at hp
      simp only [Option.none_or, List.lookup_cons, List.lookup_nil] at hp
      split at hp
      · rename_i z
        cases hp
        rw [eq_of_beq z]
        simp
      · cases hp
  · have := W.tlen
    simp only [List.length_append, List.length_singleton]
    (first | lia | omega)
theorem land_spec (K : ClsOk g) {f : Addr} (hf : FnA g f (methAt 4)) (hd : dp < 980) (hu : un + 20 < 9900) (A : AgAt g a σ ns ins tb) (W : Wf ns tb) (hlen : ns.length ≤ 1000000) {l r : Nat} (hl : l < 2 * ns.length) (hr : r < 2 * ns.length)
    (h : ∀ z ns' tb' σ', Grown g a ins ns σ 1 ns' tb' σ' → z < 2 * ns'.length → (∀ v, Cons ns' v → lv v z = (lv v l && lv v r)) → P (.int (z : Nat)) σ') : CallP g dp un (.ref f) [.ref a.x, .int l, .int r] σ P := by
  refine FnA.call hf ["self", "l", "r"] (by decide +kernel) (by walk_at "lim") rfl (by walk_at "bind3") fun c O hdp hun hcs => ?_
  show wpSs g c (_ :: _) _ _ _
  walk_at "vc"
  have h0 : 0 < ns.length := (List.getElem?_eq_some_iff.mp W.zero).1
  have swp : ∀ {ts k p es k' p' q lo R}, wpS g c (.Assign [.Tuple ts k p] (.Tuple es k' p') q) lo σ R = AX g c (.Assign [.Tuple ts k p] (.Tuple es k' p') q) lo σ R := by
    intros; rfl
  simp only [swp]
  have main : ∀ (lo : Locals) (x y : Nat), x < 2 * ns.length → y < 2 * ns.length → (∀ v : Nat → Bool, (lv v x && lv v y) = (lv v l && lv v r)) → Has lo [("self", .ref a.x), ("l", .int x), ("r", .int y)] →
      wpSs g c ((fnBody (methAt 4)).drop 1) lo σ (Back P) := by
    rintro _ x y hx hy hv ⟨lo, rfl⟩
    simp only [Locals.sets]
    show wpSs g c (_ :: _) _ _ _
    walk_at "vc"
    have G0 := Grown.same (k := 1) A W
    split
    · rename_i e
      subst e
      exact back_ret (h 0 _ _ _ G0 hx fun v C => by rw [← hv, lv_zero C.zero]; rfl)
    split
    · rename_i e
      refine back_ret (h 0 _ _ _ G0 (by (first | lia | omega)) fun v C => ?_)
      rw [← hv, lv_zero C.zero, e, lv_xor1]; cases lv v y <;> rfl
    split
    · rename_i e
      subst e
      exact back_ret (h y _ _ _ G0 hy fun v C => by rw [← hv, lv_one C.zero]; rfl)
    split
    · rename_i e
      subst e
      exact back_ret (h x _ _ _ G0 hy fun v C => by rw [← hv]; cases lv v x <;> rfl)
    rename_i n1 n2 n3 n4
    simp only [at_table K A]
    walk_at "vc"
    rw [mk_get A.t]
    walk_at "vc"
    refine ⟨by rw [cLine_eq]; (first | lia | omega), _, A.t, ?_⟩
    rw [tb_look]
    cases ht : tb.lookup (x, y) with
    | some n =>
      dsimp only
      have hn := W.tab _ _ ht
      have hnl := (List.getElem?_eq_some_iff.mp hn).1
      walk_at "vc"
      rw [if_neg (by (first | lia | omega))]
      refine ⟨mulok_nat (by (first | lia | omega)), back_ret (h (2 * n) _ _ _ G0 (by (first | lia | omega)) fun v C => ?_)⟩
      rw [lv_node C (p := (x, y)) (by rw [show 2 * n / 2 = n by (first | lia | omega)]; exact hn), show (2 * n).testBit 0 = false by simp [Nat.testBit_zero], Bool.xor_false]
      exact hv v
    | none =>
      dsimp only
      walk_at "vc"
      rw [c_lt, decide_eq_true (by decide)]
      walk_at "vc"
      simp only [at_nodes K A]
      walk_at "vc"
      walk_at "vc"
      refine ⟨_, A.n, by rw [List.length_map]; (first | lia | omega), ?_⟩
      simp only [at_nodes K A]
      walk_at "vc"
      rw [mk_app A.n]
      walk_at "vc"
      refine ⟨_, A.n, by rw [List.length_map, sizeLine_eq]; (first | lia | omega), ?_⟩
      have GG := A.grow W hx hy ht
      have e1 := ne_mo A.n A.x (by simp)
      have e2 := ne_mo A.n A.d (by simp)
      have e3 := ne_mo A.n A.t (by simp)
      rw [show List.map ndV ns ++ [AV.tup [AV.int (x : Nat), AV.int (y : Nat)]] = (ns ++ [some (x, y)]).map ndV by rw [List.map_append]; rfl]
      have A' : AgAt g a (σ.set a.n (.list ((ns ++ [some (x, y)]).map ndV))) (ns ++ [some (x, y)]) ins tb :=
        ⟨by rw [Store.set_ne e1.symm]; exact A.x, by rw [Store.set_ne e2.symm]; exact A.d, Store.set_same, by rw [Store.set_ne A.ni.symm]; exact A.i, by rw [Store.set_ne e3.symm]; exact A.t, A.ni⟩
      simp only [at_table K A']
      walk_at "vc"
      rw [List.length_map]
      refine ⟨by rw [cLine_eq]; (first | lia | omega), _, A'.t, by rw [tb_map, ht]; rfl, by have := W.tlen; unfold tbV; rw [List.length_map, sizeLine_eq]; (first | lia | omega), ?_⟩
      rw [show tbV tb ++ [(((x : Int), (y : Int)), (ns.length : Int))] = tbV (tb ++ [((x, y), ns.length)]) by unfold tbV; rw [List.map_append]; rfl]
      walk_at "vc"
      refine ⟨mulok_nat (by (first | lia | omega)), back_ret (h (2 * ns.length) _ _ _ GG (by simp) fun v C => ?_)⟩
      rw [lv_node C (p := (x, y)) (by rw [show 2 * ns.length / 2 = ns.length by (first | lia | omega)]; simp), show (2 * ns.length).testBit 0 = false by simp [Nat.testBit_zero], Bool.xor_false]
      exact hv v
  split
  · rename_i e
    refine swap_ok O (x := "l") (y := "r") (a := .int r) (b := .int l) ?_ ?_ ?_ ?_ ?_
    · rfl
    · have ek : ∀ x, c.env.kindOf x = (fnScope (methAt 4)).names.lookup x := fun x => by rw [← hcs]; rfl
      have eb : c.env.blockKind = .function := by unfold Env.blockKind; rw [show c.env.scope = fnScope (methAt 4) from hcs]; rfl
      unfold swappedStores
      rw [eb]
      simp only [ek]
      rfl
    · unfold okN; rw [hcs]; decide +kernel
    · unfold okN; rw [hcs]; decide +kernel
    · refine wpE_ok O (by rfl) ?_
      walk_at "vc"
      have z := main _ r l hr hl (fun v => Bool.and_comm _ _) (show Has (((argsL ["self", "l", "r"] [AV.ref a.x, AV.int l, AV.int r]).set "r" (.int l)).set "l" (.int r)) _ by walk_at "has")
      revert z
      show wpSs g c (_ :: _) _ _ _ → _
      walk_at "vc"
      try exact id
  · have z := main _ l r hl hr (fun _ => rfl) (show Has (argsL ["self", "l", "r"] [AV.ref a.x, AV.int l, AV.int r]) _ by walk_at "has")
    revert z
    show wpSs g c (_ :: _) _ _ _ → _
    walk_at "vc"
    try exact id
end
/-! text Q4 -/


/-- smart_and stands with its default -/
noncomputable def SmartOk (g : G) : Prop :=
  ∃ name qual doc pm an cdv ct oc od osl T oT tk n, g.K.lookup (g.fn "smart_and") = some ⟨oc, od, .func (fnOf name qual (fnParams (stmtAt 14)) (fnBody (stmtAt 14)) (fnScope (stmtAt 14)) (.ref T) .none doc pm an cdv ct), osl⟩ ∧ codeIn g.K cdv qual = true ∧
    g.K.lookup T = some oT ∧ oT.data = .seq #[.int 32 tk] n
theorem SmartOk.call {g : G} (h : SmartOk g) {dp un : Nat} {u v w : AV} {σ : Store} {P : AV → Store → Prop} (hroom : dp < recursionLimit)
    (k : ∀ c' : Cx, c'.Ok g → c'.dp = dp + 1 → c'.un = un + 3 → c'.cs = fnScope (stmtAt 14) → wpSs g c' (fnBody (stmtAt 14)) (argsL ["aig", "a", "b", "turns"] [u, v, w, .int (32 : Nat)]) σ (Back P)) : CallN g dp un "smart_and" [u, v, w] σ P := by
  obtain ⟨name, qual, doc, pm, an, cdv, ct, oc, od, osl, T, oT, tk, n, ho, hcd, hT, hd⟩ := h
  have hok : fnOk (stmtAt 14) ["aig", "a", "b", "turns"] = true := by decide +kernel
  unfold fnOk at hok
  simp only [Bool.and_eq_true, Bool.not_eq_true', List.all_eq_true, beq_iff_eq, decide_eq_true_eq] at hok
  obtain ⟨⟨⟨⟨⟨⟨h1, h2⟩, h3⟩, h4⟩, h5⟩, h6⟩, h7⟩ := hok
  refine CallP.def ho hcd hroom ["aig", "a", "b", "turns"] [.int (32 : Nat)] (fun s vs X hv => ⟨[.int 32 tk], fun h => by simp only [HRels]; exact ⟨_, [], rfl, hint, rfl⟩, ?_⟩) h1 h2 h3 h4 h5 (fun x hx => by simpa using h6 x hx) h7 k
  match vs, hv with
  | [a, b, d], _ => exact binds_K X rfl hT hd rfl rfl

section
variable {g : G} {c : Cx} {dp un : Nat} {σ : Store} {P : AV → Store → Prop} {a : Ag} {ns : List Nd} {ins : List Nat} {tb : Tb}
theorem mk_own (A : AgAt g a σ ns ins tb) {n : Str} {f : Addr} (hm : MethIn g (g.fn "Aig") n f) (hn : ([("table", AV.ref a.t), ("outputs", .ref a.o), ("inputs", .ref a.i), ("nodes", .ref a.n)] : List (Str × AV)).lookup n = none) {k : MK → Prop} : methK g (.ref a.x) n σ k = k (.own f (.ref a.x)) := by
  simp only [methK, A.x]
  refine propext ⟨?_, fun h => ⟨f, _, hm, A.d, hn, h⟩⟩
  rintro ⟨f', l, hm', _, _, h⟩
  have := hm.2.1.symm.trans hm'.2.1
  cases this
  exact h
theorem smart_and_spec (D : Defs g) (K : ClsOk g) (hsm : SmartOk g) (hd : dp < 970) (hu : un + 40 < 9900) (A : AgAt g a σ ns ins tb) (W : Wf ns tb) (hlen : ns.length ≤ 1000000) {l r : Nat} (hl : l < 2 * ns.length) (hr : r < 2 * ns.length)
    (h : ∀ z ns' tb' σ', Grown g a ins ns σ 1 ns' tb' σ' → z < 2 * ns'.length → (∀ v, Cons ns' v → lv v z = (lv v l && lv v r)) → P (.int (z : Nat)) σ') : CallN g dp un "smart_and" [.ref a.x, .int l, .int r] σ P := by
  refine hsm.call (by walk_at "lim") fun c O hdp hun hcs => ?_
  show wpSs g c (_ :: _) _ _ _
  walk_at "vc"
  generalize hR : thenZ _ g c _ _ = R
  have fin : ∀ (lo : Locals) (x y : Nat), x < 2 * ns.length → y < 2 * ns.length → (∀ v, Cons ns v → (lv v x && lv v y) = (lv v l && lv v r)) → Has lo [("aig", .ref a.x), ("a", .int x), ("b", .int y)] → R .next lo σ := by
    rintro _ x y hx hy hv ⟨lo, rfl⟩
    subst hR
    simp only [Locals.sets]
    walk_at "vc"
    obtain ⟨f, hm, hf⟩ := K.land
    rw [mk_own A hm rfl]
    walk_at "vc"
    refine land_spec K hf (by (first | lia | omega)) (by (first | lia | omega)) A W hlen hx hy fun z ns' tb' σ' G hz hz' => ?_
    obtain ⟨e, rfl, _⟩ := G.ext
    walk_at "vc"
    exact back_ret (h z _ _ _ G hz fun v C => by rw [hz' v C, hv v C.less])
  refine while_rule (m := 32) (fun n lo σ' => σ' = σ ∧ ∃ x y, x < 2 * ns.length ∧ y < 2 * ns.length ∧ (∀ v, Cons ns v → (lv v x && lv v y) = (lv v l && lv v r)) ∧ Has lo [("aig", .ref a.x), ("a", .int (x : Nat)), ("b", .int (y : Nat)), ("turns", .int (n : Nat))])
    ⟨rfl, l, r, hl, hr, fun _ _ => rfl, by walk_at "has"⟩ ?_
  rintro n lo σ' ⟨rfl, x, y, hx, hy, hv, lo, rfl⟩ Q T
  simp only [Locals.sets]
  walk_at "vc"
  split
  · rename_i hn
    rw [ni_sub (by (first | lia | omega))]
    walk_at "vc"
    split
    · exact T.brk _ _ (fin _ x y hx hy hv (by walk_at "has"))
    split
    · exact T.brk _ _ (fin _ x y hx hy hv (by walk_at "has"))
    split
    · exact T.brk _ _ (fin _ x y hx hy hv (by walk_at "has"))
    show forW _ _ _ (([(x, y), (y, x)] : List (Nat × Nat)).map pairV) _ _ _
    generalize hR2 : thenZ _ g c _ _ = R2
    refine forL_rule pairV ([(x, y), (y, x)] : List (Nat × Nat)) (fun pre lo σ'' => σ'' = σ' ∧ ∃ s, StepOk ns x y s ∧ Has lo [("aig", .ref a.x), ("a", .int (x : Nat)), ("b", .int (y : Nat)), ("turns", .int (n - 1 : Nat)), ("step", stepV s)])
      ⟨rfl, .none, trivial, by walk_at "has"⟩ ?_ ?_
    · rintro lo σ'' ⟨rfl, s, hs, lo, rfl⟩
      refine ⟨trivial, ?_⟩
      subst hR2
      simp only [Locals.sets]
      cases s with
      | none =>
        simp only [stepV]
        walk_at "vc"
        exact T.brk _ _ (fin _ x y hx hy hv (by walk_at "has"))
      | is z =>
        obtain ⟨hz, hs⟩ := hs
        simp only [stepV]
        walk_at "vc"
        refine T.ret _ _ _ ?_
        rw [← hR, then_ret]
        exact back_ret (h z _ _ _ (Grown.same A W) hz fun v C => by rw [hs v C, hv v C])
      | and p q =>
        obtain ⟨hp, hq, hs⟩ := hs
        simp only [stepV]
        walk_at "vc"
        exact T.next _ _ ⟨n - 1, by (first | lia | omega), rfl, p, q, hp, hq, fun v C => by rw [hs v C, hv v C], by walk_at "has"⟩
    · rintro pre q post lo σ'' e ⟨rfl, s, hs, lo, rfl⟩
      refine ⟨trivial, fun Q T => ?_⟩
      have hq : (q = (x, y) ∨ q = (y, x)) := by
        have : q ∈ ([(x, y), (y, x)] : List (Nat × Nat)) := by rw [e]; simp
        simpa using this
      have hql : q.1 < 2 * ns.length ∧ q.2 < 2 * ns.length := by rcases hq with rfl | rfl <;> exact ⟨by assumption, by assumption⟩
      have hst : ∀ s, StepOk ns q.1 q.2 s → StepOk ns x y s := by
        intro s h
        rcases hq with rfl | rfl
        · exact h
        · exact h.symm
      obtain ⟨u, w⟩ := q
      dsimp only at hql hst
      simp only [Locals.sets, pairV]
      walk_at "vc"
      simp only [at_nodes K A]
      walk_at "vc"
      refine it_nodeE A (by (first | lia | omega)) hlen ?_
      cases hn : nd ns (u / 2) with
      | none =>
        simp only [ndV]
        walk_at "vc"
        exact T.cont _ _ ⟨rfl, s, hs, by walk_at "has"⟩
      | some p =>
        have hn := nd_some hn
        simp only [ndV, isn_pair]
        walk_at "vc"
        split
        · exact T.cont _ _ ⟨rfl, s, hs, by walk_at "has"⟩
        · split
          · rename_i he
            refine rule_positive_spec D K (by (first | lia | omega)) (by (first | lia | omega)) A hlen hn hql.2 ?_
            cases hp : posF ns u w p with
            | none =>
              simp only [optV]
              walk_at "vc"
              exact T.next _ _ ⟨rfl, s, hs, by walk_at "has"⟩
            | some z =>
              simp only [optV]
              walk_at "vc"
              exact T.next _ _ ⟨rfl, .is z, hst _ (pos_sound W hn he hql.1 hp), by simp only [stepV]; walk_at "has"⟩
          · rename_i he
            refine rule_negative_spec D K (by (first | lia | omega)) (by (first | lia | omega)) A hlen hn hql.2 ?_
            exact T.next _ _ ⟨rfl, _, hst _ (neg_sound W hn he hql.1 hql.2), by walk_at "has"⟩
  · exact fin _ x y hx hy hv (by walk_at "has")
end
/-! text Q5 -/


noncomputable def Tree.ev (f : Nat → Bool) : Tree → Bool
  | .zero => false
  | .one => true
  | .lit p s => decide ((f p).toNat = s)
  | .and l r => l.ev f && r.ev f
  | .or l r => l.ev f || r.ev f
theorem Tree.at_ev (x : Nat) : ∀ t : Tree, t.at_ x = t.ev x.testBit
  | .zero => rfl
  | .one => rfl
  | .lit _ _ => rfl
  | .and l r => by simp only [Tree.at_, Tree.ev, at_ev x l, at_ev x r]
  | .or l r => by simp only [Tree.at_, Tree.ev, at_ev x l, at_ev x r]
theorem Tree.ev_congr {f f' : Nat → Bool} {k : Nat} (h : ∀ p, p < k → f p = f' p) : ∀ t : Tree, t.ok k → t.ev f = t.ev f'
  | .zero, _ => rfl
  | .one, _ => rfl
  | .lit p _, q => by simp only [Tree.ev, h p q.1]
  | .and l r, q => by simp only [Tree.ev, ev_congr h l q.1, ev_congr h r q.2]
  | .or l r, q => by simp only [Tree.ev, ev_congr h l q.1, ev_congr h r q.2]
theorem bdec0 (b : Bool) : decide (b.toNat = 0) = !b := by cases b <;> rfl
theorem bdec1 (b : Bool) : decide (b.toNat = 1) = b := by cases b <;> rfl
noncomputable def litAt (ls : List Nat) (p : Nat) : Nat := (ls[p]?).getD 0
theorem Grown.trans {g : G} {a : Ag} {ins : List Nat} {ns ns' ns'' : List Nd} {σ σ' σ'' : Store} {k k' : Nat} {tb tb' : Tb} (x : Grown g a ins ns σ k ns' tb σ') (y : Grown g a ins ns' σ' k' ns'' tb' σ'') : Grown g a ins ns σ (k + k') ns'' tb' σ'' := by
  obtain ⟨e, h1, h2⟩ := x.ext
  obtain ⟨e', h3, h4⟩ := y.ext
  exact ⟨y.at_, y.wf, ⟨e ++ e', by rw [h3, h1, List.append_assoc], by rw [List.length_append]; (first | lia | omega)⟩, fun b h h' => (y.frame b h h').trans (x.frame b h h')⟩
theorem Grown.len {g : G} {a : Ag} {ins : List Nat} {ns ns' : List Nd} {σ σ' : Store} {k : Nat} {tb : Tb} (x : Grown g a ins ns σ k ns' tb σ') : ns.length ≤ ns'.length ∧ ns'.length ≤ ns.length + k := by
  obtain ⟨e, h1, h2⟩ := x.ext
  rw [h1, List.length_append]; (first | lia | omega)
theorem Grown.cons {g : G} {a : Ag} {ins : List Nat} {ns ns' : List Nd} {σ σ' : Store} {k : Nat} {tb : Tb} (x : Grown g a ins ns σ k ns' tb σ') {v : Nat → Bool} (h : Cons ns' v) : Cons ns v := by
  obtain ⟨e, h1, h2⟩ := x.ext
  rw [h1] at h; exact h.less
section
variable {g : G} {c : Cx} {dp un : Nat} {σ : Store} {P : AV → Store → Prop} {a : Ag} {ns : List Nd} {ins : List Nat} {tb : Tb}
theorem build_tree_spec (D : Defs g) (K : ClsOk g) (hsm : SmartOk g) {q : Addr} {ls : List Nat} (hqn : q ≠ a.n) (hls : ls.length ≤ 4) : ∀ (t : Tree) {dp un : Nat} {σ : Store} {P : AV → Store → Prop} {ns : List Nd} {tb : Tb}, dp + t.dep < 960 → un + 3 * t.dep + 60 < 9900 → t.ok ls.length →
    AgAt g a σ ns ins tb → Wf ns tb → ns.length + t.cost ≤ 1000000 → σ q = some (.list (ls.map fun j => AV.int (j : Nat))) → (∀ l ∈ ls, l < 2 * ns.length) →
    (∀ z ns' tb' σ', Grown g a ins ns σ t.cost ns' tb' σ' → z < 2 * ns'.length → (∀ v, Cons ns' v → lv v z = t.ev fun p => lv v (litAt ls p)) → P (.int (z : Nat)) σ') → CallN g dp un "build_tree" [.ref a.x, t.av, .ref q] σ P := by
  intro t
  induction t with
  | zero =>
    intro dp un σ P ns tb hd hu hok A W hlen hq hl h
    simp only [Tree.dep] at hd hu
    refine FnA.call D.dbuild_tree ["aig", "tree", "literals"] (by decide +kernel) (by walk_at "lim") rfl (by walk_at "bind3") fun c O hdp hun hcs => ?_
    show wpSs g c (_ :: _) _ _ _
    simp only [Tree.av]
    walk_at "vc"
    have h0 : 0 < ns.length := (List.getElem?_eq_some_iff.mp W.zero).1
    exact back_ret (h 0 _ _ _ (Grown.same A W) (by (first | lia | omega)) fun v C => lv_zero C.zero)
  | one =>
    intro dp un σ P ns tb hd hu hok A W hlen hq hl h
    simp only [Tree.dep] at hd hu
    refine FnA.call D.dbuild_tree ["aig", "tree", "literals"] (by decide +kernel) (by walk_at "lim") rfl (by walk_at "bind3") fun c O hdp hun hcs => ?_
    show wpSs g c (_ :: _) _ _ _
    simp only [Tree.av]
    walk_at "vc"
    have h0 : 0 < ns.length := (List.getElem?_eq_some_iff.mp W.zero).1
    exact back_ret (h 1 _ _ _ (Grown.same A W) (by (first | lia | omega)) fun v C => lv_one C.zero)
  | lit p s =>
    intro dp un σ P ns tb hd hu hok A W hlen hq hl h
    simp only [Tree.dep] at hd hu
    refine FnA.call D.dbuild_tree ["aig", "tree", "literals"] (by decide +kernel) (by walk_at "lim") rfl (by walk_at "bind3") fun c O hdp hun hcs => ?_
    show wpSs g c (_ :: _) _ _ _
    simp only [Tree.av]
    walk_at "vc"
    obtain ⟨h1, h2⟩ := hok
    have hg : ls[p]? = some (litAt ls p) := by unfold litAt; rw [List.getElem?_eq_getElem h1]; rfl
    refine ⟨by (first | lia | omega), _, _, hq, by rw [List.getElem?_map, hg]; rfl, ?_⟩
    rw [n_sub h2]
    walk_at "vc"
    walk_at "vc"
    have hlt := hl (litAt ls p) (List.mem_of_getElem? hg)
    have hs : s = 0 ∨ s = 1 := by (first | lia | omega)
    rcases hs with rfl | rfl
    · refine back_ret (h _ _ _ _ (Grown.same A W) (xor1_lt hlt) fun v C => ?_)
      rw [lv_xor1]
      exact (bdec0 _).symm
    · refine back_ret (h _ _ _ _ (Grown.same A W) (by simpa using hlt) fun v C => ?_)
      simp only [Nat.sub_self, Nat.xor_zero, Tree.ev]
      exact (bdec1 _).symm
  | and l r ihl ihr =>
    intro dp un σ P ns tb hd hu hok A W hlen hq hl h
    simp only [Tree.dep] at hd hu
    simp only [Tree.cost] at hlen h
    refine FnA.call D.dbuild_tree ["aig", "tree", "literals"] (by decide +kernel) (by walk_at "lim") rfl (by walk_at "bind3") fun c O hdp hun hcs => ?_
    show wpSs g c (_ :: _) _ _ _
    simp only [Tree.av]
    walk_at "vc"
    refine ihl (by (first | lia | omega)) (by (first | lia | omega)) hok.1 A W (by (first | lia | omega)) hq hl fun z1 ns1 tb1 σ1 G1 hz1 hv1 => ?_
    have l1 := G1.len
    walk_at "vc"
    refine ihr (by (first | lia | omega)) (by (first | lia | omega)) hok.2 G1.at_ G1.wf (by (first | lia | omega)) (by rw [G1.frame q hqn (ne_mo hq A.t (by simp))]; exact hq) (fun l h => by have := hl l h; (first | lia | omega)) fun z2 ns2 tb2 σ2 G2 hz2 hv2 => ?_
    have l2 := G2.len
    walk_at "vc"
    refine smart_and_spec D K hsm (by (first | lia | omega)) (by (first | lia | omega)) G2.at_ G2.wf (by (first | lia | omega)) (by (first | lia | omega)) hz2 fun z3 ns3 tb3 σ3 G3 hz3 hv3 => ?_
    walk_at "vc"
    have GG := (G1.trans G2).trans G3
    refine back_ret (h z3 _ _ _ ⟨GG.at_, GG.wf, by obtain ⟨e, a, b⟩ := GG.ext; exact ⟨e, a, by (first | lia | omega)⟩, GG.frame⟩ hz3 fun v C => ?_)
    rw [hv3 v C, hv1 v (G2.cons (G3.cons C)), hv2 v (G3.cons C)]
    rfl
  | or l r ihl ihr =>
    intro dp un σ P ns tb hd hu hok A W hlen hq hl h
    simp only [Tree.dep] at hd hu
    simp only [Tree.cost] at hlen h
    refine FnA.call D.dbuild_tree ["aig", "tree", "literals"] (by decide +kernel) (by walk_at "lim") rfl (by walk_at "bind3") fun c O hdp hun hcs => ?_
    show wpSs g c (_ :: _) _ _ _
    simp only [Tree.av]
    walk_at "vc"
    refine ihl (by (first | lia | omega)) (by (first | lia | omega)) hok.1 A W (by (first | lia | omega)) hq hl fun z1 ns1 tb1 σ1 G1 hz1 hv1 => ?_
    have l1 := G1.len
    walk_at "vc"
    refine ihr (by (first | lia | omega)) (by (first | lia | omega)) hok.2 G1.at_ G1.wf (by (first | lia | omega)) (by rw [G1.frame q hqn (ne_mo hq A.t (by simp))]; exact hq) (fun l h => by have := hl l h; (first | lia | omega)) fun z2 ns2 tb2 σ2 G2 hz2 hv2 => ?_
    have l2 := G2.len
    walk_at "vc"
    refine smart_and_spec D K hsm (by (first | lia | omega)) (by (first | lia | omega)) G2.at_ G2.wf (by (first | lia | omega)) (xor1_lt (by (first | lia | omega))) (xor1_lt hz2) fun z3 ns3 tb3 σ3 G3 hz3 hv3 => ?_
    walk_at "vc"
    have GG := (G1.trans G2).trans G3
    refine back_ret (h _ _ _ _ ⟨GG.at_, GG.wf, by obtain ⟨e, a, b⟩ := GG.ext; exact ⟨e, a, by (first | lia | omega)⟩, GG.frame⟩ (xor1_lt hz3) fun v C => ?_)
    rw [lv_xor1, hv3 v C, lv_xor1, lv_xor1, hv1 v (G2.cons (G3.cons C)), hv2 v (G3.cons C)]
    simp only [Tree.ev, Bool.not_and, Bool.not_not]
end
/-! text Q6 -/


noncomputable def bitV (b : Bool) : AV := .int (b.toNat : Nat)
noncomputable def fv (bs : List Bool) (i : Nat) : Bool := (bs[i]?).getD false
theorem toNat_le (b : Bool) : b.toNat ≤ 1 := by cases b <;> decide
section
variable {g : G} {c : Cx} {dp un : Nat} {σ : Store} {P : AV → Store → Prop} {a : Ag} {ns : List Nd} {ins : List Nat} {tb : Tb}
theorem law_bit_spec (D : Defs g) (hd : dp + 100 < 990) {q : Addr} {bs : List Bool} (hq : σ q = some (.list (bs.map bitV))) (hlen : bs.length ≤ 1000000) {l : Nat} (hl : l < 2 * bs.length) (h : P (bitV (lv (fv bs) l)) σ) :
    CallN g dp un "_law_bit" [.ref q, .int l] σ P := by
  refine FnA.call D.dlaw_bit ["found", "literal"] (by decide +kernel) (by walk_at "lim") rfl (by walk_at "bind2") fun c O hdp hun hcs => ?_
  show wpSs g c (_ :: _) _ _ _
  walk_at "vc"
  have hg : bs[l / 2]? = some (fv bs (l / 2)) := by unfold fv; rw [List.getElem?_eq_getElem (by (first | lia | omega))]; rfl
  refine ⟨by rw [limit1000, frames100]; (first | lia | omega), by (first | lia | omega), _, _, hq, by rw [List.getElem?_map, hg]; rfl, ?_⟩
  unfold lv at h
  have hb : l % 2 = (l.testBit 0).toNat := by
    rw [Nat.testBit_zero]
    rcases Nat.mod_two_eq_zero_or_one l with e | e <;> rw [e] <;> rfl
  rw [hb]
  unfold bitV at h ⊢
  cases hz : l.testBit 0 with
  | true =>
    rw [hz] at h
    walk_at "vc"
    rw [n_sub (toNat_le _)]
    walk_at "vc"
    refine back_ret ?_
    rw [show 1 - (fv bs (l / 2)).toNat = (fv bs (l / 2) ^^ true).toNat by cases fv bs (l / 2) <;> rfl]
    exact h
  | false =>
    rw [hz] at h
    walk_at "vc"
    refine back_ret ?_
    rw [Bool.xor_false] at h
    exact h
/-- the source of picks -/
noncomputable def Src (σ : Store) (st fd : Addr) (feed : List Nat) : Prop := (∃ i : Nat, σ st = some (.list [.ref fd, .int (i : Nat)])) ∧ σ fd = some (.list (feed.map fun j => AV.int (j : Nat))) ∧ feed.length ≤ 1000
noncomputable def picked (σ : Store) (st fd : Addr) (i : Nat) : Store := σ.set st (.list [.ref fd, .int (i : Nat)])
theorem law_pick_spec (D : Defs g) (hd : dp < 990) {st fd : Addr} {feed : List Nat} (hs : Src σ st fd feed) {many : Nat} (hm : many ≠ 0) (h : ∀ v i, v < many → P (.int (v : Nat)) (picked σ st fd i)) :
    CallN g dp un "_law_pick" [.ref st, .int many] σ P := by
  refine FnA.call D.dlaw_pick ["state", "many"] (by decide +kernel) (by walk_at "lim") rfl (by walk_at "bind2") fun c O hdp hun hcs => ?_
  show wpSs g c (_ :: _) _ _ _
  obtain ⟨⟨i, h1⟩, h2, h3⟩ := hs
  have hne : st ≠ fd := by
    rintro rfl
    rw [h1] at h2
    have := Option.some.inj h2
    simp only [MO.list.injEq] at this
    cases feed with
    | nil => cases this
    | cons x r => simp at this
  walk_at "vc"
  refine ⟨_, _, h1, rfl, _, _, h1, rfl, ?_⟩
  walk_at "vc"
  refine ⟨_, h2, by rw [List.length_map]; (first | lia | omega), ?_⟩
  rw [List.length_map]
  split
  · have e : picked σ st fd i = σ := Store.set_eq h1
    exact back_ret (by rw [← e]; exact h 0 i (by (first | lia | omega)))
  · rename_i hi
    refine ⟨_, _, h1, rfl, ?_⟩
    walk_at "vc"
    refine ⟨_, h1, by (first | lia | omega), by (first | lia | omega), by simp, ?_⟩
    walk_at "vc"
    refine ⟨_, _, Store.set_same, rfl, ?_⟩
    walk_at "vc"
    refine ⟨_, _, Store.set_same, rfl, ?_⟩
    walk_at "vc"
    rw [n_sub (by (first | lia | omega)), Nat.add_sub_cancel]
    walk_at "vc"
    walk_at "vc"
    refine ⟨by (first | lia | omega), _, _, by rw [Store.set_ne hne.symm]; exact h2, by rw [List.getElem?_map, List.getElem?_eq_getElem (by (first | lia | omega))]; rfl, ?_⟩
    walk_at "vc"
    exact ⟨hm, back_ret (h _ (i + 1) (Nat.mod_lt _ (Nat.pos_of_ne_zero hm)))⟩
theorem law_feed_spec (D : Defs g) (hd : dp + 100 < 990) {p : Addr} {xs : List Int} (hp : g.fz p = some xs) (hxs : xs.length ≤ 63) (h : ∀ st fd feed σ', Sub σ σ' → σ st = none → σ fd = none → Src σ' st fd feed → P (.ref st) σ') :
    CallN g dp un "_law_feed" [.ref p] σ P := by
  refine FnA.call D.dlaw_feed ["script"] (by decide +kernel) (by walk_at "lim") rfl (by walk_at "bind1") fun c O hdp hun hcs => ?_
  show wpSs g c (_ :: _) _ _ _
  walk_at "vc"
  intro fd nfd
  refine ⟨by (first | lia | omega), _, ⟨p, rfl, .inr ⟨xs, hp, rfl⟩⟩, by rw [List.length_map, sizeLine_eq]; (first | lia | omega), fun d nd => ?_⟩
  rw [← List.map_take]
  have hdf : d ≠ fd := by rintro rfl; rw [Store.set_same] at nd; cases nd
  have nd' : σ d = none := by rw [Store.set_ne hdf] at nd; exact nd
  have S0 : Sub σ ((σ.set fd (.list [])).set d (.list ((xs.take (40 : Nat)).map AV.int))) := (Sub.new nfd).set nd'
  have m0 : ((σ.set fd (.list [])).set d (.list ((xs.take (40 : Nat)).map AV.int))) fd = some (.list []) := by rw [Store.set_ne hdf.symm, Store.set_same]
  have m1 : ((σ.set fd (.list [])).set d (.list ((xs.take (40 : Nat)).map AV.int))) d = some (.list ((xs.take (40 : Nat)).map AV.int)) := Store.set_same
  rw [show ((40 : Nat) : Int).toNat = 40 from rfl]
  generalize (σ.set fd (.list [])).set d (.list ((xs.take (40 : Nat)).map AV.int)) = σ1 at *
  refine ⟨_, ⟨d, rfl, .inl m1⟩, ?_⟩
  refine forL_rule AV.int (xs.take 40) (fun pre lo σ2 => Sub σ σ2 ∧ σ2 d = some (.list ((xs.take (40 : Nat)).map AV.int)) ∧ (∃ feed : List Nat, σ2 fd = some (.list (feed.map fun j => AV.int (j : Nat))) ∧ feed.length ≤ 80) ∧ Has lo [("feed", .ref fd)])
    ⟨S0, m1, ⟨[], m0, by simp⟩, by walk_at "has"⟩ ?_ ?_
  · rintro _ σ2 ⟨S2, m2, ⟨feed, m3, hlen⟩, lo, rfl⟩
    refine ⟨⟨d, rfl, .inl m2⟩, ?_⟩
    simp only [Locals.sets]
    walk_at "vc"
    intro st nst
    have hne : fd ≠ st := by rintro rfl; rw [m3] at nst; cases nst
    exact back_ret (h st fd feed _ (S2.set (S2.none nst)) (S2.none nst) nfd ⟨⟨0, Store.set_same⟩, by rw [Store.set_ne hne]; exact m3, by (first | lia | omega)⟩)
  · rintro pre z post _ σ2 e ⟨S2, m2, ⟨feed, m3, hlen⟩, lo, rfl⟩
    refine ⟨⟨d, rfl, .inl m2⟩, fun Q T => ?_⟩
    simp only [Locals.sets]
    walk_at "vc"
    refine while_rule (m := 80 - feed.length) (fun n lo σ2 => Sub σ σ2 ∧ σ2 d = some (.list ((xs.take (40 : Nat)).map AV.int)) ∧ (∃ feed : List Nat, σ2 fd = some (.list (feed.map fun j => AV.int (j : Nat))) ∧ feed.length + n = 80) ∧ ∃ r : Nat, Has lo [("feed", .ref fd), ("rest", .int (r : Nat))])
      ⟨S2, m2, ⟨feed, m3, by (first | lia | omega)⟩, z.natAbs, by walk_at "has"⟩ ?_
    rintro n _ σ3 ⟨S3, m4, ⟨feed, m5, hlen⟩, r, lo, rfl⟩ Q T2
    simp only [Locals.sets]
    walk_at "vc"
    refine ⟨_, m5, by rw [List.length_map]; (first | lia | omega), ?_⟩
    rw [List.length_map]
    walk_at "vc"
    split
    · rename_i hn
      rw [mk_app m5]
      walk_at "vc"
      refine ⟨_, m5, by rw [List.length_map, sizeLine_eq]; (first | lia | omega), by rw [limit1000, frames100]; (first | lia | omega), ?_⟩
      have S4 : Sub σ (σ3.set fd (.list (feed.map (fun j => AV.int (j : Nat)) ++ [AV.int ((r % 251 : Nat) : Int)]))) := S3.set nfd
      have m6 : (σ3.set fd (.list (feed.map (fun j => AV.int (j : Nat)) ++ [AV.int ((r % 251 : Nat) : Int)]))) d = some (.list ((xs.take (40 : Nat)).map AV.int)) := by rw [Store.set_ne hdf]; exact m4
      have m7 : (σ3.set fd (.list (feed.map (fun j => AV.int (j : Nat)) ++ [AV.int ((r % 251 : Nat) : Int)]))) fd = some (.list ((feed ++ [r % 251]).map fun j => AV.int (j : Nat))) := by rw [Store.set_same, List.map_append]; rfl
      split
      · refine T2.brk _ _ ?_
        refine T.next _ _ ⟨S4, m6, ⟨_, m7, by simp; (first | lia | omega)⟩, by walk_at "has"⟩
      · exact T2.next _ _ ⟨n - 1, by (first | lia | omega), S4, m6, ⟨_, m7, by simp; (first | lia | omega)⟩, r / 251, by walk_at "has"⟩
    · refine T.next _ _ ⟨S3, m4, ⟨feed, m5, by (first | lia | omega)⟩, by walk_at "has"⟩
end
/-! text Q7 -/


noncomputable def stepB (ins : List Nat) (line : Nat) (pre : List Bool) (i : Nat) : Nd → Bool
  | some p => lv (fv pre) p.1 && lv (fv pre) p.2
  | none => if i ∈ ins then line.testBit (ins.idxOf i) else false
noncomputable def runTo (ns : List Nd) (ins : List Nat) (line : Nat) : Nat → List Bool
  | 0 => []
  | i + 1 => runTo ns ins line i ++ [stepB ins line (runTo ns ins line i) i (nd ns i)]
theorem runTo_len (ns : List Nd) (ins : List Nat) (line : Nat) : ∀ i, (runTo ns ins line i).length = i
  | 0 => rfl
  | i + 1 => by rw [runTo, List.length_append, runTo_len ns ins line i]; rfl
theorem fv_runTo (ns : List Nd) (ins : List Nat) (line : Nat) {i : Nat} : ∀ {n : Nat}, i < n → fv (runTo ns ins line n) i = stepB ins line (runTo ns ins line i) i (nd ns i)
  | 0, h => absurd h (Nat.not_lt_zero _)
  | n + 1, h => by
    have hl := runTo_len ns ins line n
    by_cases e : i = n
    · subst e
      unfold fv
      rw [runTo, List.getElem?_append_right (by (first | lia | omega)), hl]
      simp
    · have ih := fv_runTo ns ins line (i := i) (n := n) (by (first | lia | omega))
      unfold fv at ih ⊢
      rw [runTo, List.getElem?_append_left (by (first | lia | omega))]
      exact ih
theorem run_cons {ns : List Nd} {tb : Tb} (W : Wf ns tb) (ins : List Nat) (line : Nat) (h0 : 0 ∉ ins) : Cons ns (fv (runTo ns ins line ns.length)) := by
  constructor
  · have h := (List.getElem?_eq_some_iff.mp W.zero).1
    rw [fv_runTo ns ins line h]
    have : nd ns 0 = none := by unfold nd; rw [W.zero]; rfl
    rw [this]
    simp [stepB, h0]
  · intro i p hp
    have hi := (List.getElem?_eq_some_iff.mp hp).1
    have hn : nd ns i = some p := by unfold nd; rw [hp]; rfl
    have hl := W.lits i p hp
    rw [fv_runTo ns ins line hi, hn]
    have same : ∀ l, l < 2 * i → lv (fv (runTo ns ins line i)) l = lv (fv (runTo ns ins line ns.length)) l := by
      intro l hl
      unfold lv
      rw [fv_runTo ns ins line (n := i) (by (first | lia | omega)), fv_runTo ns ins line (n := ns.length) (by (first | lia | omega))]
    simp only [stepB, same _ hl.1, same _ hl.2]
theorem run_input {ns : List Nd} {ins : List Nat} {line j : Nat} (hn : ns[j]? = some none) (hj : j ∈ ins) : fv (runTo ns ins line ns.length) j = line.testBit (ins.idxOf j) := by
  have hi := (List.getElem?_eq_some_iff.mp hn).1
  have : nd ns j = none := by unfold nd; rw [hn]; rfl
  rw [fv_runTo ns ins line hi, this]
  simp [stepB, hj]
section
variable {g : G} {c : Cx} {dp un : Nat} {σ : Store} {P : AV → Store → Prop} {a : Ag} {ns : List Nd} {ins : List Nat} {tb : Tb}
theorem mk_idx {p : Addr} {l : List AV} {K : MK → Prop} (h : σ p = some (.list l)) : methK g (.ref p) "index" σ K = K (.idx p) := by
  simp (decide := true) only [methK, h, if_false, true_and]
noncomputable def insLay (ins : List Nat) : Bool := (PyData.list ((ins.map fun j => ((j : Nat) : Int)).map .int)).layable0
theorem in_ins {p : Addr} {x : Nat} {Q : Bool → Prop} (hp : σ p = some (.list (ins.map fun j => AV.int (j : Nat)))) (hu : un + 2 < cLine) (h : Q (decide (x ∈ ins))) : inW un (.int x) (.ref p) σ Q := by
  refine ⟨hu, ins.map fun j => ((j : Nat) : Int), by rw [hp, List.map_map]; rfl, ?_⟩
  have e : decide ((x : Int) ∈ ins.map fun j => ((j : Nat) : Int)) = decide (x ∈ ins) := by
    congr 1
    simp only [List.mem_map, Int.natCast_inj, exists_eq_right]
  rw [e]; exact h
theorem idx_cast (x : Nat) : ∀ ins : List Nat, (ins.map fun j => ((j : Nat) : Int)).idxOf (x : Int) = ins.idxOf x
  | [] => rfl
  | y :: r => by
    rw [List.map_cons, List.idxOf_cons, List.idxOf_cons, idx_cast x r]
    by_cases h : y = x
    · subst h; simp
    · have h1 : (y == x) = false := beq_eq_false_iff_ne.mpr h
      have h2 : (((y : Nat) : Int) == ((x : Nat) : Int)) = false := beq_eq_false_iff_ne.mpr fun z => h (by (first | lia | omega))
      rw [h1, h2]
theorem idx_ins {p : Addr} {x : Nat} (hp : σ p = some (.list (ins.map fun j => AV.int (j : Nat)))) (hl : insLay ins = true) (hx : x ∈ ins) (h : P (.int (ins.idxOf x : Nat)) σ) : methW g c (.idx p) [.int x] σ P := by
  refine ⟨ins.map fun j => ((j : Nat) : Int), by rw [hp, List.map_map]; rfl, hl, ?_, ?_⟩
  · simp only [List.mem_map, Int.natCast_inj, exists_eq_right]; exact hx
  · rw [idx_cast]; exact h
theorem law_run_spec (D : Defs g) (K : ClsOk g) (hd : dp + 100 < 980) (hu : un + 20 < 9900) (A : AgAt g a σ ns ins tb) (W : Wf ns tb) (hlen : ns.length ≤ 1000000) (hlay : insLay ins = true) (hins : ins.length ≤ 100) {line : Nat}
    (h : New σ (.list ((runTo ns ins line ns.length).map bitV)) P) : CallN g dp un "_law_run" [.ref a.x, .int line] σ P := by
  refine FnA.call D.dlaw_run ["aig", "line"] (by decide +kernel) (by walk_at "lim") rfl (by walk_at "bind2") fun c O hdp hun hcs => ?_
  show wpSs g c (_ :: _) _ _ _
  walk_at "vc"
  intro q nq
  have S0 := Sub.new (m := .list []) nq
  have m0 : (σ.set q (.list [])) q = some (.list []) := Store.set_same
  generalize σ.set q (.list []) = σ0 at *
  have A' : ∀ {σ'}, Sub σ σ' → AgAt g a σ' ns ins tb := fun S => ⟨S _ _ A.x, S _ _ A.d, S _ _ A.n, S _ _ A.i, S _ _ A.t, A.ni⟩
  simp only [at_nodes K (A' S0)]
  walk_at "vc"
  walk_at "vc"
  refine ⟨_, (A' S0).n, by rw [List.length_map]; (first | lia | omega), ?_⟩
  rw [List.length_map]
  refine ⟨_, rfl, by (first | lia | omega), by (first | lia | omega), ?_⟩
  refine forR_rule ns.length (fun i lo σ' => Sub σ σ' ∧ σ' q = some (.list ((runTo ns ins line i).map bitV)) ∧ Has lo [("aig", .ref a.x), ("line", .int line), ("found", .ref q)]) ⟨S0, m0, by walk_at "has"⟩ ?_ ?_
  · rintro _ σ1 ⟨S1, m1, lo, rfl⟩
    simp only [Locals.sets]
    walk_at "vc"
    exact back_ret (h q σ1 nq S1 m1)
  · rintro i _ σ1 hi ⟨S1, m1, lo, rfl⟩ Q T
    simp only [Locals.sets]
    walk_at "vc"
    simp only [at_nodes K (A' S1)]
    walk_at "vc"
    refine it_nodeE (A' S1) hi hlen ?_
    have hl := runTo_len ns ins line i
    have fin : ∀ (b : Bool) (lo' : Locals), stepB ins line (runTo ns ins line i) i (nd ns i) = b → Has lo' [("aig", .ref a.x), ("line", .int line), ("found", .ref q)] →
        ∃ l, σ1 q = some (MO.list l) ∧ l.length ≤ sizeLine ∧ Q .next lo' (σ1.set q (.list (l ++ [bitV b]))) := by
      rintro b lo' hb hlo
      refine ⟨_, m1, by rw [List.length_map, hl, sizeLine_eq]; (first | lia | omega), T.next _ _ ⟨S1.set nq, ?_, hlo⟩⟩
      rw [Store.set_same, runTo, List.map_append, hb]; rfl
    cases hn : nd ns i with
    | some p =>
      have hpl := W.lits i p (nd_some hn)
      simp only [ndV, isn_pair]
      walk_at "vc"
      rw [mk_app m1]
      walk_at "vc"
      unfold pairV
      walk_at "vc"
      refine law_bit_spec D (by walk_at "dd") m1 (by (first | lia | omega)) (by (first | lia | omega)) ?_
      walk_at "vc"
      refine law_bit_spec D (by walk_at "dd") m1 (by (first | lia | omega)) (by (first | lia | omega)) ?_
      unfold bitV
      walk_at "vc"
      have hb : (lv (fv (runTo ns ins line i)) p.1).toNat * (lv (fv (runTo ns ins line i)) p.2).toNat = (lv (fv (runTo ns ins line i)) p.1 && lv (fv (runTo ns ins line i)) p.2).toNat := by
        cases lv (fv (runTo ns ins line i)) p.1 <;> cases lv (fv (runTo ns ins line i)) p.2 <;> rfl
      rw [hb]
      refine ⟨mulok_nat (by have := toNat_le (lv (fv (runTo ns ins line i)) p.1); (first | lia | omega)), fin _ _ (by rw [hn]; rfl) (by walk_at "has")⟩
    | none =>
      simp only [ndV]
      walk_at "vc"
      simp only [at_inputs K (A' S1)]
      walk_at "vc"
      refine in_ins (A' S1).i (by rw [cLine_eq]; (first | lia | omega)) ?_
      walk_at "vc"
      split
      · rename_i hi'
        rw [mk_app m1]
        walk_at "vc"
        try simp only [at_inputs K (A' S1)]
        walk_at "vc"
        rw [mk_idx (A' S1).i]
        walk_at "vc"
        refine idx_ins (A' S1).i hlay hi' ?_
        walk_at "vc"
        have hix : ins.idxOf i ≤ 100 := Nat.le_trans List.idxOf_le_length hins
        have := Nat.two_pow_pos (ins.idxOf i)
        refine ⟨by (first | lia | omega), by (first | lia | omega), by rw [limit1000, frames100]; (first | lia | omega), ?_⟩
        exact fin _ _ (by rw [hn]; simp [stepB, hi']) (by walk_at "has")
      · rename_i hi'
        rw [mk_app m1]
        walk_at "vc"
        exact fin false _ (by rw [hn]; simp [stepB, hi']) (by walk_at "has")
end
/-! text VC15 -/

section
variable {g : G} {c : Cx} {lo : Locals} {σ : Store} {X : Led} {s s' : Shared}
theorem St.perm {X' : Led} (S : St g c lo σ X s) (h : ∀ q ∈ X', q ∈ X) : St g c lo σ X' s := ⟨S.fr, S.loc, S.so, fun q hq => S.xs q (h q hq)⟩
theorem St.fromX {d : Addr} {ys : List AV} {vs : List Value} {n : Nat} (S : St g c lo σ ((d, listOf vs.toArray n) :: X) s) (hX : ∀ q ∈ X, q.1 ≠ d) (r : HRels s.heap ys vs) : σ d = none ∧ St g c lo (σ.set d (.list ys)) X s := by
  obtain ⟨e1, e2, e3, e4⟩ := S.xs _ (.head _)
  refine ⟨e4, S.fr, S.loc, fun b mo q => ?_, fun q hq => ?_⟩
  · unfold Store.set at q
    split at q
    · rename_i e'
      cases q; subst e'
      exact ⟨⟨vs, n, e1, r⟩, e2, e3⟩
    · exact S.so b mo q
  · obtain ⟨d1, d2, d3, d4⟩ := S.xs q (.tail _ hq)
    exact ⟨d1, d2, d3, by rw [Store.set_ne (hX q hq)]; exact d4⟩
/-- an element of a comprehension, its name at i -/
noncomputable def AEC (g : G) (c : Cx) (scope : Scope) (cl : List (Str × Addr)) (x : Str) (elt : Expr) (i : Nat) (lo : Locals) (σ : Store) (P : AV → Store → Prop) : Prop :=
  ∀ C oC m₂ X s, St g c lo σ X s → (C, oC) ∈ X → LCg.NsObj oC m₂ → (∃ t, m₂ x = some (.int (i : Nat) t)) → wpAny g.M c.A (eval elt (compEnvC scope cl C c.env)) (Ret g c lo X s P) NoE s

theorem nsobj_no {o : Obj} {m : Str → Option Value} (h : LCg.NsObj o m) : ∀ vs, o ≠ tupO vs := fun vs e => by
  obtain ⟨es, ep, hd, _⟩ := h
  subst e
  cases hd
theorem listOf_no {xs : Array Value} {n : Nat} : ∀ vs, listOf xs n ≠ tupO vs := fun vs e => by have := congrArg Obj.cls e; simp at this

theorem comp_block (O : c.Ok g) {elt iter : Expr} {x y : Str} {px py pos : Pos} {scope : Scope} {cl : List (Str × Addr)} {n : Nat} {J : List AV → Store → Prop} {P : AF → Locals → Store → Prop} {s₀ : Shared} {I : Addr} {oI : Obj}
    (hcell : ∀ z ∈ scope.names, z.2 ≠ .cell) (hkind : scope.kind = .function) (hx : scope.names.lookup x = some .local) (hy : okN c y) (hn : n ≤ 1000)
    (helt : ∀ i ys σ, i < n → ys.length = i → J ys σ → AEC g c scope cl x elt i lo σ fun a σ' => J (ys ++ [a]) σ')
    (hend : ∀ ys σ d, ys.length = n → J ys σ → σ d = none → P .next (lo.set y (.ref d)) (σ.set d (.list ys)))
    (S₃ : St g c lo σ ((I, oI) :: X) s) (hXI : ∀ q ∈ X, q.1 ≠ I) (hi : oI = { cls := .type "range_iterator", dict := none, data := .fields #[rawInt (0 : Nat), rawInt ((if 0 < (n : Int) then (n : Int) else 0) - ((0 : Nat) : Int)), rawInt 1], slots := #[] }) (E₀ : Ev s₀ s) (hJ : J [] σ) :
    wpAny g.M c.A (newList []) (fun acc s₃ => wpAny g.M c.A (newFunctionEnv scope c.env.globals cl [] c.env.qual none .none (some c.env)) (fun cenv s₄ =>
      codeAny g.M c.A (.compStart (.ListComp elt [⟨.Name x px, iter, [], 0⟩] scope pos) 0 (.ref I) acc { cenv with scope := relabel scope c.env }) (compPost g.M c.A NoE (some (assign (.Name y py) c.env)) (fun _ s' => RetF g c X s₀ P .next s') acc cenv.locals) s₄) NoE s₃) NoE s := by
  have W : Walk g c s.heap I (rangeL (n : Nat)) (fun _ => True) _ := walk_range (n := (n : Nat))
  obtain ⟨S₄, E₄, hXD⟩ := S₃.pushX (tk := s.toks) (o := { cls := .type "list", dict := none, data := .seq ([] : List Value).toArray }) rfl
  refine wpAny_newObj_type (wpAny_newFunctionEnv hcell (by intro y hy; simp at hy) (fun h₁ hns₁ hsb₁ => ?_) hkind) (by show (0 : Nat) ≤ sizeLine; exact Nat.zero_le _)
  dsimp only at hns₁ hsb₁ ⊢
  generalize hD : s.heap.objs.size = D at *
  generalize hH2 : s.heap.push { cls := .type "list", dict := none, data := .seq ([] : List Value).toArray } = H2 at *
  have kold : ∀ b o, H2.get? b = some o → h₁.get? b = some o := fun b o e => hsb₁.extBut b o (Nat.ne_of_lt (Heap.lt_size e)) (Heap.get?_push_of_some _ e)
  obtain ⟨S₅, E₅⟩ := S₄.keep (h' := h₁) (tk := s.toks + ([] : List (Str × Value)).length) kold
  obtain ⟨oC, heC, hoC⟩ := LCg.ns_obj hns₁
  have hCf := S₄.free (get_size _)
  dsimp only at hCf
  generalize hC : H2.objs.size = C at *
  have hCD : C ≠ D := by
    rintro rfl
    have := (S₄.xs _ (.head _)).1
    have := Heap.lt_size this
    dsimp only at this
    rw [hC] at this
    exact Nat.lt_irrefl _ this
  have hCI : C ≠ I := by
    rintro rfl
    have := (S₄.xs _ (.tail _ (.head _))).1
    have := Heap.lt_size this
    dsimp only at this
    rw [hC] at this
    exact Nat.lt_irrefl _ this
  have hID : I ≠ D := hXD _ (.head _)
  have hXD' : ∀ q ∈ X, q.1 ≠ D := fun q hq => hXD q (.tail _ hq)
  have hXC : ∀ q ∈ X, q.1 ≠ C := fun q hq e => by
    have := (S₄.xs q (.tail _ (.tail _ hq))).1
    have := Heap.lt_size this
    dsimp only at this
    rw [hC, e] at this
    exact Nat.lt_irrefl _ this
  have S₆ : St g c lo σ ((I, oI) :: (C, oC) :: (D, listOf ([] : List Value).toArray 0) :: X) { s with heap := h₁, toks := s.toks + ([] : List (Str × Value)).length } := by
    refine ⟨S₅.fr, S₅.loc, S₅.so, fun q hq => ?_⟩
    rcases List.mem_cons.mp hq with rfl | hq
    · exact S₅.xs _ (.tail _ (.head _))
    · rcases List.mem_cons.mp hq with rfl | hq
      · exact ⟨heC, hCf.2.1, hCf.2.2, hCf.1⟩
      · rcases List.mem_cons.mp hq with rfl | hq
        · exact S₅.xs _ (.head _)
        · exact S₅.xs _ (.tail _ (.tail _ hq))
  have E₆ := E₀.trans (E₄.trans E₅)
  have Es : TupLe s.heap h₁ := (E₄.trans E₅).tup
  have loop : ∀ s₃ : Shared, s₃ = { s with heap := h₁, toks := s.toks + ([] : List (Str × Value)).length } →
      codeAny g.M c.A (.compLoop (.ListComp elt [⟨.Name x px, iter, [], 0⟩] scope pos) 0 (.ref I) (.ref D) (compEnvC scope cl C c.env))
        (compPost g.M c.A NoE (some (assign (.Name y py) c.env)) (fun _ s' => RetF g c X s₀ P .next s') (.ref D) C) s₃ := by
    rintro s₃ rfl
    refine codeAny_compLoop_tests
      (fun k s' => ∃ i oI ys vs nn oC m' σ', k = n + 1 - i ∧ i ≤ n ∧ (oI = { cls := .type "range_iterator", dict := none, data := .fields #[rawInt (i : Nat), rawInt ((if 0 < (n : Int) then (n : Int) else 0) - (i : Nat)), rawInt 1], slots := #[] } ∧ (i : Int) ≤ (if 0 < (n : Int) then (n : Int) else 0)) ∧
        ys.length = i ∧ J ys σ' ∧ HRels s'.heap ys vs ∧ LCg.NsObj oC m' ∧ St g c lo σ' ((I, oI) :: (C, oC) :: (D, listOf vs.toArray nn) :: X) s' ∧ Ev s₀ s' ∧ TupLe s.heap s'.heap) ?_ (n + 1)
      ⟨0, oI, [], [], 0, oC, _, σ, rfl, Nat.zero_le _, ⟨hi, by split <;> (first | lia | omega)⟩, rfl, hJ, by simp only [HRels], hoC, S₆, E₆, Es⟩
    rintro k s' ⟨i, oI, ys, vs, nn, oC, m', σ', rfl, hi, hI, hyl, hJ, hr, hoC, S', E', Es'⟩
    have hXI' : ∀ q ∈ ((C, oC) :: (D, listOf vs.toArray nn) :: X), q.1 ≠ I := fun q hq => by
      rcases List.mem_cons.mp hq with rfl | hq
      · exact hCI
      · rcases List.mem_cons.mp hq with rfl | hq
        · exact hID.symm
        · exact hXI q hq
    by_cases hlt : i < n
    · refine noE (W.next i oI lo σ' _ s' (.int (i : Nat)) Es' hI (by rw [rangeL_get, if_pos (by (first | lia | omega))]) trivial S' hXI') fun r s₁ q => ?_
      obtain ⟨v, oI', rfl, rv, hI', S₁, E₁⟩ := q
      simp only [HRel] at rv
      obtain ⟨t, rfl⟩ := rv
      dsimp only
      have hCn : s₁.heap.Ns C m' := hoC.ns (S₁.xs _ (.tail _ (.head _))).1
      refine wpAny_assign_Name (wpAny_storeName_local (lookup_relabel_local hx) hCn (fun h₃ hn₃ hs₃ => ?_) (by simp [compEnvC, relabel, hkind]))
      obtain ⟨oC₃, heC₃, hoC₃⟩ := LCg.ns_obj hn₃
      have S₁' : St g c lo σ' ((C, oC) :: (I, oI') :: (D, listOf vs.toArray nn) :: X) s₁ := S₁.perm fun q hq => by
        simp only [List.mem_cons] at hq ⊢
        rcases hq with h | h | h
        · exact .inr (.inl h)
        · exact .inl h
        · exact .inr (.inr h)
      obtain ⟨S₂, E₂⟩ := S₁'.updX (tk := s₁.toks + 1) (fun q hq => by
        rcases List.mem_cons.mp hq with rfl | hq
        · exact hCI.symm
        · rcases List.mem_cons.mp hq with rfl | hq
          · exact hCD.symm
          · exact hXC q hq) (nsobj_no hoC) hs₃ heC₃
      refine wpAny_tests_nil ?_
      simp only [if_true]
      refine noE (helt i ys σ' hlt hyl hJ C oC₃ _ _ _ S₂ (.head _) hoC₃ ⟨t, by simp⟩) fun z s₄ q => ?_
      obtain ⟨a, σ₄, hJ₄, ra, S₄, E₄⟩ := q
      have zD := (S₄.xs _ (.tail _ (.tail _ (.head _)))).1
      have hlv := hr.length
      refine append_at (hsz := by rw [List.size_toArray, hlv, hyl]; exact Nat.le_trans (show i ≤ 1000 by (first | lia | omega)) (by decide)) zD fun h₅ hs₅ hD₅ => ?_
      have S₄' : St g c lo σ₄ ((D, listOf vs.toArray nn) :: (I, oI') :: (C, oC₃) :: X) s₄ := S₄.perm fun q hq => by
        simp only [List.mem_cons] at hq ⊢
        rcases hq with h | h | h | h
        · exact .inr (.inr (.inl h))
        · exact .inr (.inl h)
        · exact .inl h
        · exact .inr (.inr (.inr h))
      obtain ⟨S₅, E₅⟩ := S₄'.updX (tk := s₄.toks) (fun q hq => by
        rcases List.mem_cons.mp hq with rfl | hq
        · exact hID
        · rcases List.mem_cons.mp hq with rfl | hq
          · exact hCD
          · exact hXD' q hq) listOf_no hs₅ hD₅
      have Ef := E₁.trans (E₂.trans (E₄.trans E₅))
      refine ⟨n + 1 - (i + 1), by (first | lia | omega), i + 1, oI', ys ++ [a], vs ++ [z], nn + 1, oC₃, _, σ₄, rfl, hlt, hI', by rw [List.length_append, hyl]; rfl, hJ₄, (hr.le Ef.tup).append (by simp only [HRels]; exact ⟨z, [], rfl, ra.le E₅.tup, rfl⟩), hoC₃, ?_, E'.trans Ef, Es'.trans Ef.tup⟩
      rw [← List.push_toArray]
      refine S₅.perm fun q hq => ?_
      simp only [List.mem_cons] at hq ⊢
      rcases hq with h | h | h | h
      · exact .inr (.inl h)
      · exact .inr (.inr (.inl h))
      · exact .inl h
      · exact .inr (.inr (.inr h))
    · obtain rfl : i = n := Nat.le_antisymm hi (Nat.not_lt.mp hlt)
      refine noE (W.done i oI lo σ' _ s' Es' hI (by rw [rangeL_get, if_neg (by (first | lia | omega))]) trivial S' hXI') fun r s₁ q => ?_
      obtain ⟨rfl, S₁, E₁⟩ := q
      dsimp only
      have S₁' : St g c lo σ' ((D, listOf vs.toArray nn) :: (C, oC) :: X) s₁ := S₁.perm fun q hq => by
        simp only [List.mem_cons] at hq ⊢
        rcases hq with h | h | h
        · exact .inr (.inl h)
        · exact .inl h
        · exact .inr (.inr h)
      obtain ⟨nD, S₂⟩ := S₁'.fromX (fun q hq => by
        rcases List.mem_cons.mp hq with rfl | hq
        · exact hCD
        · exact hXD' q hq) (hr.le E₁.tup)
      show wpAny _ _ (assign (.Name y py) c.env (.ref D)) _ _ _
      refine PyProof.Rows.assign_Name (store_ok O hy S₂ href fun s₃ S₃ E₃ => ?_)
      refine ⟨m', hoC.ns (S₃.xs _ (.head _)).1, fun h'' hs'' => ?_⟩
      obtain ⟨S₇, E₇⟩ := S₃.dropX (tk := s₃.toks) hXC (nsobj_no hoC) hs''.extBut
      exact ⟨.next, _, _, hend ys σ' D hyl hJ nD, rfl, S₇, E'.trans (E₁.trans (E₃.trans E₇))⟩
  refine codeAny_compStart_list (loop _ rfl) ?_
  have hIt : IsRangeIter h₁ I (0 + (0 : Nat) * 1) ((n : Nat) - (0 : Nat)) 1 := by
    have e := (S₆.xs _ (.head _)).1
    have hn' : (if 0 < (n : Int) then (n : Int) else 0) = (n : Int) := by split <;> (first | lia | omega)
    rw [hi, hn'] at e
    show h₁.get? I = some _
    rw [e]
    simp [rawInt]
  exact (LCg.range_walks (prog := g.prog) (w := g.w) (A := c.A) rfl 0 n).self 0 _ _ _ hIt (loop _ rfl)
theorem compA_ok (O : c.Ok g) {elt e : Expr} {x y : Str} {px py np cp pos spos : Pos} {scope : Scope} {cl : List (Str × Addr)} {n : Nat} {J : List AV → Store → Prop} {P : AF → Locals → Store → Prop}
    (hsw : swapsWith (.ListComp elt [⟨.Name x px, .Call (.Name "range" np) [e] [] cp, [], 0⟩] scope pos) (some (.Name y py)) spos.line c.env = (pure true : Sem Bool))
    (hclos : closureFor scope c.env = (pure cl : Sem (List (Str × Addr)))) (hcell : ∀ z ∈ scope.names, z.2 ≠ .cell) (hkind : scope.kind = .function)
    (hnames : ∀ z ∈ scope.names, z.2 = .local → scope.names.lookup z.1 = some .local) (hx : scope.names.lookup x = some .local) (hy : okN c y) (hk : CallOk c "range" [e]) (hn : n ≤ 1000)
    (hiter : AE g c e lo σ fun a σ₁ => a = .int (n : Nat) ∧ J [] σ₁)
    (helt : ∀ i ys σ, i < n → ys.length = i → J ys σ → AEC g c scope cl x elt i lo σ fun a σ' => J (ys ++ [a]) σ')
    (hend : ∀ ys σ d, ys.length = n → J ys σ → σ d = none → P .next (lo.set y (.ref d)) (σ.set d (.list ys))) :
    AX g c (.Assign [.Name y py] (.ListComp elt [⟨.Name x px, .Call (.Name "range" np) [e] [] cp, [], 0⟩] scope pos) spos) lo σ P := by
  intro X s S
  rw [exec_Assign_Name_used _ _ _ _ hsw]
  refine wpAny_bind (wpAny_standAt (wpAny_bind ?_))
  show wpAny _ _ (do let _ ← comprehension (.ListComp elt [⟨.Name x px, .Call (.Name "range" np) [e] [] cp, [], 0⟩] scope pos) scope c.env _ (newList []) false (eval (.Call (.Name "range" np) [e] [] cp) c.env) (some (assign (.Name y py) c.env))) _ _ s
  refine wpAny_bind (wpAny_mono (wpAny_comprehension_free (use := some (assign (.Name y py) c.env)) (Q := fun _ s' => RetF g c X s P .next s') rfl (fun _ => rfl) hclos hkind hnames ?_) (fun _ s' hq => wpAny_pure (wpAny_pure hq)) fun _ _ e => e)
  obtain ⟨m, F, hm⟩ := S.fr
  refine Call_ (nameX_B F O.X (topRead_of O.T) (O.blt _ (by decide)) PyProof.Rows.Boot.«range» (by decide) ?_ O.hk hk.glob hk.dbg) rfl
  refine PyProof.Rows.callWith_type1 (wpAny_items_cons (noE (hiter X s S) fun v s₁ q => wpAny_items_nil ?_) (starEach_cons hk.star _)) (starEach_cons hk.star _) rfl
  obtain ⟨a, σ₁, ⟨rfl, h₁⟩, r₁, S₁, E₁⟩ := q
  simp only [HRel] at r₁
  obtain ⟨tk, rfl⟩ := r₁
  refine call_range_1 ?_
  obtain ⟨S₂, E₂⟩ := S₁.keep (h' := s₁.heap.push { cls := .type "range", data := .fields #[.int 0 s₁.toks, .int (n : Nat) tk, .int 1 (s₁.toks + 1)] }) (tk := s₁.toks + 1 + 1) fun _ _ e => Heap.get?_push_of_some _ e
  refine wpAny_pyIter_range (IsRange.new _ _ _ _ _ _ _) (small_one (by decide) (by decide) (by (first | lia | omega)) (by (first | lia | omega))) ?_
  rw [rangeSize_one, Int.sub_zero]
  obtain ⟨S₃, E₃, hX⟩ := S₂.pushX (tk := s₁.toks + 1 + 1) (o := { cls := .type "range_iterator", data := .fields #[rawInt 0, rawInt (if 0 < (n : Int) then (n : Int) else 0), rawInt 1] }) rfl
  have E₀ := E₁.trans (E₂.trans E₃)
  exact comp_block O hcell hkind hx hy hn helt hend S₃ hX (by simp [rawInt]) E₀ h₁
end
/-! text VC16 -/

/-- an expression in the environment of a comprehension's block -/
noncomputable def AC (g : G) (c : Cx) (env : Env) (Y : Led) (e : Expr) (lo : Locals) (σ : Store) (P : AV → Store → Prop) : Prop :=
  ∀ X s, (∀ q ∈ Y, q ∈ X) → St g c lo σ X s → wpAny g.M c.A (eval e env) (Ret g c lo X s P) NoE s
noncomputable def ACs (g : G) (c : Cx) (env : Env) (Y : Led) (es : List Expr) (lo : Locals) (σ : Store) (P : List AV → Store → Prop) : Prop :=
  ∀ pos X s, (∀ q ∈ Y, q ∈ X) → St g c lo σ X s → wpAny g.M c.A (spliced (backTo pos (starEach es env))) (RetS g c lo X s P) NoE s
section
variable {g : G} {c : Cx} {lo : Locals} {σ : Store} {X : Led} {s s' : Shared} {scope : Scope} {cl : List (Str × Addr)} {C : Addr} {Y : Led}
theorem ac_const {i : Int} {n : Nat} {pos : Pos} {env : Env} {P : AV → Store → Prop} (h : P (.int i) σ) : AC g c env Y (.Constant (.int i) n pos) lo σ P :=
  fun _ _ _ S => wpAny_Constant_int (ret_now S h hint)
theorem ac_cell {x : Str} {pos : Pos} {env : Env} {a : Addr} {av : AV} {P : AV → Store → Prop} (hk : env.scope.kind = .function) (hx : env.kindOf x = some .cell) (hc : env.cells.lookup x = some a) (hd : (x == ("__debug__" : Str)) = false) (hσ : σ a = some (.cell (some av))) (h : P av σ) : AC g c env Y (.Name x pos) lo σ P := by
  intro X s _ S
  obtain ⟨o, v', q1, q2, x', q3, r⟩ := (S.so _ _ hσ).1
  subst q3
  exact wpAny_Name (wpAny_loadName_cell hk hx hc ⟨o, q1, q2⟩ (ret_same S h r)) hd
theorem ac_loc {x : Str} {pos : Pos} {env : Env} {oC : Obj} {m : Str → Option Value} {i : Int} {t : Tok} {P : AV → Store → Prop} (hk : env.scope.kind = .function) (hx : env.kindOf x = some .local) (hd : (x == ("__debug__" : Str)) = false)
    (hY : (env.locals, oC) ∈ Y) (hm : LCg.NsObj oC m) (hv : m x = some (.int i t)) (h : P (.int i) σ) : AC g c env Y (.Name x pos) lo σ P := by
  intro X s hX S
  exact wpAny_Name (wpAny_loadName_local hk hx (hm.ns (S.xs _ (hX _ hY)).1) hv (ret_same S h hint)) hd
theorem ac_bin (O : c.Ok g) {l r : Expr} {op : Operator} {pos : Pos} {env : Env} {P : AV → Store → Prop} (h : AC g c env Y l lo σ fun a σ₁ => AC g c env Y r lo σ₁ fun b σ₂ => binW c.dp op a b σ₂ P) : AC g c env Y (.BinOp l op r pos) lo σ P := by
  intro X s hX S
  refine wpAny_BinOp (noE (h X s hX S) fun v s₁ q => ?_)
  obtain ⟨a, σ₁, h₁, r₁, S₁, E₁⟩ := q
  refine noE (h₁ X s₁ hX S₁) fun u s₂ q => ?_
  obtain ⟨b, σ₂, h₂, r₂, S₂, E₂⟩ := q
  exact noE (binW_ok O h₂ X s₂ v u S₂ (r₁.le E₂.tup) r₂) fun v s₃ q => q.after (E₁.trans E₂)
theorem ac_item {value slice : Expr} {pos : Pos} {env : Env} {P : AV → Store → Prop} (hs : notSlice slice = true) (h : AC g c env Y value lo σ fun a σ₁ => AC g c env Y slice lo σ₁ fun b σ₂ => itemW a b σ₂ P) : AC g c env Y (.Subscript value slice pos) lo σ P := by
  intro X s hX S
  refine Subscript_ (noE (h X s hX S) fun o s₁ q => ?_)
  obtain ⟨a, σ₁, h₁, r₁, S₁, E₁⟩ := q
  refine noE (h₁ X s₁ hX S₁) fun i s₂ q => ?_
  obtain ⟨b, σ₂, h₂, r₂, S₂, E₂⟩ := q
  exact noE (itemW_ok hs h₂ X s₂ o i S₂ (r₁.le E₂.tup) r₂) fun v s₃ q => q.after (E₁.trans E₂)
theorem acs_nil {env : Env} {P : List AV → Store → Prop} (h : P [] σ) : ACs g c env Y [] lo σ P := fun _ X s _ S => wpAny_items_nil ⟨[], σ, h, by simp only [HRels], S, .refl _⟩
theorem acs_cons {e : Expr} {r : List Expr} {env : Env} {P : List AV → Store → Prop} (hs : noStar (e :: r) = true) (h : AC g c env Y e lo σ fun a σ₁ => ACs g c env Y r lo σ₁ fun as σ₂ => P (a :: as) σ₂) : ACs g c env Y (e :: r) lo σ P := by
  intro pos X s hX S
  refine wpAny_items_cons (noE (h X s hX S) fun v s₁ q => ?_) (starEach_cons hs _)
  obtain ⟨a, σ₁, h₁, r₁, S₁, E₁⟩ := q
  refine noE (h₁ pos X s₁ hX S₁) fun vs s₂ q => ?_
  obtain ⟨as, σ₂, h₂, r₂, S₂, E₂⟩ := q
  refine ⟨a :: as, σ₂, h₂, ?_, S₂, E₁.trans E₂⟩
  simp only [HRels]
  exact ⟨v, vs, rfl, r₁.le E₂.tup, r₂⟩
theorem ac_call (O : c.Ok g) {f : Str} {np pos : Pos} {e : Expr} {r : List Expr} {P : AV → Store → Prop} (hs : noStar (e :: r) = true) (hk : (compEnvC scope cl C c.env).scope.kind = .function) (hx : (compEnvC scope cl C c.env).kindOf f = some .globalImplicit) (hd : (f == ("__debug__" : Str)) = false) (hf : f ∈ defNames)
    (h : ACs g c (compEnvC scope cl C c.env) Y (e :: r) lo σ fun as σ₁ => CallN g c.dp c.un f as σ₁ P) : AC g c (compEnvC scope cl C c.env) Y (.Call (.Name f np) (e :: r) [] pos) lo σ P := by
  intro X s hX S
  obtain ⟨m, F, hm⟩ := S.fr
  obtain ⟨b1, b2⟩ := O.fns f hf
  have T := topRead_of O.T
  refine Call_ (Name_function_global hk hx (loadGlobal_global (env := compEnvC scope cl C c.env) (T.g.keeps F.keep) (mg_of O.X T.g b1) ?_) hd) rfl
  refine callWith_K (first := []) (O.X) b2 (noE (h pos X s hX S) fun vs s₁ q => ?_) (starEach_cons hs _) (noStar_any _ _ (noStar_tail hs))
  obtain ⟨as, σ₁, h₁, r₁, S₁, E₁⟩ := q
  exact ⟨S₁.kin O, noE (h₁ c O rfl rfl lo X s₁ _ S₁ r₁) fun v s₂ q => q.after E₁⟩
theorem ac_len (O : c.Ok g) {np pos : Pos} {e : Expr} {P : AV → Store → Prop} (hs : noStar [e] = true) (hk : (compEnvC scope cl C c.env).scope.kind = .function) (hx : (compEnvC scope cl C c.env).kindOf "len" = some .globalImplicit)
    (h : ACs g c (compEnvC scope cl C c.env) Y [e] lo σ fun as σ₁ => bltW "len" as σ₁ P) : AC g c (compEnvC scope cl C c.env) Y (.Call (.Name "len" np) [e] [] pos) lo σ P := by
  intro X s hX S
  obtain ⟨m, F, hm⟩ := S.fr
  have T := topRead_of O.T
  refine Call_ (Name_function_global hk hx (loadGlobal_builtin (env := compEnvC scope cl C c.env) (T.g.keeps F.keep) (mg_none_of O.X T.g (O.blt _ (by decide))) (T.b.keeps F.keep) ((T.builtins _ (by decide)).trans PyProof.Rows.Boot.«len») ?_) (by decide)) rfl
  refine PyProof.Rows.callWith_builtin1 (noE (h pos X s hX S) fun vs s₁ q => ?_) (starEach_cons hs _) (noStar_any _ _ (noStar_tail hs))
  obtain ⟨as, σ₁, h₁, r₁, S₁, E₁⟩ := q
  exact noE (bltW_len h₁ X s₁ _ S₁ r₁) fun v s₂ q => q.after E₁
theorem AC.aec {x : Str} {elt : Expr} {i : Nat} {P : AV → Store → Prop} (h : ∀ C oC m, LCg.NsObj oC m → (∃ t, m x = some (.int (i : Nat) t)) → AC g c (compEnvC scope cl C c.env) [(C, oC)] elt lo σ P) : AEC g c scope cl x elt i lo σ P :=
  fun C oC m X s S hX hm hv => h C oC m hm hv X s (fun q hq => by rw [List.mem_singleton.mp hq]; exact hX) S
end
/-! text R1 -/


/-- the class can be made -/
structure MakeOk (g : G) : Prop where
  makes : makesIn g.K (g.fn "Aig") = true
  keep : keepIn g.K (.ref (g.fn "Aig")) = true
  init : ∃ f, findIn g.K (.ref (g.fn "Aig")) "__init__" = some (some (.ref f)) ∧ typeIn g.K (.ref f) = some (.type "function") ∧ FnA g f (methAt 0)
  set : findIn g.K (.ref (g.fn "Aig")) "__setattr__" = some (some (.builtin "object.__setattr__"))
  over : plainOver g.K (g.fn "Aig") = true
  hasd : hasDictIn g.K (g.fn "Aig") = true
  tk : ∀ n ∈ (["nodes", "inputs", "outputs", "table"] : List Str), takerIn g.K (g.fn "Aig") n = some none
section
variable {g : G} {c : Cx} {dp un : Nat} {σ : Store} {P : AV → Store → Prop} {a : Ag} {ns : List Nd} {ins : List Nat} {tb : Tb}
theorem attr_set (M : MakeOk g) {x d : Addr} {n : Str} {v : AV} {l : List (Str × AV)} {P : Store → Prop} (hx : σ x = some (.inst (g.fn "Aig") d)) (hd : σ d = some (.attrs l)) (hn : n ∈ (["nodes", "inputs", "outputs", "table"] : List Str)) (hl : l.length < 900) (h : P (σ.set d (.attrs ((n, v) :: l)))) : setAttrW g (.ref x) n v σ P :=
  ⟨x, g.fn "Aig", d, l, rfl, hx, hd, M.set, M.over, M.tk n hn, M.hasd, hl, h⟩
theorem init_spec (M : MakeOk g) {f : Addr} (hf : FnA g f (methAt 0)) (hd : dp < 990) {x d : Addr} (hx : σ x = some (.inst (g.fn "Aig") d)) (he : σ d = some (.attrs []))
    (h : ∀ n i o t σ', (∀ b, b ≠ d → ∀ m, σ b = some m → σ' b = some m) → σ n = none → σ i = none → σ t = none → AgAt g ⟨x, d, n, i, o, t⟩ σ' [none] [] [] → P .none σ') : CallC g dp un (.ref f) [.ref x] σ P := by
  refine FnA.code hf ["self"] (by decide +kernel) (by walk_at "lim") rfl (by walk_at "bind1") fun c O hdp hun hcs => ?_
  show wpSs g c (_ :: _) _ _ _
  walk_at "vc"
  intro n hn
  have hxd : x ≠ d := ne_mo hx he (by simp)
  have nx : n ≠ x := by rintro rfl; rw [hx] at hn; cases hn
  have nd : n ≠ d := by rintro rfl; rw [he] at hn; cases hn
  refine attr_set M (by rw [Store.set_ne nx.symm]; exact hx) (by rw [Store.set_ne nd.symm]; exact he) (by simp) (by simp) ?_
  walk_at "vc"
  intro i hi
  have nid : i ≠ d := by rintro rfl; rw [Store.set_same] at hi; cases hi
  have nin : i ≠ n := by rintro rfl; rw [Store.set_ne nd, Store.set_same] at hi; cases hi
  have nix : i ≠ x := by rintro rfl; rw [Store.set_ne nid, Store.set_ne nin, hx] at hi; cases hi
  refine attr_set M (by rw [Store.set_ne nix.symm, Store.set_ne hxd, Store.set_ne nx.symm]; exact hx) (by rw [Store.set_ne nid.symm, Store.set_same]) (by simp) (by simp) ?_
  walk_at "vc"
  intro o ho
  have nod : o ≠ d := by rintro rfl; rw [Store.set_same] at ho; cases ho
  have noi : o ≠ i := by rintro rfl; rw [Store.set_ne nid, Store.set_same] at ho; cases ho
  have non : o ≠ n := by rintro rfl; rw [Store.set_ne nd, Store.set_ne noi, Store.set_ne nod, Store.set_same] at ho; cases ho
  have nox : o ≠ x := by rintro rfl; rw [Store.set_ne nod, Store.set_ne noi, Store.set_ne nod, Store.set_ne non, hx] at ho; cases ho
  refine attr_set M (by rw [Store.set_ne nox.symm, Store.set_ne hxd, Store.set_ne nix.symm, Store.set_ne hxd, Store.set_ne nx.symm]; exact hx) (by rw [Store.set_ne nod.symm, Store.set_same]) (by simp) (by simp) ?_
  walk_at "vc"
  intro t ht
  have ntd : t ≠ d := by rintro rfl; rw [Store.set_same] at ht; cases ht
  have nto : t ≠ o := by rintro rfl; rw [Store.set_ne nod, Store.set_same] at ht; cases ht
  have nti : t ≠ i := by rintro rfl; rw [Store.set_ne ntd, Store.set_ne nto, Store.set_ne ntd, Store.set_same] at ht; cases ht
  have ntn : t ≠ n := by rintro rfl; rw [Store.set_ne ntd, Store.set_ne nto, Store.set_ne ntd, Store.set_ne nti, Store.set_ne ntd, Store.set_same] at ht; cases ht
  have ntx : t ≠ x := by rintro rfl; rw [Store.set_ne ntd, Store.set_ne nto, Store.set_ne ntd, Store.set_ne nti, Store.set_ne ntd, Store.set_ne ntn, hx] at ht; cases ht
  refine attr_set M (by rw [Store.set_ne ntx.symm, Store.set_ne hxd, Store.set_ne nox.symm, Store.set_ne hxd, Store.set_ne nix.symm, Store.set_ne hxd, Store.set_ne nx.symm]; exact hx) (by rw [Store.set_ne ntd.symm, Store.set_same]) (by simp) (by simp) ?_
  rw [Store.set_ne nid, Store.set_ne nin] at hi
  rw [Store.set_ne ntd, Store.set_ne nto, Store.set_ne ntd, Store.set_ne nti, Store.set_ne ntd, Store.set_ne ntn] at ht
  rw [Store.set_ne nod, Store.set_ne noi, Store.set_ne nod, Store.set_ne non] at ho
  walk_at "vc"
  refine back_next (h n i o t _ (fun b hb m hm => ?_) hn hi ht ⟨?_, ?_, ?_, ?_, ?_, nin.symm⟩)
  · have b1 : b ≠ n := by rintro rfl; rw [hn] at hm; cases hm
    have b2 : b ≠ i := by rintro rfl; rw [hi] at hm; cases hm
    have b3 : b ≠ o := by rintro rfl; rw [ho] at hm; cases hm
    have b4 : b ≠ t := by rintro rfl; rw [ht] at hm; cases hm
    rw [Store.set_ne hb, Store.set_ne b4, Store.set_ne hb, Store.set_ne b3, Store.set_ne hb, Store.set_ne b2, Store.set_ne hb, Store.set_ne b1]; exact hm
  · dsimp only; rw [Store.set_ne hxd, Store.set_ne ntx.symm, Store.set_ne hxd, Store.set_ne nox.symm, Store.set_ne hxd, Store.set_ne nix.symm, Store.set_ne hxd, Store.set_ne nx.symm]; exact hx
  · dsimp only; rw [Store.set_same]
  · dsimp only; rw [Store.set_ne nd, Store.set_ne ntn.symm, Store.set_ne nd, Store.set_ne non.symm, Store.set_ne nd, Store.set_ne nin.symm, Store.set_ne nd, Store.set_same]; rfl
  · dsimp only; rw [Store.set_ne nid, Store.set_ne nti.symm, Store.set_ne nid, Store.set_ne noi.symm, Store.set_ne nid, Store.set_same]; rfl
  · dsimp only; rw [Store.set_ne ntd, Store.set_same]; rfl
theorem St.add {c : Cx} {lo : Locals} {σ : Store} {X : Led} {s : Shared} {a : Addr} {mo : MO} (S : St g c lo σ X s) (e : MRel g s.heap a mo) (h1 : a ≠ c.L) (h2 : c.h₀.get? a = none) (hX : ∀ q ∈ X, q.1 ≠ a) : St g c lo (σ.set a mo) X s := by
  refine ⟨S.fr, S.loc, fun b mo' q => ?_, fun q hq => ?_⟩
  · unfold Store.set at q
    split at q
    · rename_i e'
      cases q; subst e'
      exact ⟨e, h1, h2⟩
    · exact S.so b mo' q
  · obtain ⟨d1, d2, d3, d4⟩ := S.xs q hq
    exact ⟨d1, d2, d3, by rw [Store.set_ne (hX q hq)]; exact d4⟩
noncomputable def tcCode (g : G) : Code := .builtin "type.__call__" ⟨[.ref (g.fn "Aig")], []⟩
theorem aig_spec (M : MakeOk g) (hd : dp < 980) (h : ∀ a σ', Sub σ σ' → σ a.x = none → σ a.n = none → σ a.i = none → σ a.t = none → AgAt g a σ' [none] [] [] → P (.ref a.x) σ') : CallN g dp un "Aig" [] σ P := by
  intro c O hdp hun lo X s vs S r
  simp only [HRels] at r
  subst r
  obtain ⟨m, F, hm⟩ := S.fr
  obtain ⟨f, hi, hty, hf⟩ := M.init
  refine wpAny_call (make_K F (led_news s.heap) (S.kin O) M.makes hi hty fun x dx h' F' N' l1 l2 => ?_)
  obtain ⟨S', E⟩ := S.byLed (tk := s.toks) F hm F' N' fun _ hq => .tail _ (.tail _ hq)
  have nx := N' _ (.head _)
  have ndx := N' _ (.tail _ (.head _))
  have fdx : s.heap.get? dx = none := by
    cases q : s.heap.get? dx with
    | none => rfl
    | some o => exact absurd (l1 _ (mem_led.mpr ⟨q, ndx.2⟩)) (Nat.lt_irrefl _)
  have fx : s.heap.get? x = none := by
    cases q : s.heap.get? x with
    | none => rfl
    | some o => exact absurd (Nat.lt_trans (l1 _ (mem_led.mpr ⟨q, nx.2⟩)) l2) (Nat.lt_irrefl _)
  have sx := (S.free fx).1
  have sdx := (S.free fdx).1
  have xX : ∀ q ∈ X, q.1 ≠ x := fun q hq e => by have := (S.xs q hq).1; rw [e, fx] at this; cases this
  have dX : ∀ q ∈ X, q.1 ≠ dx := fun q hq e => by have := (S.xs q hq).1; rw [e, fdx] at this; cases this
  have S1 := S'.add (a := dx) (mo := .attrs []) ⟨[], 0, ndx.1, fun y => by simp [getL], by simp⟩ ndx.2.1 ndx.2.2 dX
  have S2 := S1.add (a := x) (mo := .inst (g.fn "Aig") dx) nx.1 nx.2.1 nx.2.2 xX
  have hne : dx ≠ x := Nat.ne_of_lt l2
  let c' : Cx := { c with dp := c.dp + (tcCode g).weight, un := c.un + (tcCode g).cUnits, gd := pushGuards (tcCode g).guards c.gd }
  have hw : (tcCode g).weight ≤ 2 := Nat.le_of_ble_eq_true rfl
  have O' : c'.Ok g := ⟨O.B, O.X, O.T, O.hk, O.fz, O.gen, O.co, O.tree, O.imp, O.blt, O.fns⟩
  have S3 : St g c' lo ((σ.set dx (.attrs [])).set x (.inst (g.fn "Aig") dx)) X { s with heap := h' } := ⟨S2.fr, S2.loc, S2.so, S2.xs⟩
  have I := init_spec (σ := (σ.set dx (.attrs [])).set x (.inst (g.fn "Aig") dx)) (dp := c'.dp) (un := c'.un) (P := fun v σ' => v = .none ∧ P (.ref x) σ') M hf (by show c.dp + _ < 990; (first | lia | omega)) (x := x) (d := dx) Store.set_same (by rw [Store.set_ne hne, Store.set_same])
    fun n i o t σ' k hn hi ht A => ⟨rfl, by
      have kn : ∀ {b}, ((σ.set dx (.attrs [])).set x (.inst (g.fn "Aig") dx)) b = none → σ b = none := fun {b} e => by
        have b1 : b ≠ x := by rintro rfl; rw [Store.set_same] at e; cases e
        have b2 : b ≠ dx := by rintro rfl; rw [Store.set_ne b1, Store.set_same] at e; cases e
        rw [Store.set_ne b1, Store.set_ne b2] at e; exact e
      refine h ⟨x, dx, n, i, o, t⟩ σ' (fun b m hb => ?_) sx (kn hn) (kn hi) (kn ht) A
      have b1 : b ≠ x := by rintro rfl; rw [sx] at hb; cases hb
      have b2 : b ≠ dx := by rintro rfl; rw [sdx] at hb; cases hb
      exact k b b2 m (by rw [Store.set_ne b1, Store.set_ne b2]; exact hb)⟩
  have I' := I c' O' rfl rfl lo X _ [.ref x] S3 (by simp only [HRels]; exact ⟨_, [], rfl, href, rfl⟩)
  have hA : c'.A = c.A.under (tcCode g) := rfl
  rw [hA] at I'
  refine codeAny_mono I' fun r s'' q => ?_
  cases r with
  | error e => exact q.elim
  | ok fl =>
    cases fl with
    | ret v =>
      obtain ⟨av, σ', ⟨rfl, p⟩, hv, S4, E4⟩ := q
      simp only [HRel] at hv
      refine ⟨hv, .ref x, σ', p, href, ⟨S4.fr, S4.loc, S4.so, S4.xs⟩, E.trans E4⟩
    | next => exact q.elim
    | brk => exact q.elim
    | cont => exact q.elim
end
/-! text R2 -/

/-- the names in cells -/
noncomputable def zC : Str → Bool := fun x => x == "pool" || x == "state"
section
variable {g : G} {c : Cx} {lo : Locals} {σ : Store} {P : AV → Store → Prop} {R : AF → Locals → Store → Prop} {B : Bool → Store → Prop}
theorem z_loc {x : Str} {p q : Pos} {v : Expr} (h : notComp v = true) (hz : zC x = false) : wpZ zC g c (.Assign [.Name x p] v q) lo σ R = wpE g c v lo σ (xAsg x lo R) := by
  show (if notComp v = true then wpE g c v lo σ fun a σ₁ => if zC x = true then cellW c x a lo σ₁ (R .next) else R .next (lo.set x a) σ₁ else _) = _
  rw [if_pos h, hz]; rfl
theorem z_cell {x : Str} {p q : Pos} {v : Expr} (h : notComp v = true) (hz : zC x = true) : wpZ zC g c (.Assign [.Name x p] v q) lo σ R = wpE g c v lo σ (xAsC c x lo R) := by
  show (if notComp v = true then wpE g c v lo σ fun a σ₁ => if zC x = true then cellW c x a lo σ₁ (R .next) else R .next (lo.set x a) σ₁ else _) = _
  rw [if_pos h, hz]; rfl
theorem z_comp {x : Str} {p q : Pos} {v : Expr} (h : notComp v = false) : wpZ zC g c (.Assign [.Name x p] v q) lo σ R = AX g c (.Assign [.Name x p] v q) lo σ R := by
  show (if notComp v = true then _ else AX g c (.Assign [.Name x p] v q) lo σ R) = _
  rw [h]; rfl
theorem name_cell {x : Str} {a : Addr} {av : AV} (h0 : lo x = none) (h1 : c.cl.lookup x = some a) (h2 : c.cs.names.lookup x = some .cell) (h3 : (x == ("__debug__" : Str)) = false) (h4 : σ a = some (.cell (some av))) (h : P av σ) : nameW c x lo σ P := by
  unfold nameW
  rw [h0]
  exact ⟨a, av, h1, .inl h2, h3, h4, h⟩

end
section
variable {g : G} {c : Cx} {lo : Locals} {σ : Store} {X : Led} {s s' : Shared}
theorem built_enter (hf : FnK g "_law_built" (stmtAt 31)) {dp un : Nat} (hd : dp < recursionLimit) {u v w : AV} {P : AV → Store → Prop}
    (k : ∀ c' : Cx, c'.Ok g → c'.dp = dp + 1 → c'.un = un + 3 → c'.cs = fnScope (stmtAt 31) → ∀ ap as_, ap ≠ as_ → σ ap = none → σ as_ = none → c'.cl = ([("pool", ap), ("state", as_)] : List (Str × Addr)) →
      wpZs zC g c' (fnBody (stmtAt 31)) (argsL ["tree", "k"] [v, w]) ((σ.set ap (.cell none)).set as_ (.cell (some u))) (Back P)) : CallN g dp un "_law_built" [u, v, w] σ P := by
  intro c O hdp hun lo X s vs S r
  obtain ⟨name, qual, doc, pm, an, cdv, ct, oc, od, osl, ho, hcd⟩ := hf
  simp only [HRels] at r
  obtain ⟨v1, _, rfl, r1, v2, _, rfl, r2, v3, _, rfl, r3, rfl⟩ := r
  obtain ⟨m, F, hm⟩ := S.fr
  refine wpAny_call (code_defC (A := c.A) (env := c.env) (binds := ([("state", v1), ("tree", v2), ("k", v3)] : List (Str × Value))) O.B F O.X (led_news s.heap) O.T rfl rfl O.hk ho hcd (by show c.dp < _; (first | lia | omega)) (BindsTo.of_eq rfl) rfl (by decide +kernel) (fun g' L' h₁ tk cells FG F' N' Y B' X' T' l2 => ?_) rfl rfl rfl)
  have Y2 : CellsAre (bindC (envOfC qual (fnScope (stmtAt 31)) L' (g.fn "_law_built") cdv).kindOf ([("state", v1), ("tree", v2), ("k", v3)] : List (Str × Value)) fun _ => none) ([("pool", L' + 2), ("state", L' + 1)] : List (Str × Addr)) cells := Y
  obtain ⟨o, o', rfl, d1, d2⟩ := Y2.two
  have d1' : o.data = .cell none := d1.trans (congrArg Data.cell rfl)
  have d2' : o'.data = .cell (some v1) := d2.trans (congrArg Data.cell rfl)
  let c' : Cx := { A₀ := c.A, base := c.base, h₀ := g', outer := c.env :: c.outer, L := L', cn := qual, cs := fnScope (stmtAt 31), a := g.fn "_law_built", ccd := cdv, cl := ([("pool", L' + 2), ("state", L' + 1)] : List (Str × Addr)), dp := c.dp + 1, un := c.un + 3, gd := c.gd }
  have O' : c'.Ok g := ⟨B', X', T', rfl, fun a l e => by
    obtain ⟨vs, hl, hi⟩ := O.fz a l e
    exact ⟨vs, hl.at fun o q => FG.keep _ _ q, hi⟩, rfl, rfl, O.tree, O.imp, O.blt, O.fns⟩
  have NL : News g' L' h₁ (led c s.heap) := fun p hp => N' p (List.mem_append_right _ hp)
  have kt := enter_tup F FG F' NL
  have low : ∀ {a : Addr} {o : Obj}, s.heap.get? a = some o → a ≠ c.L → c.h₀.get? a = none → a < L' := fun h h1 h2 => l2 _ (mem_led.mpr ⟨h, h1, h2⟩)
  have slow : ∀ {a : Addr} {mo : MO}, σ a = some mo → a < L' := fun e => by
    obtain ⟨e1, e2, e3⟩ := S.so _ _ e
    obtain ⟨o, ha, _⟩ := e1.alive
    exact low ha e2 e3
  have n2 : σ (L' + 2) = none := by
    cases q : σ (L' + 2) with
    | none => rfl
    | some mo => exact absurd (slow q) (Nat.not_lt.mpr (Nat.le_add_right L' 2))
  have n1 : σ (L' + 1) = none := by
    cases q : σ (L' + 1) with
    | none => rfl
    | some mo => exact absurd (slow q) (Nat.not_lt.mpr (Nat.le_add_right L' 1))
  have hne : L' + 2 ≠ L' + 1 := fun z => absurd (Nat.add_left_cancel z) (by decide)
  have c2 := N' (L' + 2, o) (.head _)
  have c1 := N' (L' + 1, o') (.tail _ (.head _))
  have S₁ : St g c' (argsL ["tree", "k"] [v, w]) ((σ.set (L' + 2) (.cell none)).set (L' + 1) (.cell (some u))) X { s with heap := h₁, toks := tk } := by
    refine ⟨⟨_, F', fun x av e => ?_⟩, fun x av e => ?_, fun a mo e => ?_, fun q hq => ?_⟩
    · rw [argsL_cons] at e
      split at e
      · rename_i z; cases e; subst z
        exact ⟨v2, rfl, r2.le kt⟩
      · rw [argsL_cons] at e
        split at e
        · rename_i z; cases e; subst z
          exact ⟨v3, rfl, r3.le kt⟩
        · cases e
    · rw [argsL_cons] at e
      split at e
      · rename_i z; subst z; show (fnScope (stmtAt 31)).names.lookup ("tree" : Str) = some NameKind.local ∧ (("tree" : Str) == ("__debug__" : Str)) = false; decide +kernel
      · rw [argsL_cons] at e
        split at e
        · rename_i z; subst z; show (fnScope (stmtAt 31)).names.lookup ("k" : Str) = some NameKind.local ∧ (("k" : Str) == ("__debug__" : Str)) = false; decide +kernel
        · cases e
    · unfold Store.set at e
      split at e
      · rename_i z
        cases e; subst z
        exact ⟨⟨o', _, c1.1, d2', v1, rfl, r1.le kt⟩, c1.2⟩
      · split at e
        · rename_i z
          cases e; subst z
          exact ⟨⟨o, _, c2.1, d1', trivial⟩, c2.2⟩
        · obtain ⟨e1, e2, e3⟩ := S.so a mo e
          obtain ⟨o, ha, _⟩ := e1.alive
          obtain ⟨b1, b2, b3⟩ := enter_at NL ha e2 e3
          exact ⟨e1.keep kt fun o' q => by rw [ha] at q; cases q; exact b1, b2, b3⟩
    · obtain ⟨e1, e2, e3, e4⟩ := S.xs q hq
      obtain ⟨b1, b2, b3⟩ := enter_at NL e1 e2 e3
      have := low e1 e2 e3
      have q1 : q.1 ≠ L' + 1 := by intro z; rw [z] at this; exact absurd this (Nat.not_lt.mpr (Nat.le_add_right L' 1))
      have q2 : q.1 ≠ L' + 2 := by intro z; rw [z] at this; exact absurd this (Nat.not_lt.mpr (Nat.le_add_right L' 2))
      exact ⟨b1, b2, b3, by rw [Store.set_ne q1, Store.set_ne q2]; exact e4⟩
  refine noE (wpZs_ok O' (z := zC) (by show chkZs zC (fnScope (stmtAt 31)).names (fnBody (stmtAt 31)) = true; decide +kernel) (k c' O' (by show c.dp + 1 = _; (first | lia | omega)) (by show c.un + 3 = _; (first | lia | omega)) rfl _ _ hne n2 n1 rfl) X _ S₁) fun fl s' q => ?_
  obtain ⟨af, lo', σ', ⟨av, σ'', e1, e2, p⟩, rf, S', E'⟩ := q
  obtain ⟨m', Fm, _⟩ := S'.fr
  have kt' : TupLe s.heap s'.heap := kt.trans E'.tup
  refine ⟨L', m', led c' s'.heap, Fm, led_news (c := c') s'.heap, fun FF NN => ?_⟩
  refine ⟨av, σ'', p, rv_of rf e1, ⟨⟨m, FF, fun x av e => let ⟨v, e1, e2⟩ := hm x av e; ⟨v, e1, e2.le kt'⟩⟩, S.loc, fun a mo e => ?_, fun q hq => ?_⟩, ⟨E'.gens, E'.drawn, E'.os, kt'⟩⟩
  · obtain ⟨b1, b2, b3⟩ := S'.so a mo (e2 a mo e)
    obtain ⟨o, ha, _⟩ := b1.alive
    obtain ⟨_, d2, d3⟩ := NN _ (mem_led.mpr ⟨ha, b2, b3⟩)
    exact ⟨b1, d2, d3⟩
  · obtain ⟨b1, b2, b3, b4⟩ := S'.xs q hq
    obtain ⟨_, d2, d3⟩ := NN _ (mem_led (c := c') (a := q.1) (o := q.2) |>.mpr ⟨b1, b2, b3⟩)
    refine ⟨b1, d2, d3, ?_⟩
    cases z : σ'' q.1 with
    | none => rfl
    | some mo => rw [e2 _ _ z] at b4; cases b4
end
set_option hygiene false in
local macro_rules | `(tactic| walk_at "vz") => `(tactic| repeat (first | simp (decide := true) only [↓z_loc, ↓z_cell, ↓z_comp] | walk_at "vcA" | simp only [isn_tree]))
/-! text R3 -/


section
variable {g : G} {c : Cx} {dp un : Nat} {σ : Store} {P : AV → Store → Prop} {a : Ag} {ns : List Nd} {ins : List Nat} {tb : Tb}
theorem AgAt.input (A : AgAt g a σ ns ins tb) : AgAt g a ((σ.set a.n (.list ((ns ++ [none]).map ndV))).set a.i (.list ((ins ++ [ns.length]).map fun j => AV.int (j : Nat)))) (ns ++ [none]) (ins ++ [ns.length]) tb := by
  have e1 := ne_mo A.n A.x (by simp)
  have e2 := ne_mo A.n A.d (by simp)
  have e3 := ne_mo A.n A.t (by simp)
  have e4 := ne_mo A.i A.x (by simp)
  have e5 := ne_mo A.i A.d (by simp)
  have e6 := ne_mo A.i A.t (by simp)
  refine ⟨?_, ?_, ?_, ?_, ?_, A.ni⟩
  · rw [Store.set_ne e4.symm, Store.set_ne e1.symm]; exact A.x
  · rw [Store.set_ne e5.symm, Store.set_ne e2.symm]; exact A.d
  · rw [Store.set_ne A.ni, Store.set_same]
  · rw [Store.set_same]
  · rw [Store.set_ne e6.symm, Store.set_ne e3.symm]; exact A.t
theorem add_input_spec (K : ClsOk g) {f : Addr} (hf : FnA g f (methAt 1)) (hd : dp < 980) (A : AgAt g a σ ns ins tb) (hlen : ns.length ≤ 1000) (hins : ins.length ≤ 1000)
    (h : P (.int (2 * ns.length : Nat)) ((σ.set a.n (.list ((ns ++ [none]).map ndV))).set a.i (.list ((ins ++ [ns.length]).map fun j => AV.int (j : Nat))))) : CallP g dp un (.ref f) [.ref a.x] σ P := by
  refine FnA.call hf ["self"] (by decide +kernel) (by walk_at "lim") rfl (by walk_at "bind1") fun c O hdp hun hcs => ?_
  show wpSs g c (_ :: _) _ _ _
  walk_at "vc"
  simp only [at_nodes K A]
  walk_at "vc"
  walk_at "vc"
  refine ⟨_, A.n, by rw [List.length_map]; (first | lia | omega), ?_⟩
  rw [List.length_map]
  try simp only [at_nodes K A]
  walk_at "vc"
  rw [mk_app A.n]
  walk_at "vc"
  refine ⟨_, A.n, by rw [List.length_map, sizeLine_eq]; (first | lia | omega), ?_⟩
  rw [show List.map ndV ns ++ [AV.none] = (ns ++ [none]).map ndV by rw [List.map_append]; rfl]
  have e1 := ne_mo A.n A.x (by simp)
  have e2 := ne_mo A.n A.d (by simp)
  have e3 := ne_mo A.n A.t (by simp)
  have A' : AgAt g a (σ.set a.n (.list ((ns ++ [none]).map ndV))) (ns ++ [none]) ins tb :=
    ⟨by rw [Store.set_ne e1.symm]; exact A.x, by rw [Store.set_ne e2.symm]; exact A.d, Store.set_same, by rw [Store.set_ne A.ni.symm]; exact A.i, by rw [Store.set_ne e3.symm]; exact A.t, A.ni⟩
  simp only [at_inputs K A']
  walk_at "vc"
  rw [mk_app A'.i]
  walk_at "vc"
  refine ⟨_, A'.i, by rw [List.length_map, sizeLine_eq]; (first | lia | omega), mulok_nat (by (first | lia | omega)), back_ret ?_⟩
  rw [show (ins.map fun j => AV.int (j : Nat)) ++ [AV.int (ns.length : Nat)] = (ins ++ [ns.length]).map fun j => AV.int (j : Nat) by rw [List.map_append]; rfl]
  exact h

/-- what holds while `_law_built` runs -/
structure Bst (g : G) (σ0 σ' : Store) (st fd ap as_ : Addr) (a : Ag) (ns : List Nd) (ins : List Nat) (tb : Tb) (pl : Addr) (pool : List Nat) : Prop where
  st0 : ∃ m, σ0 st = some m
  fd0 : ∃ m, σ0 fd = some m
  fap : σ0 ap = none
  fas : σ0 as_ = none
  fn : σ0 a.n = none
  fi : σ0 a.i = none
  ft : σ0 a.t = none
  fpl : σ0 pl = none
  keep : ∀ b, b ≠ st → ∀ m, σ0 b = some m → σ' b = some m
  src : ∃ i : Nat, σ' st = some (.list [.ref fd, .int (i : Nat)])
  cs : σ' as_ = some (.cell (some (.ref st)))
  cp : σ' ap = some (.cell (some (.ref pl)))
  hpl : σ' pl = some (.list (pool.map fun j => AV.int (j : Nat)))
  ag : AgAt g a σ' ns ins tb
  wf : Wf ns tb
  lits : ∀ l ∈ pool, l < 2 * ns.length
  pn : pl ≠ a.n
  pi : pl ≠ a.i
section
variable {σ0 σ' : Store} {st fd ap as_ pl : Addr} {pool : List Nat}
theorem Bst.source (B : Bst g σ0 σ' st fd ap as_ a ns ins tb pl pool) {feed : List Nat} (hs : Src σ0 st fd feed) : Src σ' st fd feed := by
  obtain ⟨⟨i, h1⟩, h2, h3⟩ := hs
  have hne : fd ≠ st := by
    rintro rfl
    rw [h1] at h2
    have := Option.some.inj h2
    simp only [MO.list.injEq] at this
    cases feed with
    | nil => cases this
    | cons x r => simp at this
  exact ⟨B.src, B.keep fd hne _ h2, h3⟩
theorem Bst.pick (B : Bst g σ0 σ' st fd ap as_ a ns ins tb pl pool) (i : Nat) : Bst g σ0 (picked σ' st fd i) st fd ap as_ a ns ins tb pl pool := by
  obtain ⟨m, hm⟩ := B.st0
  have ne : ∀ {b}, σ0 b = none → b ≠ st := fun e z => by rw [z, hm] at e; cases e
  obtain ⟨j, hj⟩ := B.src
  have nx : a.x ≠ st := ne_mo B.ag.x hj (by simp)
  have nd : a.d ≠ st := ne_mo B.ag.d hj (by simp)
  unfold picked
  exact ⟨B.st0, B.fd0, B.fap, B.fas, B.fn, B.fi, B.ft, B.fpl, fun b hb m h => by rw [Store.set_ne hb]; exact B.keep b hb m h, ⟨i, Store.set_same⟩, by rw [Store.set_ne (ne B.fas)]; exact B.cs, by rw [Store.set_ne (ne B.fap)]; exact B.cp, by rw [Store.set_ne (ne B.fpl)]; exact B.hpl,
    ⟨by rw [Store.set_ne nx]; exact B.ag.x, by rw [Store.set_ne nd]; exact B.ag.d, by rw [Store.set_ne (ne B.fn)]; exact B.ag.n, by rw [Store.set_ne (ne B.fi)]; exact B.ag.i, by rw [Store.set_ne (ne B.ft)]; exact B.ag.t, B.ag.ni⟩, B.wf, B.lits, B.pn, B.pi⟩
theorem Bst.fresh (B : Bst g σ0 σ' st fd ap as_ a ns ins tb pl pool) {b : Addr} (h : σ' b = none) : σ0 b = none := by
  cases q : σ0 b with
  | none => rfl
  | some m =>
    have hb : b ≠ st := by rintro rfl; obtain ⟨i, e⟩ := B.src; rw [h] at e; cases e
    rw [B.keep b hb m q] at h; cases h
theorem Bst.sub {σ'' : Store} (B : Bst g σ0 σ' st fd ap as_ a ns ins tb pl pool) (S : Sub σ' σ'') : Bst g σ0 σ'' st fd ap as_ a ns ins tb pl pool :=
  ⟨B.st0, B.fd0, B.fap, B.fas, B.fn, B.fi, B.ft, B.fpl, fun b hb m h => S _ _ (B.keep b hb m h), let ⟨i, e⟩ := B.src; ⟨i, S _ _ e⟩, S _ _ B.cs, S _ _ B.cp, S _ _ B.hpl, ⟨S _ _ B.ag.x, S _ _ B.ag.d, S _ _ B.ag.n, S _ _ B.ag.i, S _ _ B.ag.t, B.ag.ni⟩, B.wf, B.lits, B.pn, B.pi⟩
/-- the pool's name is bound anew -/
theorem Bst.repool (B : Bst g σ0 σ' st fd ap as_ a ns ins tb pl pool) {pl' : Addr} {pool' : List Nat} (h0 : σ0 pl' = none) (h1 : σ' pl' = some (.list (pool'.map fun j => AV.int (j : Nat)))) (hl : ∀ l ∈ pool', l < 2 * ns.length) (hn : pl' ≠ a.n) (hi : pl' ≠ a.i) :
    Bst g σ0 (σ'.set ap (.cell (some (.ref pl')))) st fd ap as_ a ns ins tb pl' pool' := by
  obtain ⟨m, hm⟩ := B.st0
  have nst : st ≠ ap := fun z => by have := B.fap; rw [← z, hm] at this; cases this
  have nas : as_ ≠ ap := fun z => by
    have e1 := B.cs; rw [z, B.cp] at e1
    have := Option.some.inj e1
    simp only [MO.cell.injEq, Option.some.injEq, AV.ref.injEq] at this
    have e2 := B.fpl
    rw [this, hm] at e2; cases e2
  exact ⟨B.st0, B.fd0, B.fap, B.fas, B.fn, B.fi, B.ft, h0, fun b hb m h => by
      have : b ≠ ap := fun z => by rw [z, B.fap] at h; cases h
      rw [Store.set_ne this]; exact B.keep b hb m h, let ⟨i, e⟩ := B.src; ⟨i, by rw [Store.set_ne nst]; exact e⟩, by rw [Store.set_ne nas]; exact B.cs, Store.set_same, by rw [Store.set_ne (ne_mo h1 B.cp (by simp))]; exact h1,
    ⟨by rw [Store.set_ne (ne_mo B.ag.x B.cp (by simp))]; exact B.ag.x, by rw [Store.set_ne (ne_mo B.ag.d B.cp (by simp))]; exact B.ag.d, by rw [Store.set_ne (ne_mo B.ag.n B.cp (by simp))]; exact B.ag.n, by rw [Store.set_ne (ne_mo B.ag.i B.cp (by simp))]; exact B.ag.i, by rw [Store.set_ne (ne_mo B.ag.t B.cp (by simp))]; exact B.ag.t, B.ag.ni⟩, B.wf, hl, hn, hi⟩
theorem Bst.input (B : Bst g σ0 σ' st fd ap as_ a ns ins [] pl pool) : Bst g σ0 ((σ'.set a.n (.list ((ns ++ [none]).map ndV))).set a.i (.list ((ins ++ [ns.length]).map fun j => AV.int (j : Nat)))) st fd ap as_ a (ns ++ [none]) (ins ++ [ns.length]) [] pl pool := by
  obtain ⟨m, hm⟩ := B.st0
  have ne : ∀ {b}, σ0 b = none → st ≠ b := fun e z => by rw [← z, hm] at e; cases e
  refine ⟨B.st0, B.fd0, B.fap, B.fas, B.fn, B.fi, B.ft, B.fpl, fun b hb m h => ?_, ?_, ?_, ?_, ?_, B.ag.input, ⟨?_, ?_, ?_, ?_⟩, fun l hl => ?_, B.pn, B.pi⟩
  · have b1 : b ≠ a.n := fun z => by rw [z, B.fn] at h; cases h
    have b2 : b ≠ a.i := fun z => by rw [z, B.fi] at h; cases h
    rw [Store.set_ne b2, Store.set_ne b1]; exact B.keep b hb m h
  · obtain ⟨i, e⟩ := B.src
    exact ⟨i, by rw [Store.set_ne (ne B.fi), Store.set_ne (ne B.fn)]; exact e⟩
  · rw [Store.set_ne (ne_mo B.cs B.ag.i (by simp)), Store.set_ne (ne_mo B.cs B.ag.n (by simp))]; exact B.cs
  · rw [Store.set_ne (ne_mo B.cp B.ag.i (by simp)), Store.set_ne (ne_mo B.cp B.ag.n (by simp))]; exact B.cp
  · rw [Store.set_ne B.pi, Store.set_ne B.pn]; exact B.hpl
  · rw [List.getElem?_append_left (List.getElem?_eq_some_iff.mp B.wf.zero).1]; exact B.wf.zero
  · intro i p hp
    rw [List.getElem?_append] at hp
    split at hp
    · exact B.wf.lits i p hp
    · have h1 := (List.getElem?_eq_some_iff.mp hp).1
      have : i - ns.length = 0 := by simp at h1; (first | lia | omega)
      rw [this] at hp
      simp at hp
  · intro p n hp; cases hp
  · exact Nat.zero_le _
  · have := B.lits l hl
    simp only [List.length_append, List.length_singleton]; (first | lia | omega)
theorem Bst.grow {k : Nat} {ns' : List Nd} {tb' : Tb} {σ'' : Store} (B : Bst g σ0 σ' st fd ap as_ a ns ins tb pl pool) (G : Grown g a ins ns σ' k ns' tb' σ'') : Bst g σ0 σ'' st fd ap as_ a ns' ins tb' pl pool := by
  obtain ⟨m, hm⟩ := B.st0
  have ne : ∀ {b}, σ0 b = none → st ≠ b := fun e z => by rw [← z, hm] at e; cases e
  refine ⟨B.st0, B.fd0, B.fap, B.fas, B.fn, B.fi, B.ft, B.fpl, fun b hb m h => ?_, ?_, ?_, ?_, ?_, G.at_, G.wf, fun l hl => ?_, B.pn, B.pi⟩
  · have b1 : b ≠ a.n := fun z => by rw [z, B.fn] at h; cases h
    have b2 : b ≠ a.t := fun z => by rw [z, B.ft] at h; cases h
    rw [G.frame b b1 b2]; exact B.keep b hb m h
  · obtain ⟨i, e⟩ := B.src
    exact ⟨i, by rw [G.frame _ (ne B.fn) (ne B.ft)]; exact e⟩
  · rw [G.frame _ (ne_mo B.cs B.ag.n (by simp)) (ne_mo B.cs B.ag.t (by simp))]; exact B.cs
  · rw [G.frame _ (ne_mo B.cp B.ag.n (by simp)) (ne_mo B.cp B.ag.t (by simp))]; exact B.cp
  · rw [G.frame _ B.pn (ne_mo B.hpl B.ag.t (by simp))]; exact B.hpl
  · have := B.lits l hl
    have := G.len
    (first | lia | omega)
/-- a list of the run's own is changed -/
theorem Bst.append (B : Bst g σ0 σ' st fd ap as_ a ns ins tb pl pool) {pool' : List Nat} (hl : ∀ l ∈ pool', l < 2 * ns.length) : Bst g σ0 (σ'.set pl (.list (pool'.map fun j => AV.int (j : Nat)))) st fd ap as_ a ns ins tb pl pool' := by
  obtain ⟨m, hm⟩ := B.st0
  have nst : st ≠ pl := fun z => by have := B.fpl; rw [← z, hm] at this; cases this
  exact ⟨B.st0, B.fd0, B.fap, B.fas, B.fn, B.fi, B.ft, B.fpl, fun b hb m h => by
      have : b ≠ pl := fun z => by rw [z, B.fpl] at h; cases h
      rw [Store.set_ne this]; exact B.keep b hb m h, let ⟨i, e⟩ := B.src; ⟨i, by rw [Store.set_ne nst]; exact e⟩, by rw [Store.set_ne (ne_mo B.cs B.hpl (by simp))]; exact B.cs, by rw [Store.set_ne (ne_mo B.cp B.hpl (by simp))]; exact B.cp, Store.set_same,
    ⟨by rw [Store.set_ne (ne_mo B.ag.x B.hpl (by simp))]; exact B.ag.x, by rw [Store.set_ne (ne_mo B.ag.d B.hpl (by simp))]; exact B.ag.d, by rw [Store.set_ne B.pn.symm]; exact B.ag.n, by rw [Store.set_ne B.pi.symm]; exact B.ag.i, by rw [Store.set_ne (ne_mo B.ag.t B.hpl (by simp))]; exact B.ag.t, B.ag.ni⟩, B.wf, hl, B.pn, B.pi⟩
end

theorem Tree.ok_mono {k k' : Nat} (h : k ≤ k') : ∀ t : Tree, t.ok k → t.ok k'
  | .zero, _ => trivial
  | .one, _ => trivial
  | .lit _ _, q => ⟨Nat.lt_of_lt_of_le q.1 h, q.2⟩
  | .and l r, q => ⟨ok_mono h l q.1, ok_mono h r q.2⟩
  | .or l r, q => ⟨ok_mono h l q.1, ok_mono h r q.2⟩
noncomputable def ndP : Nd → PyData
  | none => .none
  | some p => .tuple [.int (p.1 : Nat), .int (p.2 : Nat)]
theorem pds_nd : ∀ ns : List Nd, AV.pds (ns.map ndV) = some (ns.map ndP)
  | [] => rfl
  | none :: r => by simp only [List.map_cons, AV.pds, ndV, AV.pd, pds_nd r, ndP]
  | some p :: r => by simp only [List.map_cons, AV.pds, ndV, pairV, AV.pd, pds_nd r, ndP, Option.map_some]
theorem lay_nd : ∀ ns : List Nd, PyData.canLayAll0 (ns.map ndP) = true
  | [] => rfl
  | none :: r => by simp [PyData.canLayAll0, PyData.canLay0, ndP, lay_nd r]
  | some p :: r => by simp [PyData.canLayAll0, PyData.canLay0, ndP, lay_nd r]
theorem dep_nd : ∀ ns : List Nd, PyData.depthAll (ns.map ndP) ≤ 1
  | [] => by simp [PyData.depthAll]
  | none :: r => by have := dep_nd r; simp [PyData.depthAll, PyData.depth, ndP]; exact this
  | some p :: r => by have := dep_nd r; simp [PyData.depthAll, PyData.depth, ndP]; (first | lia | omega)
theorem eqv_nd : ∀ ns : List Nd, PyData.eqvAll (ns.map ndP) (ns.map ndP) = true
  | [] => rfl
  | none :: r => by simp [PyData.eqvAll, PyData.eqv, ndP, eqv_nd r]
  | some p :: r => by simp [PyData.eqvAll, PyData.eqv, ndP, eqv_nd r]
theorem ne_same {un : Nat} {x y : Addr} {Q : Bool → Prop} (hx : σ x = some (.list (ns.map ndV))) (hy : σ y = some (.list (ns.map ndV))) (hu : un + 2 < cLine) (h : Q false) : cmpW un .NotEq (.ref x) (.ref y) σ Q := by
  show eqW un (.ref x) (.ref y) σ fun q => Q (!q)
  refine ⟨.list (ns.map ndP), .list (ns.map ndP), by simp only [AV.sd, hx, pds_nd]; rfl, by simp only [AV.sd, hy, pds_nd]; rfl, by simp only [PyData.canLay0, lay_nd], by simp only [PyData.canLay0, lay_nd], ?_, ?_⟩
  · have := dep_nd ns
    simp only [PyData.depth]
    (first | lia | omega)
  · simp only [PyData.eqv, eqv_nd]
    exact h
noncomputable def innerTo (v : Nat → Bool) (ls : List Nat) : Nat → Nat
  | 0 => 0
  | j + 1 => innerTo v ls j + (lv v (litAt ls j)).toNat * 2 ^ j
theorem inner_lt (v : Nat → Bool) (ls : List Nat) : ∀ j, innerTo v ls j < 2 ^ j
  | 0 => by simp [innerTo]
  | j + 1 => by
    have ih := inner_lt v ls j
    have hb := toNat_le (lv v (litAt ls j))
    unfold innerTo
    rw [Nat.pow_succ]
    rcases (show (lv v (litAt ls j)).toNat = 0 ∨ (lv v (litAt ls j)).toNat = 1 by (first | lia | omega)) with h | h <;> rw [h] <;> (first | lia | omega)
theorem inner_bit (v : Nat → Bool) (ls : List Nat) {p : Nat} : ∀ {j : Nat}, p < j → (innerTo v ls j).testBit p = lv v (litAt ls p)
  | 0, h => absurd h (Nat.not_lt_zero _)
  | j + 1, h => by
    have hl := inner_lt v ls j
    have e : innerTo v ls (j + 1) = 2 ^ j * (lv v (litAt ls j)).toNat + innerTo v ls j := by rw [innerTo, Nat.mul_comm, Nat.add_comm]
    rw [e, Nat.testBit_two_pow_mul_add _ hl]
    by_cases hp : p < j
    · rw [if_pos hp]; exact inner_bit v ls hp
    · rw [if_neg hp]
      have : p = j := by (first | lia | omega)
      subst this
      rw [Nat.sub_self]
      cases lv v (litAt ls p) <;> rfl
noncomputable def NoC (lo : Locals) : Prop := lo "pool" = none ∧ lo "state" = none
theorem law_built_spec (D : Defs g) (K : ClsOk g) (M : MakeOk g) (hsm : SmartOk g) (hlb : FnK g "_law_built" (stmtAt 31)) (hd : dp < 400) (hu : un + 3000 < 9900) {st fd : Addr} {feed : List Nat} (hs : Src σ st fd feed) {t : Tree} {k : Nat} (h1 : 1 ≤ k) (h4 : k ≤ 4) (ht : t.ok k) (htd : t.dep ≤ 410) (htc : t.cost ≤ 410)
    (h : ∀ i, P (.bool true) (picked σ st fd i)) : CallN g dp un "_law_built" [.ref st, t.av, .int k] σ P := by
  refine built_enter hlb (by walk_at "lim") fun c O hdp hun hcs ap as_ hne nap nas hcl => ?_
  show wpZs zC g c (_ :: _) _ _ _
  walk_at "vz"
  have hst0 : ∃ m, σ st = some m := let ⟨i, e⟩ := hs.1; ⟨_, e⟩
  have hfd0 : ∃ m, σ fd = some m := ⟨_, hs.2.1⟩
  have ksc : c.cs.names.lookup ("state" : Str) = some .cell := by rw [hcs]; decide +kernel
  have kpc : c.cs.names.lookup ("pool" : Str) = some .cell := by rw [hcs]; decide +kernel
  have ek : ∀ x, c.env.kindOf x = (fnScope (stmtAt 31)).names.lookup x := fun x => by rw [← hcs]; rfl
  have eb : c.env.blockKind = .function := by unfold Env.blockKind; rw [show c.env.scope = fnScope (stmtAt 31) from hcs]; rfl
  have csc : c.cl.lookup ("state" : Str) = some as_ := by rw [hcl]; rfl
  have cpc : c.cl.lookup ("pool" : Str) = some ap := by rw [hcl]; rfl
  have S00 : Sub σ ((σ.set ap (.cell none)).set as_ (.cell (some (.ref st)))) := (Sub.new nap).set nas
  have nst1 : st ≠ ap := fun z => by obtain ⟨m, e⟩ := hst0; rw [z, nap] at e; cases e
  have nst2 : st ≠ as_ := fun z => by obtain ⟨m, e⟩ := hst0; rw [z, nas] at e; cases e
  refine aig_spec M (by (first | lia | omega)) fun a σ1 S1 fx fn fi ft A1 => ?_
  walk_at "vz"
  intro pl npl
  have hapl : ap ≠ pl := fun z => by
    have := S1 ap (.cell none) (by rw [Store.set_ne hne, Store.set_same]); rw [z, npl] at this; cases this
  refine ⟨ap, none, cpc, by rw [Store.set_ne hapl]; exact S1 ap (.cell none) (by rw [Store.set_ne hne, Store.set_same]), ?_⟩
  have B1 : Bst g σ ((σ1.set pl (.list [AV.int (0 : Nat), AV.int (1 : Nat)])).set ap (.cell (some (.ref pl)))) st fd ap as_ a [none] [] [] pl [0, 1] := by
    have npl1 : ∀ {b m}, σ1 b = some m → b ≠ pl := fun e z => by rw [z, npl] at e; cases e
    have nap1 : ∀ {b m}, σ1 b = some m → b ≠ ap → ((σ1.set pl (.list [AV.int (0 : Nat), AV.int (1 : Nat)])).set ap (.cell (some (.ref pl)))) b = some m := fun {b m} e hb => by rw [Store.set_ne hb, Store.set_ne (npl1 e)]; exact e
    have eap := S1 ap (.cell none) (by rw [Store.set_ne hne, Store.set_same])
    refine ⟨hst0, hfd0, nap, nas, S00.none fn, S00.none fi, S00.none ft, S00.none (S1.none npl), fun b hb m h => nap1 (S1 _ _ (S00 _ _ h)) (fun z => (by rw [z, nap] at h; cases h)), ?_, nap1 (S1 _ _ Store.set_same) hne.symm, Store.set_same, ?_, ⟨?_, ?_, ?_, ?_, ?_, A1.ni⟩, ⟨rfl, fun i p hp => ?_, fun p n hp => (by cases hp), by simp⟩, fun l hl => ?_, ?_, ?_⟩
    · obtain ⟨i, e⟩ := hs.1
      exact ⟨i, nap1 (S1 _ _ (S00 _ _ e)) nst1⟩
    · rw [Store.set_ne hapl.symm, Store.set_same]; rfl
    · exact nap1 A1.x (ne_mo A1.x eap (by simp))
    · exact nap1 A1.d (ne_mo A1.d eap (by simp))
    · exact nap1 A1.n (ne_mo A1.n eap (by simp))
    · exact nap1 A1.i (ne_mo A1.i eap (by simp))
    · exact nap1 A1.t (ne_mo A1.t eap (by simp))
    · cases i with
      | zero => cases hp
      | succ i => simp at hp
    · simp at hl ⊢; (first | lia | omega)
    · exact (npl1 A1.n).symm
    · exact (npl1 A1.i).symm
  generalize (σ1.set pl (.list [AV.int (0 : Nat), AV.int (1 : Nat)])).set ap (.cell (some (.ref pl))) = σ2 at *
  clear S1 A1 fn fi ft fx npl hapl
  walk_at "vz"
  refine name_cell (by rfl) csc ksc (by decide) B1.cs ?_
  walk_at "vz"
  refine law_pick_spec D (by walk_at "dd") (B1.source hs) (by decide) fun w0 i0 hw0 => ?_
  have B2 := B1.pick i0
  generalize picked σ2 st fd i0 = σ3 at *
  clear B1
  walk_at "vz"
  refine ⟨_, rfl, by (first | lia | omega), by (first | lia | omega), ?_⟩
  generalize hR : thenZ _ g c _ _ = R
  have fin1 : ∀ lo σ', (∃ pl, Bst g σ σ' st fd ap as_ a (List.replicate (1 + w0 + 1) none) ((List.range (1 + w0)).map (· + 1)) [] pl (List.range (2 * (1 + w0 + 1)))) → NoC lo → Has lo [("tree", t.av), ("k", .int k), ("aig", .ref a.x), ("wide", .int (1 + w0 : Nat))] → R .next lo σ' := by
    rintro _ σ4 ⟨pl, B⟩ hno ⟨lo, rfl⟩
    subst hR
    simp (decide := true) only [NoC, Locals.sets, set_at, if_false] at hno
    simp only [Locals.sets]
    walk_at "vz"
    have fin2 : ∀ lo σ' ns1 tb1 pl pool, Bst g σ σ' st fd ap as_ a ns1 ((List.range (1 + w0)).map (· + 1)) tb1 pl pool → (∃ e : List Nd, ns1 = List.replicate (1 + w0 + 1) none ++ e ∧ e.length ≤ 1) → pool.length ≠ 0 → pool.length ≤ 9 → NoC lo →
        Has lo [("tree", t.av), ("k", .int k), ("aig", .ref a.x), ("wide", .int (1 + w0 : Nat))] → wpZs zC g c ((fnBody (stmtAt 31)).drop 5) lo σ' (Back P) := by
      rintro _ σ' ns1 tb1 pl pool B hns hp0 hp9 hno ⟨lo, rfl⟩
      simp (decide := true) only [NoC, Locals.sets, set_at, if_false] at hno
      simp only [Locals.sets]
      show wpZs zC g c (_ :: _) _ _ _
      walk_at "vz"
      have nsl : ns1.length ≤ 5 := by obtain ⟨e, h, h'⟩ := hns; rw [h]; simp; (first | lia | omega)
      refine compA_ok O (n := k) (cl := ([("state", as_), ("pool", ap)] : List (Str × Addr))) (J := fun ys σ'' => ∃ ls : List Nat, ys = ls.map (fun j => AV.int (j : Nat)) ∧ (∀ l ∈ ls, l < 2 * ns1.length) ∧ Bst g σ σ'' st fd ap as_ a ns1 ((List.range (1 + w0)).map (· + 1)) tb1 pl pool) ?_ ?_ ?_ rfl ?_ ?_ ?_ ?_ (by (first | lia | omega)) ?_ ?_ ?_
      · unfold swapsWith
        rw [eb]
        simp only [ek]
        rfl
      · unfold closureFor cellOf
        rw [show c.env.cells = c.cl from rfl, hcl]
        rfl
      · decide
      · decide
      · decide
      · unfold okN; rw [hcs]; decide +kernel
      · refine CallOk.of ?_; rw [hcs]; decide +kernel
      · refine wpE_ok O rfl ?_
        walk_at "vz"
        exact ⟨[], rfl, fun l hl => (by cases hl), B⟩
      · rintro i ys σ5 hi hlen ⟨ls, rfl, hls, B⟩
        refine AC.aec fun C oC m hm ⟨tk, hv⟩ => ?_
        have kf : c.cs.kind = .function := O.hk
        have rk : ∀ x, (compEnvC { kind := ScopeKind.function, names := [(Str.ofString ".0", NameKind.local), (Str.ofString "spot", NameKind.local), (Str.ofString "_law_pick", NameKind.globalImplicit), (Str.ofString "len", NameKind.globalImplicit), (Str.ofString "pool", NameKind.free), (Str.ofString "state", NameKind.free)], isGenerator := false, isCoroutine := false }
            ([("state", as_), ("pool", ap)] : List (Str × Addr)) C c.env).kindOf x = ([(Str.ofString ".0", NameKind.local), (Str.ofString "spot", NameKind.local), (Str.ofString "_law_pick", NameKind.globalImplicit), (Str.ofString "len", NameKind.globalImplicit), (Str.ofString "pool", NameKind.cell), (Str.ofString "state", NameKind.cell)] : List (Str × NameKind)).lookup x := by
          intro x
          unfold compEnvC relabel Env.kindOf
          have e1 : c.env.scope.names.lookup ("pool" : Str) = some NameKind.cell := kpc
          have e2 : c.env.scope.names.lookup ("state" : Str) = some NameKind.cell := ksc
          simp (decide := true) only [List.map_cons, List.map_nil, kf, Env.kindOf, e1, e2, if_true, if_false]
          rfl
        have hpn : σ5 pl = some _ := B.hpl
        refine ac_item rfl (ac_cell rfl (by rw [rk]; decide) rfl (by decide) B.cp ?_)
        refine ac_bin O (ac_bin O (ac_bin O (ac_const (ac_bin O (ac_loc rfl (by rw [rk]; decide) (by decide) (.head _) hm hv (ac_const ?_))))))
        rw [show (2 : Int) = ((2 : Nat) : Int) from rfl, n_mul]
        refine ⟨mulok_nat (by (first | lia | omega)), ?_⟩
        rw [n_add]
        refine ac_call O rfl rfl (by rw [rk]; decide) (by decide) (by decide) (acs_cons rfl (ac_cell rfl (by rw [rk]; decide) rfl (by decide) B.cs (acs_cons rfl (ac_len O rfl rfl (by rw [rk]; decide) (acs_cons rfl (ac_cell rfl (by rw [rk]; decide) rfl (by decide) B.cp (acs_nil ?_)))))))
        rw [bltW, if_pos rfl]
        refine ⟨_, B.hpl, by rw [List.length_map]; (first | lia | omega), acs_nil ?_⟩
        rw [List.length_map]
        refine law_pick_spec D (by walk_at "dd") (B.source hs) hp0 fun v j hv => ?_
        have B' := B.pick j
        rw [n_add]
        refine ac_len O rfl rfl (by rw [rk]; decide) (acs_cons rfl (ac_cell rfl (by rw [rk]; decide) rfl (by decide) B'.cp (acs_nil ?_)))
        rw [bltW, if_pos rfl]
        refine ⟨_, B'.hpl, by rw [List.length_map]; (first | lia | omega), ?_⟩
        rw [List.length_map, n_mod]
        refine ⟨hp0, ?_⟩
        rw [nit_ref]
        have hix : (2 + i * 2 + v) % pool.length < pool.length := Nat.mod_lt _ (by (first | lia | omega))
        refine ⟨by (first | lia | omega), _, _, B'.hpl, by rw [List.getElem?_map, List.getElem?_eq_getElem hix]; rfl, ?_⟩
        refine ⟨ls ++ [pool[(2 + i * 2 + v) % pool.length]], by rw [List.map_append]; rfl, fun l hl => ?_, B'⟩
        rcases List.mem_append.mp hl with hl | hl
        · exact hls l hl
        · rw [List.mem_singleton.mp hl]
          exact B'.lits _ (List.getElem_mem hix)
      · rintro ys σ5 d hlen ⟨ls, rfl, hls, B⟩ nd
        rw [List.length_map] at hlen
        have dn : d ≠ a.n := fun z => by have := B.ag.n; rw [← z, nd] at this; cases this
        have B := B.sub (Sub.new (m := .list (ls.map fun j => AV.int (j : Nat))) nd)
        have mq : (σ5.set d (.list (ls.map fun j => AV.int (j : Nat)))) d = some (.list (ls.map fun j => AV.int (j : Nat))) := Store.set_same
        generalize σ5.set d (.list (ls.map fun j => AV.int (j : Nat))) = σ6 at *
        show wpZs zC g c (_ :: _) _ _ _
        walk_at "vz"
        simp only [at_nodes K B.ag]
        walk_at "vc"
        walk_at "vz"
        refine ⟨_, B.ag.n, by rw [List.length_map, sizeLine_eq]; (first | lia | omega), fun d2 nd2 => ?_⟩
        have dn2 : d2 ≠ a.n := fun z => by have := B.ag.n; rw [← z, nd2] at this; cases this
        have dt2 : d2 ≠ a.t := fun z => by have := B.ag.t; rw [← z, nd2] at this; cases this
        have B := B.sub (Sub.new (m := .list (ns1.map ndV)) nd2)
        have mq := Sub.new (m := .list (ns1.map ndV)) nd2 _ _ mq
        have mk : (σ6.set d2 (.list (ns1.map ndV))) d2 = some (.list (ns1.map ndV)) := Store.set_same
        generalize σ6.set d2 (.list (ns1.map ndV)) = σ7 at *
        refine build_tree_spec D K hsm dn (by (first | lia | omega)) t (by (first | lia | omega)) (by (first | lia | omega)) (by rw [hlen]; exact ht) B.ag B.wf (by (first | lia | omega)) mq hls fun z ns2 tb2 σ8 G hz hzv => ?_
        have B8 := B.grow G
        have hl2 := G.len
        have mk8 : σ8 d2 = some (.list (ns1.map ndV)) := by rw [G.frame d2 dn2 dt2]; exact mk
        have mq8 : σ8 d = some (.list (ls.map fun j => AV.int (j : Nat))) := by rw [G.frame d dn (ne_mo mq B.ag.t (by simp))]; exact mq
        have htake : ns2.take ns1.length = ns1 := by obtain ⟨e, h, _⟩ := G.ext; rw [h, List.take_left]
        walk_at "vz"
        simp only [at_nodes K B8.ag]
        walk_at "vc"
        refine ⟨_, mk8, by rw [List.length_map]; (first | lia | omega), ?_⟩
        rw [List.length_map]
        refine up_nat B8.ag.n (by rw [List.length_map, sizeLine_eq]; (first | lia | omega)) fun d3 nd3 => ?_
        rw [← List.map_take, htake]
        have B9 := B8.sub (Sub.new (m := .list (ns1.map ndV)) nd3)
        have mk9 := Sub.new (m := .list (ns1.map ndV)) nd3 _ _ mk8
        have mq9 := Sub.new (m := .list (ns1.map ndV)) nd3 _ _ mq8
        have mc9 : (σ8.set d3 (.list (ns1.map ndV))) d3 = some (.list (ns1.map ndV)) := Store.set_same
        generalize σ8.set d3 (.list (ns1.map ndV)) = σ9 at *
        refine ne_same mc9 mk9 (by rw [cLine_eq]; (first | lia | omega)) ?_
        walk_at "vz"
        simp only [at_nodes K B9.ag]
        walk_at "vc"
        walk_at "vz"
        refine ⟨_, B9.ag.n, by rw [List.length_map]; (first | lia | omega), _, mk9, by rw [List.length_map]; (first | lia | omega), ?_⟩
        rw [List.length_map, List.length_map, n_sub hl2.1]
        refine law_cost_spec D t (by (first | lia | omega)) (by (first | lia | omega)) ?_
        walk_at "vz"
        rw [if_neg (by (first | lia | omega))]
        have hw8 : 2 ^ (1 + w0) ≤ 8 := Nat.le_trans (Nat.pow_le_pow_right (by decide) (show 1 + w0 ≤ 3 by (first | lia | omega))) (by decide)
        refine ⟨by (first | lia | omega), _, rfl, by generalize 2 ^ (1 + w0) = ww at *; (first | lia | omega), by generalize 2 ^ (1 + w0) = ww at *; (first | lia | omega), ?_⟩
        have hlay : insLay ((List.range (1 + w0)).map (· + 1)) = true := by
          rcases (show w0 = 0 ∨ w0 = 1 ∨ w0 = 2 by (first | lia | omega)) with rfl | rfl | rfl <;> decide +kernel
        have h0 : 0 ∉ (List.range (1 + w0)).map (· + 1) := by simp
        refine forR_rule (2 ^ (1 + w0)) (fun i lo σ' => Bst g σ σ' st fd ap as_ a ns2 ((List.range (1 + w0)).map (· + 1)) tb2 pl pool ∧ σ' d = some (.list (ls.map fun j => AV.int (j : Nat))) ∧ Has lo [("tree", t.av), ("k", .int k), ("aig", .ref a.x), ("literals", .ref d), ("told", .int z)])
          ⟨B9, mq9, by walk_at "has"⟩ ?_ ?_
        · rintro _ σ10 ⟨B10, mq10, lo, rfl⟩
          simp only [Locals.sets]
          walk_at "vz"
          obtain ⟨j, ej⟩ := B10.src
          refine back_less (h j) fun b m hb => ?_
          unfold picked at hb
          by_cases hbs : b = st
          · subst hbs
            rw [Store.set_same] at hb
            cases hb
            exact ej
          · rw [Store.set_ne hbs] at hb
            exact B10.keep b hbs m hb
        · rintro i _ σ10 hi ⟨B10, mq10, lo, rfl⟩ Q T
          simp only [Locals.sets]
          walk_at "vz"
          refine law_run_spec D K (by (first | lia | omega)) (by (first | lia | omega)) B10.ag B10.wf (by (first | lia | omega)) hlay (by simp; (first | lia | omega)) fun q σ11 nq S11 mf => ?_
          have B11 := B10.sub S11
          have mq11 := S11 _ _ mq10
          walk_at "vz"
          have CV := run_cons B11.wf ((List.range (1 + w0)).map (· + 1)) i h0
          have hrl := runTo_len ns2 ((List.range (1 + w0)).map (· + 1)) i ns2.length
          generalize hrun : runTo ns2 ((List.range (1 + w0)).map (· + 1)) i ns2.length = rs at *
          refine ⟨_, rfl, by (first | lia | omega), by (first | lia | omega), ?_⟩
          refine forR_rule k (fun j lo σ' => σ' = σ11 ∧ Has lo [("tree", t.av), ("k", .int k), ("aig", .ref a.x), ("literals", .ref d), ("told", .int z), ("found", .ref q), ("inner", .int (innerTo (fv rs) ls j : Nat))]) ⟨rfl, by walk_at "has"⟩ ?_ ?_
          · rintro _ _ ⟨rfl, lo, rfl⟩
            simp only [Locals.sets]
            walk_at "vz"
            refine law_bit_spec D (by walk_at "dd") mf (by (first | lia | omega)) (by rw [hrl]; exact hz) ?_
            refine law_at_spec D t (by (first | lia | omega)) (t.ok_mono h4 ht) ?_
            unfold bitV
            walk_at "vz"
            have e : lv (fv rs) z = t.at_ (innerTo (fv rs) ls k) := by
              rw [hzv _ CV, Tree.at_ev]
              exact Tree.ev_congr (fun p hp => (inner_bit (fv rs) ls hp).symm) t ht
            rw [e, if_neg (by simp)]
            exact T.next _ _ ⟨B11, mq11, by walk_at "has"⟩
          · rintro j _ _ hj ⟨rfl, lo, rfl⟩ Q2 T2
            simp only [Locals.sets]
            walk_at "vz"
            have hg : ls[j]? = some (litAt ls j) := by unfold litAt; rw [List.getElem?_eq_getElem (by (first | lia | omega))]; rfl
            refine ⟨by (first | lia | omega), _, _, mq11, by rw [List.getElem?_map, hg]; rfl, ?_⟩
            have hlj := hls _ (List.mem_of_getElem? hg)
            refine law_bit_spec D (by walk_at "dd") mf (by (first | lia | omega)) (by rw [hrl]; (first | lia | omega)) ?_
            unfold bitV
            walk_at "vz"
            refine ⟨by (first | lia | omega), mulok_nat (by have := toNat_le (lv (fv rs) (litAt ls j)); (first | lia | omega)), T2.next _ _ ⟨rfl, ?_⟩⟩
            rw [show innerTo (fv rs) ls (j + 1) = innerTo (fv rs) ls j + (lv (fv rs) (litAt ls j)).toNat * 2 ^ j from rfl]
            walk_at "has"
    split
    · rename_i hw
      refine name_cell hno.1 cpc kpc (by decide) B.cp ?_
      walk_at "vz"
      rw [mk_app B.hpl]
      walk_at "vz"
      obtain ⟨f, hm, hf⟩ := K.land
      rw [mk_own B.ag hm rfl]
      walk_at "vc"
      refine land_spec K hf (by (first | lia | omega)) (by (first | lia | omega)) B.ag B.wf (by simp; (first | lia | omega)) (by simp; (first | lia | omega)) (by simp; (first | lia | omega)) fun z ns' tb' σ5 G hz hzv => ?_
      have B5 := B.grow G
      walk_at "vz"
      refine ⟨_, B5.hpl, by rw [List.length_map, List.length_range, sizeLine_eq]; (first | lia | omega), ?_⟩
      rw [show (List.range (2 * (1 + w0 + 1))).map (fun j => AV.int (j : Nat)) ++ [AV.int (z : Nat)] = (List.range (2 * (1 + w0 + 1)) ++ [z]).map fun j => AV.int (j : Nat) by rw [List.map_append]; rfl]
      have B6 := B5.append (pool' := List.range (2 * (1 + w0 + 1)) ++ [z]) fun l hl => by
        rcases List.mem_append.mp hl with hl | hl
        · exact B5.lits l hl
        · rw [List.mem_singleton.mp hl]; exact hz
      have y := fin2 ((((lo.set "tree" t.av).set "k" (.int k)).set "aig" (.ref a.x)).set "wide" (.int (1 + w0 : Nat))) _ _ _ _ _ B6 G.ext (by simp) (by simp; (first | lia | omega)) (by
        unfold NoC
        simp (decide := true) only [set_at, if_false]
        exact hno) (by walk_at "has")
      revert y
      show wpZs zC g c (_ :: _) _ _ _ → _
      walk_at "vz"
      try exact id
    · have y := fin2 ((((lo.set "tree" t.av).set "k" (.int k)).set "aig" (.ref a.x)).set "wide" (.int (1 + w0 : Nat))) _ _ _ _ _ B ⟨[], by simp, by simp⟩ (by simp) (by simp; (first | lia | omega)) (by
        unfold NoC
        simp (decide := true) only [set_at, if_false]
        exact hno) (by walk_at "has")
      revert y
      show wpZs zC g c (_ :: _) _ _ _ → _
      walk_at "vz"
      try exact id
  refine forR_rule (1 + w0) (fun i lo σ' => (∃ pl, Bst g σ σ' st fd ap as_ a (List.replicate (i + 1) none) ((List.range i).map (· + 1)) [] pl (List.range (2 * (i + 1)))) ∧ NoC lo ∧ Has lo [("tree", t.av), ("k", .int k), ("aig", .ref a.x), ("wide", .int (1 + w0 : Nat))])
    ⟨⟨pl, B2⟩, ⟨rfl, rfl⟩, by walk_at "has"⟩ (fun lo σ' h => fin1 lo σ' h.1 h.2.1 h.2.2) ?_
  rintro i lo σ' hi ⟨⟨pl, B⟩, hno, lo, rfl⟩ Q T
  simp (decide := true) only [NoC, Locals.sets, set_at, if_false] at hno
  simp only [Locals.sets]
  walk_at "vz"
  obtain ⟨f, hm, hf⟩ := K.add_input
  rw [mk_own B.ag hm rfl]
  walk_at "vc"
  refine add_input_spec K hf (by (first | lia | omega)) B.ag (by simp; (first | lia | omega)) (by simp; (first | lia | omega)) ?_
  have B' := B.input
  generalize ((σ'.set a.n _).set a.i _) = σ4 at *
  walk_at "vz"
  refine name_cell hno.1 cpc kpc (by decide) B'.cp ?_
  walk_at "vz"
  intro d nd
  have B3 := B'.sub (Sub.new (m := .list [AV.int ((2 * (List.replicate (i + 1) (none : Nd)).length : Nat) : Int), AV.int ((2 * (List.replicate (i + 1) (none : Nd)).length + 1 : Nat) : Int)]) nd)
  have md : (σ4.set d (.list [AV.int ((2 * (List.replicate (i + 1) (none : Nd)).length : Nat) : Int), AV.int ((2 * (List.replicate (i + 1) (none : Nd)).length + 1 : Nat) : Int)])) d = some _ := Store.set_same
  generalize σ4.set d _ = σ5 at *
  walk_at "vz"
  refine ⟨_, _, B3.hpl, md, by rw [List.length_map, List.length_range, sizeLine_eq]; show _ + 2 ≤ _; (first | lia | omega), fun d2 nd2 => ?_⟩
  have epool : (List.range (2 * (i + 1))).map (fun j => AV.int (j : Nat)) ++ [AV.int ((2 * (List.replicate (i + 1) (none : Nd)).length : Nat) : Int), AV.int ((2 * (List.replicate (i + 1) (none : Nd)).length + 1 : Nat) : Int)] = (List.range (2 * (i + 1 + 1))).map fun j => AV.int (j : Nat) := by
    rw [List.length_replicate, show 2 * (i + 1 + 1) = 2 * (i + 1) + 1 + 1 by (first | lia | omega), List.range_succ, List.range_succ]
    simp only [List.map_append, List.append_assoc]
    rfl
  rw [epool]
  have ens : List.replicate (i + 1) (none : Nd) ++ [none] = List.replicate (i + 1 + 1) none := List.replicate_succ'.symm
  have eins : (List.range i).map (· + 1) ++ [(List.replicate (i + 1) (none : Nd)).length] = (List.range (i + 1)).map (· + 1) := by
    rw [List.length_replicate, List.range_succ, List.map_append]; rfl
  rw [ens, eins] at B3
  have S4 := Sub.new (m := .list ((List.range (2 * (i + 1 + 1))).map fun j => AV.int (j : Nat))) nd2
  have B4 := B3.sub S4
  have B5 := B4.repool (B3.fresh nd2) (pool' := List.range (2 * (i + 1 + 1))) Store.set_same (fun l hl => by rw [List.length_replicate]; exact List.mem_range.mp hl) (fun z => by have := B3.ag.n; rw [← z, nd2] at this; cases this) (fun z => by have := B3.ag.i; rw [← z, nd2] at this; cases this)
  refine ⟨ap, _, cpc, B4.cp, T.next _ _ ⟨⟨d2, B5⟩, ?_, by walk_at "has"⟩⟩
  unfold NoC
  simp (decide := true) only [set_at, if_false]
  exact hno
end
/-! text S1 -/


noncomputable def bitAt (bs : List Nat) (p : Nat) : Nat := (bs[p]?).getD 0
noncomputable def tabTo (bs : List Nat) : Nat → Nat
  | 0 => 0
  | j + 1 => tabTo bs j + bitAt bs j * 2 ^ j
theorem bitAt_lt {bs : List Nat} (h : ∀ b ∈ bs, b < 2) (p : Nat) : bitAt bs p < 2 := by
  unfold bitAt
  cases q : bs[p]? with
  | none => simp
  | some b => exact h b (List.mem_of_getElem? q)
theorem tab_lt {bs : List Nat} (h : ∀ b ∈ bs, b < 2) : ∀ j, tabTo bs j < 2 ^ j
  | 0 => by simp [tabTo]
  | j + 1 => by
    have ih := tab_lt h j
    have hb := bitAt_lt h j
    rw [tabTo, Nat.pow_succ]
    rcases (show bitAt bs j = 0 ∨ bitAt bs j = 1 by (first | lia | omega)) with h | h <;> rw [h] <;> (first | lia | omega)
theorem tab_bit {bs : List Nat} (h : ∀ b ∈ bs, b < 2) {p : Nat} : ∀ {j : Nat}, p < j → (tabTo bs j).testBit p = decide (bitAt bs p = 1)
  | 0, q => absurd q (Nat.not_lt_zero _)
  | j + 1, q => by
    have hl := tab_lt h j
    have e : tabTo bs (j + 1) = 2 ^ j * bitAt bs j + tabTo bs j := by rw [tabTo, Nat.mul_comm, Nat.add_comm]
    rw [e, Nat.testBit_two_pow_mul_add _ hl]
    by_cases hp : p < j
    · rw [if_pos hp]; exact tab_bit h hp
    · rw [if_neg hp]
      have : p = j := by (first | lia | omega)
      subst this
      rw [Nat.sub_self]
      have hb := bitAt_lt h p
      rcases (show bitAt bs p = 0 ∨ bitAt bs p = 1 by (first | lia | omega)) with h | h <;> rw [h] <;> rfl
theorem full_bit {k x : Nat} (h : x < 2 ^ k) : (full k).testBit x = true := by unfold full; rw [Nat.testBit_two_pow_sub_one]; simpa using h
theorem full_sub {k t : Nat} (h : t < 2 ^ (2 ^ k)) : full k - t = full k ^^^ t := by
  have e := or_xor_and (full k) t
  have h1 : full k &&& t = t := by
    unfold full
    rw [Nat.and_comm, Nat.and_two_pow_sub_one_eq_mod]
    exact Nat.mod_eq_of_lt h
  have h2 : full k ||| t = full k := by
    apply Nat.eq_of_testBit_eq
    intro i
    rw [Nat.testBit_or]
    by_cases hi : i < 2 ^ k
    · rw [full_bit hi]; simp
    · have : t.testBit i = false := Nat.testBit_lt_two_pow (Nat.lt_of_lt_of_le h (Nat.pow_le_pow_right (by decide) (by (first | lia | omega))))
      rw [this, Bool.or_false]
  rw [h1, h2] at e
  (first | lia | omega)
theorem Src.pick {σ : Store} {st fd : Addr} {feed : List Nat} (h : Src σ st fd feed) (i : Nat) : Src (picked σ st fd i) st fd feed := by
  obtain ⟨⟨j, h1⟩, h2, h3⟩ := h
  have hne : fd ≠ st := by
    rintro rfl
    rw [h1] at h2
    have := Option.some.inj h2
    simp only [MO.list.injEq] at this
    cases feed with
    | nil => cases this
    | cons x r => simp at this
  exact ⟨⟨i, Store.set_same⟩, by unfold picked; rw [Store.set_ne hne]; exact h2, h3⟩
theorem Src.sub {σ σ' : Store} {st fd : Addr} {feed : List Nat} (h : Src σ st fd feed) (S : Sub σ σ') : Src σ' st fd feed := by
  obtain ⟨⟨j, h1⟩, h2, h3⟩ := h
  exact ⟨⟨j, S _ _ h1⟩, S _ _ h2, h3⟩
section
variable {g : G} {c : Cx} {σ : Store}
theorem ne_pair {un : Nat} {t : Tree} {i : Nat} {Q : Bool → Prop} (hu : un + t.dep + 2 < cLine) (h : Q false) : cmpW un .NotEq (.tup [t.av, .int (i : Nat)]) (.tup [t.av, .int (i : Nat)]) σ Q := by
  show eqW un (.tup [t.av, .int (i : Nat)]) (.tup [t.av, .int (i : Nat)]) σ fun q => Q (!q)
  have e : (AV.tup [t.av, .int (i : Nat)]).pd = some (.tuple [t.pd, .int (i : Nat)]) := by simp only [AV.pd, AV.pds, t.av_pd]; rfl
  refine ⟨.tuple [t.pd, .int (i : Nat)], .tuple [t.pd, .int (i : Nat)], e, e, by simp [PyData.canLay0, PyData.canLayAll0, t.lay], by simp [PyData.canLay0, PyData.canLayAll0, t.lay], ?_, ?_⟩
  · simp only [PyData.depth, PyData.depthAll, t.depth]
    (first | lia | omega)
  · simp only [PyData.eqv, PyData.eqvAll, t.eqv_self]
    simpa using h
theorem law_body (D : Defs g) (K : ClsOk g) (M : MakeOk g) (hsm : SmartOk g) (hlb : FnK g "_law_built" (stmtAt 31)) (HT : ∀ k t, 1 ≤ k → k ≤ 4 → t < 2 ^ (2 ^ k) → TabOk t k)
    (O : c.Ok g) (hdp : c.dp ≤ 310) (hun : c.un ≤ 100) (hcs : c.cs = fnScope (stmtAt 32)) {as_ p : Addr} (hcl : c.cl = ([("state", as_)] : List (Str × Addr))) (has : σ as_ = some (.cell none)) {xs : List Int} (hp : g.fz p = some xs) (hxs : xs.length ≤ 63) :
    wpZs zC g c (fnBody (stmtAt 32)) (argsL ["script"] [.ref p]) σ (fun f _ _ => f = .ret (.bool true)) := by
  show wpZs zC g c (_ :: _) _ _ _
  walk_at "vz"
  have ek : ∀ x, c.env.kindOf x = (fnScope (stmtAt 32)).names.lookup x := fun x => by rw [← hcs]; rfl
  have eb : c.env.blockKind = .function := by unfold Env.blockKind; rw [show c.env.scope = fnScope (stmtAt 32) from hcs]; rfl
  have ksc : c.cs.names.lookup ("state" : Str) = some .cell := by rw [hcs]; decide +kernel
  have csc : c.cl.lookup ("state" : Str) = some as_ := by rw [hcl]; rfl
  refine law_feed_spec D (by walk_at "dd") hp hxs fun st fd feed σ1 S1 nst nfd hs => ?_
  have has1 := S1 _ _ has
  refine ⟨as_, none, csc, has1, ?_⟩
  have hs : Src (σ1.set as_ (.cell (some (.ref st)))) st fd feed := by
    obtain ⟨⟨j, h1⟩, h2, h3⟩ := hs
    exact ⟨⟨j, by rw [Store.set_ne (ne_mo h1 has1 (by simp))]; exact h1⟩, by rw [Store.set_ne (ne_mo h2 has1 (by simp))]; exact h2, h3⟩
  have has : (σ1.set as_ (.cell (some (.ref st)))) as_ = some (.cell (some (.ref st))) := Store.set_same
  generalize σ1.set as_ (.cell (some (.ref st))) = σ2 at *
  walk_at "vz"
  refine name_cell (by rfl) csc ksc (by decide) has ?_
  walk_at "vz"
  refine law_pick_spec D (by walk_at "dd") hs (by decide) fun k0 i0 hk0 => ?_
  have hsp : as_ ≠ st := by obtain ⟨j, e⟩ := hs.1; exact ne_mo has e (by simp)
  have has : (picked σ2 st fd i0) as_ = some (.cell (some (.ref st))) := by unfold picked; rw [Store.set_ne hsp]; exact has
  have hs := hs.pick i0
  generalize picked σ2 st fd i0 = σ3 at *
  walk_at "vz"
  have hk4 : 1 + k0 ≤ 4 := by (first | lia | omega)
  have hk1 : 1 ≤ 1 + k0 := by (first | lia | omega)
  generalize 1 + k0 = k at *
  have hpw : 2 ^ k ≤ 16 := small_pow hk4
  refine compA_ok O (n := 2 ^ k) (cl := ([("state", as_)] : List (Str × Addr))) (J := fun ys σ'' => ∃ bs : List Nat, ys = bs.map (fun j => AV.int (j : Nat)) ∧ (∀ b ∈ bs, b < 2) ∧ Src σ'' st fd feed ∧ σ'' as_ = some (.cell (some (.ref st)))) ?_ ?_ ?_ rfl ?_ ?_ ?_ ?_ (by (first | lia | omega)) ?_ ?_ ?_
  · unfold swapsWith
    rw [eb]
    simp only [ek]
    rfl
  · unfold closureFor cellOf
    rw [show c.env.cells = c.cl from rfl, hcl]
    rfl
  · decide
  · decide
  · decide
  · unfold okN; rw [hcs]; decide +kernel
  · refine CallOk.of ?_; rw [hcs]; decide +kernel
  · refine wpE_ok O rfl ?_
    walk_at "vz"
    exact ⟨by (first | lia | omega), [], rfl, fun l hl => (by cases hl), hs, has⟩
  · rintro i ys σ5 hi hlen ⟨bs, rfl, hbs, hs, has⟩
    refine AC.aec fun C oC m hm ⟨tk, hv⟩ => ?_
    have kf : c.cs.kind = .function := O.hk
    have rk : ∀ x, (compEnvC { kind := ScopeKind.function, names := [(Str.ofString ".0", NameKind.local), (Str.ofString "line", NameKind.local), (Str.ofString "_law_pick", NameKind.globalImplicit), (Str.ofString "state", NameKind.free)], isGenerator := false, isCoroutine := false }
        ([("state", as_)] : List (Str × Addr)) C c.env).kindOf x = ([(Str.ofString ".0", NameKind.local), (Str.ofString "line", NameKind.local), (Str.ofString "_law_pick", NameKind.globalImplicit), (Str.ofString "state", NameKind.cell)] : List (Str × NameKind)).lookup x := by
      intro x
      unfold compEnvC relabel Env.kindOf
      have e2 : c.env.scope.names.lookup ("state" : Str) = some NameKind.cell := ksc
      simp (decide := true) only [List.map_cons, List.map_nil, kf, Env.kindOf, e2, if_true, if_false]
      rfl
    refine ac_call O rfl rfl (by rw [rk]; decide) (by decide) (by decide) (acs_cons rfl (ac_cell rfl (by rw [rk]; decide) rfl (by decide) has (acs_cons rfl (ac_const (acs_nil ?_)))))
    refine law_pick_spec (many := 2) D (by (first | lia | omega)) hs (by decide) fun v j hv => ?_
    refine ⟨bs ++ [v], by rw [List.map_append]; rfl, fun b hb => ?_, hs.pick j, ?_⟩
    · rcases List.mem_append.mp hb with hb | hb
      · exact hbs b hb
      · rw [List.mem_singleton.mp hb]; exact hv
    · unfold picked; rw [Store.set_ne hsp]; exact has
  · rintro ys σ5 bl hlen ⟨bs, rfl, hbs, hs, has⟩ nbl
    rw [List.length_map] at hlen
    have hs := hs.sub (Sub.new (m := .list (bs.map fun j => AV.int (j : Nat))) nbl)
    have has := Sub.new (m := .list (bs.map fun j => AV.int (j : Nat))) nbl _ _ has
    have hbl : (σ5.set bl (.list (bs.map fun j => AV.int (j : Nat)))) bl = some (.list (bs.map fun j => AV.int (j : Nat))) := Store.set_same
    generalize σ5.set bl (.list (bs.map fun j => AV.int (j : Nat))) = σ6 at *
    show wpZs zC g c (_ :: _) _ _ _
    walk_at "vz"
    refine ⟨by (first | lia | omega), _, rfl, by (first | lia | omega), by (first | lia | omega), ?_⟩
    generalize hR : thenZ _ g c _ _ = R
    have fin : ∀ lo, lo ("state" : Str) = none → Has lo [("k", .int k), ("bits", .ref bl), ("table", .int (tabTo bs (2 ^ k) : Nat))] → R .next lo σ6 := by
      rintro _ hno ⟨lo, rfl⟩
      subst hR
      simp (decide := true) only [Locals.sets, set_at, if_false] at hno
      simp only [Locals.sets]
      walk_at "vz"
      have htl := tab_lt hbs (2 ^ k)
      have htb := fun {x} (h : x < 2 ^ k) => tab_bit hbs h
      generalize tabTo bs (2 ^ k) = tb at *
      have hT := HT k tb hk1 hk4 htl
      have hT' := HT k (full k ^^^ tb) hk1 hk4 (Nat.xor_lt_two_pow (by unfold full; have := Nat.two_pow_pos (2 ^ k); (first | lia | omega)) htl)
      have htf : tb ≤ full k := by unfold full; (first | lia | omega)
      have htk := fun {x} (h : x < 2 ^ k) => hT.sem x h
      have htk' := fun {x} (h : x < 2 ^ k) => hT'.sem x h
      have eon : ∀ x, x < 2 ^ k → ((onT tb k).at_ x).toNat = bitAt bs x := fun x hx => by
        rw [htk hx, htb hx]
        have := bitAt_lt hbs x
        rcases (show bitAt bs x = 0 ∨ bitAt bs x = 1 by (first | lia | omega)) with h | h <;> rw [h] <;> rfl
      have eoff : ∀ x, x < 2 ^ k → ((onT (full k ^^^ tb) k).at_ x).toNat = 1 - bitAt bs x := fun x hx => by
        rw [htk' hx, Nat.testBit_xor, full_bit hx, htb hx]
        have := bitAt_lt hbs x
        rcases (show bitAt bs x = 0 ∨ bitAt bs x = 1 by (first | lia | omega)) with h | h <;> rw [h] <;> rfl
      have hbest : ((bestT tb k).1.dep ≤ 410 ∧ (bestT tb k).1.ok 4) ∧ ∀ x, x < 2 ^ k → (((bestT tb k).1.at_ x).toNat + (bestT tb k).2) % 2 = bitAt bs x := by
        unfold bestT
        split
        · refine ⟨⟨hT'.dep, Tree.ok_mono hk4 _ hT'.ok⟩, fun x hx => ?_⟩
          have := bitAt_lt hbs x
          dsimp only
          rw [eoff x hx]
          (first | lia | omega)
        · refine ⟨⟨hT.dep, Tree.ok_mono hk4 _ hT.ok⟩, fun x hx => ?_⟩
          have := bitAt_lt hbs x
          dsimp only
          rw [eon x hx]
          (first | lia | omega)
      refine ⟨by (first | lia | omega), by (first | lia | omega), ?_⟩
      walk_at "vz"
      rw [n_sub (Nat.two_pow_pos _), show 2 ^ 2 ^ k - 1 = full k from rfl]
      walk_at "vz"
      rw [n_sub htf, full_sub htl]
      walk_at "vz"
      refine isop_spec D 5 (by (first | lia | omega)) (by (first | lia | omega)) hk4 hT.isop fun d0 σ7 n0 S0 m0 => ?_
      refine on_spec D (by walk_at "dd") (by (first | lia | omega)) hk4 hT m0 ?_
      refine isop_spec D 5 (by (first | lia | omega)) (by (first | lia | omega)) hk4 hT'.isop fun d1 σ8 n1 S1 m1 => ?_
      refine on_spec D (by walk_at "dd") (by (first | lia | omega)) hk4 hT' m1 ?_
      refine best_tree_spec D (by walk_at "dd") (by (first | lia | omega)) hk4 hT hT' ?_
      have SS := S0.trans S1
      have hs := hs.sub SS
      have has := SS _ _ has
      have hbl := SS _ _ hbl
      walk_at "vz"
      refine ⟨by (first | lia | omega), _, rfl, by (first | lia | omega), by (first | lia | omega), ?_⟩
      refine forR_rule (2 ^ k) (fun i lo σ' => σ' = σ8 ∧ lo ("state" : Str) = none ∧ Has lo [("k", .int k), ("bits", .ref bl), ("on", (onT tb k).av), ("off", (onT (full k ^^^ tb) k).av), ("tree", (bestT tb k).1.av), ("inverted", .int ((bestT tb k).2 : Nat))])
        ⟨rfl, by simp (decide := true) only [set_at, if_false]; exact hno, by walk_at "has"⟩ ?_ ?_
      · rintro _ _ ⟨rfl, hno, lo, rfl⟩
        simp (decide := true) only [Locals.sets, set_at, if_false] at hno
        simp only [Locals.sets]
        walk_at "vz"
        refine law_cost_spec D _ (by have := hT'.dep; (first | lia | omega)) (by have := hT'.dep; (first | lia | omega)) ?_
        refine law_cost_spec D _ (by have := hT.dep; (first | lia | omega)) (by have := hT.dep; (first | lia | omega)) ?_
        walk_at "vz"
        split
        · rename_i e
          have eb : bestT tb k = (onT (full k ^^^ tb) k, 1) := by unfold bestT; rw [if_pos e]
          rw [eb]
          refine ne_pair (by rw [cLine_eq]; have := hT'.dep; dsimp only; (first | lia | omega)) ?_
          walk_at "vz"
          refine tree_size_spec D _ (by have := hT'.dep; (first | lia | omega)) ?_
          refine law_cost_spec D _ (by have := hT'.dep; (first | lia | omega)) (by have := hT'.dep; (first | lia | omega)) ?_
          walk_at "vz"
          refine name_cell hno csc ksc (by decide) has ?_
          refine law_built_spec D K M hsm hlb (by (first | lia | omega)) (by (first | lia | omega)) hs hk1 hk4 hT.ok hT.dep hT.cost fun j => ?_
          walk_at "vz"
          refine name_cell hno csc ksc (by decide) (by unfold picked; rw [Store.set_ne hsp]; exact has) ?_
          exact law_built_spec D K M hsm hlb (by (first | lia | omega)) (by (first | lia | omega)) (hs.pick j) hk1 hk4 hT'.ok hT'.dep hT'.cost fun j => rfl
        · rename_i e
          have eb : bestT tb k = (onT tb k, 0) := by unfold bestT; rw [if_neg e]
          rw [eb]
          refine ne_pair (by rw [cLine_eq]; have := hT.dep; dsimp only; (first | lia | omega)) ?_
          walk_at "vz"
          refine tree_size_spec D _ (by have := hT.dep; (first | lia | omega)) ?_
          refine law_cost_spec D _ (by have := hT.dep; (first | lia | omega)) (by have := hT.dep; (first | lia | omega)) ?_
          walk_at "vz"
          refine name_cell hno csc ksc (by decide) has ?_
          refine law_built_spec D K M hsm hlb (by (first | lia | omega)) (by (first | lia | omega)) hs hk1 hk4 hT.ok hT.dep hT.cost fun j => ?_
          walk_at "vz"
          refine name_cell hno csc ksc (by decide) (by unfold picked; rw [Store.set_ne hsp]; exact has) ?_
          exact law_built_spec D K M hsm hlb (by (first | lia | omega)) (by (first | lia | omega)) (hs.pick j) hk1 hk4 hT'.ok hT'.dep hT'.cost fun j => rfl
      · rintro i _ _ hi ⟨rfl, hno, lo, rfl⟩ Q T
        simp (decide := true) only [Locals.sets, set_at, if_false] at hno
        simp only [Locals.sets]
        walk_at "vz"
        have hg : bs[i]? = some (bitAt bs i) := by unfold bitAt; rw [List.getElem?_eq_getElem (by (first | lia | omega))]; rfl
        have hgl : (bs.map fun j => AV.int (j : Nat))[i]? = some (.int (bitAt bs i : Nat)) := by rw [List.getElem?_map, hg]; rfl
        have hb2 := bitAt_lt hbs i
        refine law_at_spec D _ (by have := hT.dep; (first | lia | omega)) (Tree.ok_mono hk4 _ hT.ok) ?_
        walk_at "vz"
        refine ⟨by (first | lia | omega), _, _, hbl, hgl, ?_⟩
        walk_at "vz"
        rw [eon i hi, if_neg (by simp)]
        refine law_at_spec D _ (by have := hT'.dep; (first | lia | omega)) (Tree.ok_mono hk4 _ hT'.ok) ?_
        walk_at "vz"
        refine ⟨by (first | lia | omega), _, _, hbl, hgl, ?_⟩
        walk_at "vz"
        rw [eoff i hi, if_neg (by (first | lia | omega))]
        refine law_at_spec D _ (by (first | lia | omega)) hbest.1.2 ?_
        walk_at "vz"
        refine ⟨by (first | lia | omega), _, _, hbl, hgl, ?_⟩
        walk_at "vz"
        rw [hbest.2 i hi, if_neg (by simp)]
        exact T.next _ _ ⟨rfl, by simp (decide := true) only [set_at, if_false]; exact hno, by walk_at "has"⟩
    refine forR_rule (2 ^ k) (fun i lo σ' => σ' = σ6 ∧ lo ("state" : Str) = none ∧ Has lo [("k", .int k), ("bits", .ref bl), ("table", .int (tabTo bs i : Nat))]) ⟨rfl, rfl, by walk_at "has"⟩ ?_ ?_
    · rintro lo _ ⟨rfl, hno, hlo⟩
      exact fin lo hno hlo
    · rintro i _ _ hi ⟨rfl, hno, lo, rfl⟩ Q T
      simp (decide := true) only [Locals.sets, set_at, if_false] at hno
      simp only [Locals.sets]
      walk_at "vz"
      have hg : bs[i]? = some (bitAt bs i) := by unfold bitAt; rw [List.getElem?_eq_getElem (by (first | lia | omega))]; rfl
      refine ⟨by (first | lia | omega), _, _, hbl, by rw [List.getElem?_map, hg]; rfl, ?_⟩
      walk_at "vz"
      have hb2 := bitAt_lt hbs i
      refine ⟨by (first | lia | omega), mulok_nat (by (first | lia | omega)), T.next _ _ ⟨rfl, ?_, ?_⟩⟩
      · simp (decide := true) only [set_at, if_false]; exact hno
      · rw [show tabTo bs (i + 1) = tabTo bs i + bitAt bs i * 2 ^ i from rfl]
        walk_at "has"
end
/-! text S2 -/
noncomputable def fnA : Str → Addr := fun f => (([("full_table", 28), ("var_table", 35), ("cofactor", 42), ("depends", 49), ("cube_table", 56), ("cover_table", 63), ("isop", 70), ("opposed", 77), ("other_side", 84), ("rule_positive", 91), ("rule_negative", 98), ("smart_and", 106), ("literal_chain", 113), ("commonest_literal", 120), ("factor", 127),
  ("tree_size", 134), ("build_tree", 141), ("best_tree", 148), ("Aig", 243), ("_law_feed", 261), ("_law_pick", 268), ("_law_at", 275), ("_law_cost", 282), ("_law_run", 289), ("_law_bit", 296), ("_law_built", 301)] : List (Str × Nat)).lookup f).getD 0
/-- what the written part says -/
structure AllFacts (g : G) : Prop where
  defs : Defs g
  cls : ClsOk g
  make : MakeOk g
  smart : SmartOk g
  built : FnK g "_law_built" (stmtAt 31)
  blt : ∀ f ∈ bltNames, nsIn g.K mainGlobals f = some none
  fns : ∀ f ∈ defNames, nsIn g.K mainGlobals f = some (some (.ref (g.fn f))) ∧ keepIn g.K (.ref (g.fn f)) = true
theorem law_top {prog : Program} {w : World} {K : Frag} {p : Program} {loose : List Str} {mean : ExcName → Option Value} {mg mb : Str → Option Value} {s₁ : Shared} {h₁ : Heap} {tk : Nat} {m : Str → Option Value} {fa : Addr} {cd : Value} {o : Obj} {ps : Addr} {vs : List Value} {xs : List Int}
    {Q : Flow → Shared → Prop} {E : Value → Shared → Prop} (HT : ∀ k t, 1 ≤ k → k ≤ 4 → t < 2 ^ (2 ^ k) → TabOk t k)
    (X : K.In s₁.heap) (T : Top p loose mean mg mb s₁.heap) (B : Below callerA s₁.heap [] s₁.heap) (F : Fr s₁.heap s₁.heap.objs.size h₁ m) (N : News s₁.heap s₁.heap.objs.size h₁ [(s₁.heap.objs.size + 1, o)]) (hl : s₁.heap.IsList ps vs.toArray) (hi : IntsAre vs xs) (hxs : ¬ ((63 : Nat) : Int) < (xs.length : Int))
    (htree : prog.given.tree = none) (himp : importsNone p = true) (facts : ∀ g : G, g.K = K → g.fn = fnA → AllFacts g) (hm : m "script" = some (.ref ps)) (hod : o.data = .cell none)
    (hQ : ∀ s', (∃ m', Fr s₁.heap s₁.heap.objs.size s'.heap m') → s'.gens = s₁.gens → s'.os = s₁.os → Q (.ret (.bool true)) s') :
    wpAny (model prog w) (callerA.deeper (envX "law" (fnScope (stmtAt 32)) s₁.heap.objs.size fa cd ([("state", s₁.heap.objs.size + 1)] : List (Str × Addr)))) (execs (fnBody (stmtAt 32)) (envX "law" (fnScope (stmtAt 32)) s₁.heap.objs.size fa cd ([("state", s₁.heap.objs.size + 1)] : List (Str × Addr)))) Q E
      { heap := h₁, gens := s₁.gens, drawn := s₁.drawn, toks := tk, os := s₁.os } := by
  let g : G := { prog := prog, w := w, K := K, p := p, loose := loose, mean := mean, mg := mg, mb := mb, fz := fun a => if a = ps then some xs else none, fn := fnA }
  let c : Cx := { A₀ := callerA, base := s₁.heap, h₀ := s₁.heap, outer := [], L := s₁.heap.objs.size, cn := "law", cs := fnScope (stmtAt 32), a := fa, ccd := cd, cl := ([("state", s₁.heap.objs.size + 1)] : List (Str × Addr)), dp := 1 + claimMargin + 1, un := 7, gd := some [] }
  have FF := facts g rfl rfl
  have O : c.Ok g := ⟨B, X, T, rfl, fun a l e => by
    have e' : (if a = ps then some xs else none) = some l := e
    (split at e'
     · rename_i z; cases e'; subst z; exact ⟨vs, hl, hi⟩
     · cases e'), rfl, rfl, htree, himp, FF.blt, FF.fns⟩
  have n1 := N _ (.head _)
  have S : St g c (argsL ["script"] [.ref ps]) (Store.set (fun _ => none) (s₁.heap.objs.size + 1) (.cell none)) [] { heap := h₁, gens := s₁.gens, drawn := s₁.drawn, toks := tk, os := s₁.os } := by
    refine ⟨⟨m, F, fun x av e => ?_⟩, fun x av e => ?_, fun a mo e => ?_, fun q hq => by cases hq⟩
    · rw [argsL_cons] at e
      split at e
      · rename_i z; cases e; subst z; exact ⟨_, hm, href⟩
      · cases e
    · rw [argsL_cons] at e
      split at e
      · rename_i z; subst z
        show (fnScope (stmtAt 32)).names.lookup ("script" : Str) = some NameKind.local ∧ (("script" : Str) == ("__debug__" : Str)) = false
        decide +kernel
      · cases e
    · unfold Store.set at e
      split at e
      · rename_i z; cases e; subst z
        exact ⟨⟨o, none, n1.1, hod, trivial⟩, n1.2⟩
      · cases e
  have W := wpZs_ok O (z := zC) (by show chkZs zC (fnScope (stmtAt 32)).names (fnBody (stmtAt 32)) = true; decide +kernel)
    (law_body (c := c) (as_ := s₁.heap.objs.size + 1) (p := ps) (xs := xs) FF.defs FF.cls FF.make FF.smart FF.built HT O (by show 1 + claimMargin + 1 ≤ 310; decide) (by show 7 ≤ 100; decide) rfl rfl Store.set_same (if_pos rfl) (by (first | lia | omega))) [] _ S
  refine noE W fun f s' q => ?_
  obtain ⟨af, lo', σ', rfl, rf, S', E'⟩ := q
  obtain ⟨v, rfl, hv⟩ := rf
  simp only [HRel] at hv
  subst hv
  obtain ⟨m', F', _⟩ := S'.fr
  exact hQ s' ⟨m', F'⟩ E'.gens E'.os
/-! text M1 -/

/-! ### the plain law: tables as functions -/
theorem varT_bit : ∀ k, k < 5 → ∀ i, i < k → ∀ x, x < 2 ^ k → (varT i k).testBit x = x.testBit i := by decide +kernel
theorem varT_lt : ∀ k, k < 5 → ∀ i, i < k → varT i k < 2 ^ (2 ^ k) := by decide +kernel
theorem add_bit : ∀ i, i < 4 → ∀ x, x < 16 → (x + 2 ^ i).testBit i = !x.testBit i := by decide +kernel
theorem add_lt : ∀ k, k < 5 → ∀ i, i < k → ∀ x, x < 2 ^ k → x.testBit i = false → x + 2 ^ i < 2 ^ k := by decide +kernel
theorem sub_bit : ∀ i, i < 4 → ∀ x, x < 16 → 2 ^ i ≤ x → (x - 2 ^ i).testBit i = !x.testBit i := by decide +kernel
theorem le_bit : ∀ i, i < 4 → ∀ x, x < 16 → x.testBit i = true → 2 ^ i ≤ x := by decide +kernel
/-- the place with the i-th bit set to b -/
noncomputable def setb (x i b : Nat) : Nat := if b = 1 then (if x.testBit i = true then x else x + 2 ^ i) else (if x.testBit i = true then x - 2 ^ i else x)
theorem setb_lt {k i x b : Nat} (hk : k < 5) (hi : i < k) (hx : x < 2 ^ k) : setb x i b < 2 ^ k := by
  unfold setb
  split
  · split
    · exact hx
    · rename_i h; exact add_lt k hk i hi x hx (by simpa using h)
  · split
    · exact Nat.lt_of_le_of_lt (Nat.sub_le _ _) hx
    · exact hx
theorem bit_lt {t n x : Nat} (h : t < 2 ^ n) (hx : n ≤ x) : t.testBit x = false := Nat.testBit_lt_two_pow (Nat.lt_of_lt_of_le h (Nat.pow_le_pow_right (by decide) hx))
theorem lt_of_bits {t n : Nat} (h : ∀ x, n ≤ x → t.testBit x = false) : t < 2 ^ n := Nat.lt_pow_two_of_testBit t fun i hi => h i hi
theorem ext_bits {n t u : Nat} (ht : t < 2 ^ n) (hu : u < 2 ^ n) (h : ∀ x, x < n → t.testBit x = u.testBit x) : t = u := by
  apply Nat.eq_of_testBit_eq
  intro x
  rcases Nat.lt_or_ge x n with hx | hx
  · exact h x hx
  · rw [bit_lt ht hx, bit_lt hu hx]
theorem pow16 {k : Nat} (hk : k < 5) : 2 ^ k ≤ 16 := small_pow (by (first | lia | omega))
theorem cof1_bit {k i t : Nat} (hk : k < 5) (hi : i < k) (ht : t < 2 ^ (2 ^ k)) (x : Nat) : (cofT t i 1 k).testBit x = if x < 2 ^ k then t.testBit (setb x i 1) else false := by
  have h16 := pow16 hk
  have hv := varT_lt k hk i hi
  have hvb : ∀ y, (t &&& varT i k).testBit y = if y < 2 ^ k then (t.testBit y && y.testBit i) else false := by
    intro y
    rw [Nat.testBit_and]
    split
    · rename_i h; rw [varT_bit k hk i hi y h]
    · rename_i h; rw [bit_lt hv (by (first | lia | omega)), Bool.and_false]
  unfold cofT
  rw [if_pos rfl, Nat.testBit_or, Nat.testBit_div_two_pow, hvb, hvb]
  unfold setb
  rw [if_pos rfl]
  by_cases hx : x < 2 ^ k
  · rw [if_pos hx, if_pos hx]
    cases hb : x.testBit i with
    | true =>
      have : (x + 2 ^ i).testBit i = false := by rw [add_bit i (by (first | lia | omega)) x (by (first | lia | omega)), hb]; rfl
      simp [this]
    | false =>
      have h1 : (x + 2 ^ i).testBit i = true := by rw [add_bit i (by (first | lia | omega)) x (by (first | lia | omega)), hb]; rfl
      have h2 := add_lt k hk i hi x hx hb
      simp [h1, h2]
  · rw [if_neg hx, if_neg (fun z => hx (Nat.lt_of_le_of_lt (Nat.le_add_right _ _) z)), if_neg hx]; rfl
theorem cof0_bit {k i t : Nat} (hk : k < 5) (hi : i < k) (ht : t < 2 ^ (2 ^ k)) (x : Nat) : (cofT t i 0 k).testBit x = if x < 2 ^ k then t.testBit (setb x i 0) else false := by
  have h16 := pow16 hk
  have hv := varT_lt k hk i hi
  have hvb : ∀ y, (t ^^^ (t &&& varT i k)).testBit y = if y < 2 ^ k then (t.testBit y && !y.testBit i) else false := by
    intro y
    rw [Nat.testBit_xor, Nat.testBit_and]
    split
    · rename_i h; rw [varT_bit k hk i hi y h]; cases t.testBit y <;> cases y.testBit i <;> rfl
    · rename_i h; rw [bit_lt hv (by (first | lia | omega)), bit_lt ht (by (first | lia | omega))]; rfl
  unfold cofT
  rw [if_neg (show ¬ (0 : Nat) = 1 by decide), Nat.testBit_or, Nat.testBit_mul_two_pow, hvb, hvb]
  unfold setb
  rw [if_neg (show ¬ (0 : Nat) = 1 by decide)]
  by_cases hx : x < 2 ^ k
  · rw [if_pos hx, if_pos hx, if_pos (Nat.lt_of_le_of_lt (Nat.sub_le _ _) hx)]
    cases hb : x.testBit i with
    | true =>
      have h1 := le_bit i (by (first | lia | omega)) x (by (first | lia | omega)) hb
      have h2 : (x - 2 ^ i).testBit i = false := by rw [sub_bit i (by (first | lia | omega)) x (by (first | lia | omega)) h1, hb]; rfl
      simp [h1, h2]
    | false =>
      by_cases h1 : 2 ^ i ≤ x
      · have h2 : (x - 2 ^ i).testBit i = true := by rw [sub_bit i (by (first | lia | omega)) x (by (first | lia | omega)) h1, hb]; rfl
        simp [h2]
      · simp [h1]
  · rw [if_neg hx, if_neg hx]
    by_cases h1 : x - 2 ^ i < 2 ^ k
    · rw [if_pos h1]
      cases hb : (x - 2 ^ i).testBit i with
      | true => simp
      | false =>
        have h2 := add_lt k hk i hi _ h1 hb
        have h3 : ¬ 2 ^ i ≤ x := by (first | lia | omega)
        simp [h3]
    · rw [if_neg h1]; simp
theorem cof_bit {k i t b x : Nat} (hk : k < 5) (hi : i < k) (ht : t < 2 ^ (2 ^ k)) (hb : b ≤ 1) (hx : x < 2 ^ k) : (cofT t i b k).testBit x = t.testBit (setb x i b) := by
  rcases (show b = 0 ∨ b = 1 by (first | lia | omega)) with rfl | rfl
  · rw [cof0_bit hk hi ht, if_pos hx]
  · rw [cof1_bit hk hi ht, if_pos hx]
theorem cof_lt {k i t b : Nat} (hk : k < 5) (hi : i < k) (ht : t < 2 ^ (2 ^ k)) (hb : b ≤ 1) : cofT t i b k < 2 ^ (2 ^ k) := by
  apply lt_of_bits
  intro x hx
  rcases (show b = 0 ∨ b = 1 by (first | lia | omega)) with rfl | rfl
  · rw [cof0_bit hk hi ht, if_neg (by (first | lia | omega))]
  · rw [cof1_bit hk hi ht, if_neg (by (first | lia | omega))]
/-- the table does not turn on the i-th input -/
noncomputable def Ind (t i k : Nat) : Prop := ∀ x, x < 2 ^ k → ∀ b, b ≤ 1 → t.testBit (setb x i b) = t.testBit x
theorem setb_self {x i : Nat} : setb x i (x.testBit i).toNat = x := by
  unfold setb
  cases h : x.testBit i <;> simp
theorem toNatLe (b : Bool) : b.toNat ≤ 1 := by cases b <;> decide
theorem dep_ind {t i k : Nat} (hk : k < 5) (hi : i < k) (ht : t < 2 ^ (2 ^ k)) : depT t i k = false ↔ Ind t i k := by
  unfold depT
  constructor
  · intro h
    have e : cofT t i 0 k = cofT t i 1 k := by simpa using h
    intro x hx b hb
    have h01 : t.testBit (setb x i 0) = t.testBit (setb x i 1) := by rw [← cof_bit hk hi ht (by decide) hx, ← cof_bit hk hi ht (by decide) hx, e]
    have hself := congrArg t.testBit (setb_self (x := x) (i := i))
    have hbit := toNatLe (x.testBit i)
    rcases (show b = 0 ∨ b = 1 by (first | lia | omega)) with rfl | rfl <;> rcases (show (x.testBit i).toNat = 0 ∨ (x.testBit i).toNat = 1 by (first | lia | omega)) with h | h <;> rw [h] at hself
    · exact hself
    · rw [h01]; exact hself
    · rw [← h01]; exact hself
    · exact hself
  · intro h
    have e : cofT t i 0 k = cofT t i 1 k := ext_bits (cof_lt hk hi ht (by decide)) (cof_lt hk hi ht (by decide)) fun x hx => by
      rw [cof_bit hk hi ht (by decide) hx, cof_bit hk hi ht (by decide) hx, h x hx 0 (by decide), h x hx 1 (by decide)]
    simp [e]
/-! text M2 -/

noncomputable def CubeAt (q : Cube) (x : Nat) : Prop := ∀ p, q.1.testBit p = true → x.testBit p = q.2.testBit p
noncomputable def Cov (l : List Cube) (x : Nat) : Prop := ∃ q ∈ l, CubeAt q x
noncomputable def Small (d : Nat) (q : Cube) : Prop := q.1 < 2 ^ d ∧ q.2 < 2 ^ d
theorem fullb {k x : Nat} (h : x < 2 ^ k) : (full k).testBit x = true := by unfold full; rw [Nat.testBit_two_pow_sub_one]; simpa using h
theorem full_lt' (k : Nat) : full k < 2 ^ (2 ^ k) := by unfold full; have := Nat.two_pow_pos (2 ^ k); (first | lia | omega)
theorem notb {k t x : Nat} (h : x < 2 ^ k) : (full k ^^^ t).testBit x = !t.testBit x := by rw [Nat.testBit_xor, fullb h, Bool.true_xor]
theorem not_lt' {k t : Nat} (h : t < 2 ^ (2 ^ k)) : full k ^^^ t < 2 ^ (2 ^ k) := Nat.xor_lt_two_pow (full_lt' k) h
theorem cubeTo_bit {k m v x : Nat} (hk : k < 5) (hx : x < 2 ^ k) : ∀ i, i ≤ k → ((cubeTo m v k i).testBit x = true ↔ ∀ p, p < i → m.testBit p = true → x.testBit p = v.testBit p)
  | 0, _ => by simp [cubeTo, fullb hx]
  | i + 1, hi => by
    have ih := cubeTo_bit (m := m) (v := v) hk hx i (by (first | lia | omega))
    have hv := varT_bit k hk i (by (first | lia | omega)) x hx
    have step : (∀ p, p < i + 1 → m.testBit p = true → x.testBit p = v.testBit p) ↔ (∀ p, p < i → m.testBit p = true → x.testBit p = v.testBit p) ∧ (m.testBit i = true → x.testBit i = v.testBit i) := by
      constructor
      · exact fun h => ⟨fun p hp => h p (by (first | lia | omega)), h i (by (first | lia | omega))⟩
      · rintro ⟨h1, h2⟩ p hp
        rcases (show p < i ∨ p = i by (first | lia | omega)) with hp | rfl
        · exact h1 p hp
        · exact h2
    rw [step, ← ih, cubeTo]
    split
    · rename_i hm
      split
      · rename_i hvb
        rw [Nat.testBit_and, hv]
        simp [hm, hvb]
      · rename_i hvb
        rw [Nat.testBit_and, notb hx, hv]
        simp at hvb
        simp [hm, hvb]
    · rename_i hm
      simp [hm]
theorem cubeT_bit {k x : Nat} {q : Cube} (hk : k < 5) (hx : x < 2 ^ k) (hq : Small k q) : (cubeT q k).testBit x = true ↔ CubeAt q x := by
  unfold cubeT
  rw [cubeTo_bit hk hx k (Nat.le_refl _)]
  constructor
  · intro h p hp
    rcases Nat.lt_or_ge p k with hpk | hpk
    · exact h p hpk hp
    · rw [bit_lt hq.1 hpk] at hp; cases hp
  · exact fun h p _ hp => h p hp
theorem coverTo_bit {k x : Nat} (hk : k < 5) (hx : x < 2 ^ k) : ∀ (l : List Cube) (r : Nat), (∀ q ∈ l, Small k q) → ((coverTo k l r).testBit x = true ↔ r.testBit x = true ∨ Cov l x)
  | [], r, _ => by simp [coverTo, Cov]
  | q :: l, r, h => by
    rw [coverTo, coverTo_bit hk hx l _ fun q' h' => h q' (.tail _ h'), Nat.testBit_or, Bool.or_eq_true, cubeT_bit hk hx (h q (.head _))]
    unfold Cov
    simp only [List.mem_cons, exists_eq_or_imp]
    exact or_assoc
theorem coverT_bit {k x : Nat} (hk : k < 5) (hx : x < 2 ^ k) {l : List Cube} (h : ∀ q ∈ l, Small k q) : (coverT l k).testBit x = true ↔ Cov l x := by
  unfold coverT
  rw [coverTo_bit hk hx l 0 h]
  simp
/-! setting bits -/
set_option synthInstance.maxSize 4000 in
set_option synthInstance.maxHeartbeats 400000 in
theorem setb_comm : ∀ i, i < 4 → ∀ j, j < 4 → i ≠ j → ∀ b, b < 2 → ∀ c, c < 2 → ∀ x, x < 16 → setb (setb x j b) i c = setb (setb x i c) j b := by decide +kernel
theorem setb_idem : ∀ i, i < 4 → ∀ b, b < 2 → ∀ c, c < 2 → ∀ x, x < 16 → setb (setb x i b) i c = setb x i c := by decide +kernel
theorem setb_other : ∀ i, i < 4 → ∀ p, p < 4 → p ≠ i → ∀ b, b < 2 → ∀ x, x < 16 → (setb x i b).testBit p = x.testBit p := by decide +kernel
noncomputable def clr (x : Nat) : Nat → Nat
  | 0 => x
  | n + 1 => setb (clr x n) n 0
theorem clr_all : ∀ k, k < 5 → ∀ x, x < 2 ^ k → clr x k = 0 := by decide +kernel
theorem ind_const {k t : Nat} (hk : k < 5) (h : ∀ i, i < k → Ind t i k) {x : Nat} (hx : x < 2 ^ k) : t.testBit x = t.testBit 0 := by
  have : ∀ n, n ≤ k → clr x n < 2 ^ k ∧ t.testBit (clr x n) = t.testBit x := by
    intro n
    induction n with
    | zero => exact fun _ => ⟨hx, rfl⟩
    | succ n ih =>
      intro hn
      obtain ⟨h1, h2⟩ := ih (by (first | lia | omega))
      exact ⟨setb_lt hk (by (first | lia | omega)) h1, by rw [clr, h n (by (first | lia | omega)) _ h1 0 (by decide), h2]⟩
  have e := (this k (Nat.le_refl _)).2
  rw [clr_all k hk x hx] at e
  exact e.symm
theorem ind_cof_self {k i t b : Nat} (hk : k < 5) (hi : i < k) (ht : t < 2 ^ (2 ^ k)) (hb : b ≤ 1) : Ind (cofT t i b k) i k := by
  intro x hx c hc
  have h16 := pow16 hk
  rw [cof_bit hk hi ht hb (setb_lt hk hi hx), cof_bit hk hi ht hb hx, setb_idem i (by (first | lia | omega)) c (by (first | lia | omega)) b (by (first | lia | omega)) x (by (first | lia | omega))]
theorem ind_cof_other {k i j t b : Nat} (hk : k < 5) (hi : i < k) (hj : j < k) (hij : i ≠ j) (ht : t < 2 ^ (2 ^ k)) (hb : b ≤ 1) (h : Ind t j k) : Ind (cofT t i b k) j k := by
  intro x hx c hc
  have h16 := pow16 hk
  rw [cof_bit hk hi ht hb (setb_lt hk hj hx), cof_bit hk hi ht hb hx, setb_comm i (by (first | lia | omega)) j (by (first | lia | omega)) hij c (by (first | lia | omega)) b (by (first | lia | omega)) x (by (first | lia | omega))]
  exact h _ (setb_lt hk hi hx) c hc
theorem Ind.and {t u i k : Nat} (h : Ind t i k) (h' : Ind u i k) : Ind (t &&& u) i k := fun x hx b hb => by rw [Nat.testBit_and, Nat.testBit_and, h x hx b hb, h' x hx b hb]
theorem Ind.or {t u i k : Nat} (h : Ind t i k) (h' : Ind u i k) : Ind (t ||| u) i k := fun x hx b hb => by rw [Nat.testBit_or, Nat.testBit_or, h x hx b hb, h' x hx b hb]
theorem Ind.not {t i k : Nat} (hk : k < 5) (hi : i < k) (h : Ind t i k) : Ind (full k ^^^ t) i k := fun x hx b hb => by rw [notb (setb_lt hk hi hx), notb hx, h x hx b hb]
theorem cov_set {k d i x b : Nat} (hk : k < 5) (hi : i < k) (hx : x < 2 ^ k) (hb : b ≤ 1) (hdi : d ≤ i) {l : List Cube} (h : ∀ q ∈ l, Small d q) : Cov l (setb x i b) ↔ Cov l x := by
  have h16 := pow16 hk
  have : ∀ q ∈ l, (CubeAt q (setb x i b) ↔ CubeAt q x) := by
    intro q hq
    unfold CubeAt
    refine forall_congr' fun p => ?_
    by_cases hp : q.1.testBit p = true
    · have hpd : p < d := by
        rcases Nat.lt_or_ge p d with z | z
        · exact z
        · rw [bit_lt (h q hq).1 z] at hp; cases hp
      rw [setb_other i (by (first | lia | omega)) p (by (first | lia | omega)) (by (first | lia | omega)) b (by (first | lia | omega)) x (by (first | lia | omega))]
    · simp [hp]
  unfold Cov
  constructor
  · rintro ⟨q, a, c⟩; exact ⟨q, a, (this q a).mp c⟩
  · rintro ⟨q, a, c⟩; exact ⟨q, a, (this q a).mpr c⟩
theorem Small.mono {d d' : Nat} (h : d ≤ d') {q : Cube} (s : Small d q) : Small d' q := ⟨Nat.lt_of_lt_of_le s.1 (Nat.pow_le_pow_right (by decide) h), Nat.lt_of_lt_of_le s.2 (Nat.pow_le_pow_right (by decide) h)⟩
theorem ind_cover {k d i : Nat} (hk : k < 5) (hd : d ≤ k) (hi : i < k) (hdi : d ≤ i) {l : List Cube} (h : ∀ q ∈ l, Small d q) : Ind (coverT l k) i k := by
  intro x hx b hb
  have hs : ∀ q ∈ l, Small k q := fun q hq => (h q hq).mono hd
  rw [Bool.eq_iff_iff, coverT_bit hk (setb_lt hk hi hx) hs, coverT_bit hk hx hs]
  exact cov_set hk hi hx hb hdi h
/-! the highest input that matters -/
theorem topVar_none {on upper k : Nat} : ∀ {n : Nat}, topVar on upper k n = none → ∀ i, i < n → depT on i k = false ∧ depT upper i k = false
  | 0, _, i, hi => absurd hi (Nat.not_lt_zero _)
  | n + 1, h, i, hi => by
    unfold topVar at h
    split at h
    · cases h
    · rename_i q
      rcases (show i < n ∨ i = n by (first | lia | omega)) with hi | rfl
      · exact topVar_none h i hi
      · simp only [not_or, Bool.not_eq_true] at q; exact q
theorem topVar_some {on upper k i : Nat} : ∀ {n : Nat}, topVar on upper k n = some i → (depT on i k = true ∨ depT upper i k = true) ∧ ∀ j, i < j → j < n → depT on j k = false ∧ depT upper j k = false
  | 0, h => by cases h
  | n + 1, h => by
    unfold topVar at h
    split at h
    · rename_i q
      cases h
      exact ⟨q, fun j h1 h2 => by (first | lia | omega)⟩
    · rename_i q
      obtain ⟨h1, h2⟩ := topVar_some h
      refine ⟨h1, fun j hj hjn => ?_⟩
      rcases (show j < n ∨ j = n by (first | lia | omega)) with hj' | rfl
      · exact h2 j hj hj'
      · simp only [not_or, Bool.not_eq_true] at q; exact q
/-! text M3 -/

theorem lift0_at {i x : Nat} {q : Cube} (h : Small i q) : CubeAt (lift0 i q) x ↔ CubeAt q x ∧ x.testBit i = false := by
  unfold CubeAt lift0
  dsimp only
  have hv : q.2.testBit i = false := bit_lt h.2 (Nat.le_refl _)
  constructor
  · intro z
    refine ⟨fun p hp => z p (by rw [Nat.testBit_or, hp]; rfl), ?_⟩
    have := z i (by rw [Nat.testBit_or, Nat.testBit_two_pow_self, Bool.or_true])
    rw [this, hv]
  · rintro ⟨z1, z2⟩ p hp
    by_cases e : p = i
    · subst e; rw [z2, hv]
    · refine z1 p ?_
      rw [Nat.testBit_or, Nat.testBit_two_pow] at hp
      simpa [Ne.symm e] using hp
theorem lift1_at {i x : Nat} {q : Cube} (h : Small i q) : CubeAt (lift1 i q) x ↔ CubeAt q x ∧ x.testBit i = true := by
  unfold CubeAt lift1
  dsimp only
  have hm : q.1.testBit i = false := bit_lt h.1 (Nat.le_refl _)
  constructor
  · intro z
    refine ⟨fun p hp => ?_, ?_⟩
    · have hpi : p ≠ i := by rintro rfl; rw [hm] at hp; cases hp
      have := z p (by rw [Nat.testBit_or, hp]; rfl)
      rw [this, Nat.testBit_or, Nat.testBit_two_pow, decide_eq_false (Ne.symm hpi), Bool.or_false]
    · have := z i (by rw [Nat.testBit_or, Nat.testBit_two_pow_self, Bool.or_true])
      rw [this, Nat.testBit_or, Nat.testBit_two_pow_self, Bool.or_true]
  · rintro ⟨z1, z2⟩ p hp
    by_cases e : p = i
    · subst e; rw [z2, Nat.testBit_or, Nat.testBit_two_pow_self, Bool.or_true]
    · rw [Nat.testBit_or, Nat.testBit_two_pow, decide_eq_false (Ne.symm e), Bool.or_false] at hp ⊢
      exact z1 p hp
theorem lift0_small {i d : Nat} {q : Cube} (h : Small i q) (hid : i < d) : Small d (lift0 i q) :=
  ⟨Nat.or_lt_two_pow ((h.mono (Nat.le_of_lt hid)).1) (Nat.pow_lt_pow_right (by decide) hid), (h.mono (Nat.le_of_lt hid)).2⟩
theorem lift1_small {i d : Nat} {q : Cube} (h : Small i q) (hid : i < d) : Small d (lift1 i q) :=
  ⟨Nat.or_lt_two_pow ((h.mono (Nat.le_of_lt hid)).1) (Nat.pow_lt_pow_right (by decide) hid), Nat.or_lt_two_pow ((h.mono (Nat.le_of_lt hid)).2) (Nat.pow_lt_pow_right (by decide) hid)⟩
theorem cov_lift0 {i x : Nat} {l : List Cube} (h : ∀ q ∈ l, Small i q) : Cov (l.map (lift0 i)) x ↔ Cov l x ∧ x.testBit i = false := by
  unfold Cov
  constructor
  · rintro ⟨_, hq, hc⟩
    obtain ⟨q, hq', rfl⟩ := List.mem_map.mp hq
    have := (lift0_at (h q hq')).mp hc
    exact ⟨⟨q, hq', this.1⟩, this.2⟩
  · rintro ⟨⟨q, hq, hc⟩, hb⟩
    exact ⟨_, List.mem_map.mpr ⟨q, hq, rfl⟩, (lift0_at (h q hq)).mpr ⟨hc, hb⟩⟩
theorem cov_lift1 {i x : Nat} {l : List Cube} (h : ∀ q ∈ l, Small i q) : Cov (l.map (lift1 i)) x ↔ Cov l x ∧ x.testBit i = true := by
  unfold Cov
  constructor
  · rintro ⟨_, hq, hc⟩
    obtain ⟨q, hq', rfl⟩ := List.mem_map.mp hq
    have := (lift1_at (h q hq')).mp hc
    exact ⟨⟨q, hq', this.1⟩, this.2⟩
  · rintro ⟨⟨q, hq, hc⟩, hb⟩
    exact ⟨_, List.mem_map.mpr ⟨q, hq, rfl⟩, (lift1_at (h q hq)).mpr ⟨hc, hb⟩⟩
theorem cov_append {x : Nat} {l l' : List Cube} : Cov (l ++ l') x ↔ Cov l x ∨ Cov l' x := by
  unfold Cov
  simp only [List.mem_append, or_and_right, exists_or]
theorem bitBool {a b : Bool} (h : a = true → b = true) (h' : b = true → a = true) : a = b := by
  cases a <;> cases b <;> simp_all

structure IsopRight (f on upper k d : Nat) : Prop where
  ok : IsopOk f on upper k
  small : ∀ q ∈ isopF f on upper k, Small d q
  len : (isopF f on upper k).length ≤ 3 ^ d
  low : ∀ x, x < 2 ^ k → on.testBit x = true → Cov (isopF f on upper k) x
  high : ∀ x, x < 2 ^ k → Cov (isopF f on upper k) x → upper.testBit x = true
theorem isop_right {k : Nat} (hk : k < 5) (d : Nat) : d ≤ k → ∀ f on upper, d + 1 ≤ f → on < 2 ^ (2 ^ k) → upper < 2 ^ (2 ^ k) → (∀ x, x < 2 ^ k → on.testBit x = true → upper.testBit x = true) →
    (∀ i, d ≤ i → i < k → Ind on i k ∧ Ind upper i k) → IsopRight f on upper k d := by
  induction d using Nat.strongRecOn with
  | ind d ih =>
  intro hd f on upper hf hon hup hle hind
  obtain ⟨f, rfl⟩ : ∃ f', f = f' + 1 := ⟨f - 1, by (first | lia | omega)⟩
  have h16 := pow16 hk
  have h64 : 2 ^ (2 ^ k) ≤ 2 ^ 16 := Nat.pow_le_pow_right (by decide) h16
  have hon64 : on < 2 ^ 64 := by (first | lia | omega)
  have hup64 : upper < 2 ^ 64 := by (first | lia | omega)
  have h0 : 0 < 2 ^ k := Nat.two_pow_pos k
  by_cases e0 : on = 0
  · have hF : isopF (f + 1) on upper k = [] := by rw [isopF, if_pos e0]
    refine ⟨⟨hon64, hup64, .inl e0⟩, ?_, ?_, ?_, ?_⟩ <;> rw [hF]
    · intro q hq; cases hq
    · simp
    · intro x _ hx; rw [e0] at hx; simp at hx
    · rintro x _ ⟨q, hq, _⟩; cases hq
  by_cases e1 : upper = full k
  · have hF : isopF (f + 1) on upper k = [(0, 0)] := by rw [isopF, if_neg e0, if_pos e1]
    refine ⟨⟨hon64, hup64, .inr (.inl e1)⟩, ?_, ?_, ?_, ?_⟩ <;> rw [hF]
    · intro q hq
      rw [List.mem_singleton.mp hq]
      exact ⟨Nat.two_pow_pos d, Nat.two_pow_pos d⟩
    · simp only [List.length_singleton]; exact Nat.one_le_pow _ _ (by decide)
    · intro x _ _; exact ⟨_, List.mem_singleton.mpr rfl, fun p hp => by simp at hp⟩
    · intro x hx _; rw [e1]; exact fullb hx
  cases ht : topVar on upper k k with
  | none =>
    exfalso
    have hall := topVar_none ht
    have hi : ∀ i, i < k → Ind on i k ∧ Ind upper i k := fun i h => ⟨(dep_ind hk h hon).mp (hall i h).1, (dep_ind hk h hup).mp (hall i h).2⟩
    have c1 := fun {x} (h : x < 2 ^ k) => ind_const hk (fun i h => (hi i h).1) h
    have c2 := fun {x} (h : x < 2 ^ k) => ind_const hk (fun i h => (hi i h).2) h
    cases hz : on.testBit 0 with
    | false =>
      refine e0 (ext_bits hon (Nat.two_pow_pos _) fun x hx => ?_)
      rw [c1 hx, hz, Nat.zero_testBit]
    | true =>
      have hu := hle 0 h0 hz
      refine e1 (ext_bits hup (full_lt' k) fun x hx => ?_)
      rw [c2 hx, hu, fullb hx]
  | some i =>
    have hik := topVar_lt ht
    obtain ⟨hdep, hmax⟩ := topVar_some ht
    have hid : i < d := by
      rcases Nat.lt_or_ge i d with z | z
      · exact z
      · obtain ⟨a, b⟩ := hind i z hik
        rw [(dep_ind hk hik hon).mpr a, (dep_ind hk hik hup).mpr b] at hdep
        rcases hdep with h | h <;> cases h
    have hoth : ∀ j, i < j → j < k → Ind on j k ∧ Ind upper j k := fun j h1 h2 => ⟨(dep_ind hk h2 hon).mp (hmax j h1 h2).1, (dep_ind hk h2 hup).mp (hmax j h1 h2).2⟩
    have o0 := cof_lt (b := 0) hk hik hon (by decide)
    have o1 := cof_lt (b := 1) hk hik hon (by decide)
    have u0 := cof_lt (b := 0) hk hik hup (by decide)
    have u1 := cof_lt (b := 1) hk hik hup (by decide)
    have bo : ∀ {b x}, b ≤ 1 → x < 2 ^ k → (cofT on i b k).testBit x = on.testBit (setb x i b) := fun hb hx => cof_bit hk hik hon hb hx
    have bu : ∀ {b x}, b ≤ 1 → x < 2 ^ k → (cofT upper i b k).testBit x = upper.testBit (setb x i b) := fun hb hx => cof_bit hk hik hup hb hx
    have lecof : ∀ {b x}, b ≤ 1 → x < 2 ^ k → (cofT on i b k).testBit x = true → (cofT upper i b k).testBit x = true := fun hb hx h => by
      rw [bu hb hx]; rw [bo hb hx] at h; exact hle _ (setb_lt hk hik hx) h
    have indc : ∀ {t b}, t < 2 ^ (2 ^ k) → b ≤ 1 → (∀ j, i < j → j < k → Ind t j k) → ∀ j, i ≤ j → j < k → Ind (cofT t i b k) j k := fun {t b} htt hb h j h1 h2 => by
      rcases (show j = i ∨ i < j by (first | lia | omega)) with h3 | h3
      · rw [h3]; exact ind_cof_self hk hik htt hb
      · exact ind_cof_other hk hik h2 (by (first | lia | omega)) htt hb (h j h3 h2)
    have io : ∀ {b}, b ≤ 1 → ∀ j, i ≤ j → j < k → Ind (cofT on i b k) j k := fun hb => indc hon hb fun j a b => (hoth j a b).1
    have iu : ∀ {b}, b ≤ 1 → ∀ j, i ≤ j → j < k → Ind (cofT upper i b k) j k := fun hb => indc hup hb fun j a b => (hoth j a b).2
    have R0 : IsopRight f (sub0on on upper i k) (cofT upper i 0 k) k i := by
      refine ih i hid (by (first | lia | omega)) f _ _ (by (first | lia | omega)) (Nat.and_lt_two_pow _ (not_lt' u1)) u0 (fun x hx h => ?_) fun j h1 h2 => ⟨(io (by decide) j h1 h2).and ((iu (by decide) j h1 h2).not hk h2), iu (by decide) j h1 h2⟩
      unfold sub0on at h
      rw [Nat.testBit_and, Bool.and_eq_true] at h
      exact lecof (by decide) hx h.1
    have R1 : IsopRight f (sub1on on upper i k) (cofT upper i 1 k) k i := by
      refine ih i hid (by (first | lia | omega)) f _ _ (by (first | lia | omega)) (Nat.and_lt_two_pow _ (not_lt' u0)) u1 (fun x hx h => ?_) fun j h1 h2 => ⟨(io (by decide) j h1 h2).and ((iu (by decide) j h1 h2).not hk h2), iu (by decide) j h1 h2⟩
      unfold sub1on at h
      rw [Nat.testBit_and, Bool.and_eq_true] at h
      exact lecof (by decide) hx h.1
    have s0 : ∀ q ∈ isopF f (sub0on on upper i k) (cofT upper i 0 k) k, Small k q := fun q hq => (R0.small q hq).mono (by (first | lia | omega))
    have s1 : ∀ q ∈ isopF f (sub1on on upper i k) (cofT upper i 1 k) k, Small k q := fun q hq => (R1.small q hq).mono (by (first | lia | omega))
    have b0 := fun {x} (hx : x < 2 ^ k) => coverT_bit hk hx s0
    have b1 := fun {x} (hx : x < 2 ^ k) => coverT_bit hk hx s1
    have ic0 : ∀ j, i ≤ j → j < k → Ind (coverT (isopF f (sub0on on upper i k) (cofT upper i 0 k) k) k) j k := fun j h1 h2 => ind_cover hk (by (first | lia | omega)) h2 h1 R0.small
    have ic1 : ∀ j, i ≤ j → j < k → Ind (coverT (isopF f (sub1on on upper i k) (cofT upper i 1 k) k) k) j k := fun j h1 h2 => ind_cover hk (by (first | lia | omega)) h2 h1 R1.small
    have low0 := R0.low
    have low1 := R1.low
    have high0 := R0.high
    have high1 := R1.high
    have len0 := R0.len
    have len1 := R1.len
    have ok0 := R0.ok
    have ok1 := R1.ok
    have sm0 := R0.small
    have sm1 := R1.small
    clear R0 R1
    have hF : isopF (f + 1) on upper k = (isopF f (sub0on on upper i k) (cofT upper i 0 k) k).map (lift0 i) ++ (isopF f (sub1on on upper i k) (cofT upper i 1 k) k).map (lift1 i) ++
        isopF f (sub2on on upper i k (isopF f (sub0on on upper i k) (cofT upper i 0 k) k) (isopF f (sub1on on upper i k) (cofT upper i 1 k) k)) (sub2up upper i k) k := by
      rw [isopF, if_neg e0, if_neg e1, ht]
    have hOk : IsopOk f (sub2on on upper i k (isopF f (sub0on on upper i k) (cofT upper i 0 k) k) (isopF f (sub1on on upper i k) (cofT upper i 1 k) k)) (sub2up upper i k) k → IsopOk (f + 1) on upper k := fun h =>
      ⟨hon64, hup64, .inr (.inr ⟨i, ht, ok0, ok1, h⟩)⟩
    generalize isopF f (sub0on on upper i k) (cofT upper i 0 k) k = c0 at *
    generalize isopF f (sub1on on upper i k) (cofT upper i 1 k) k = c1 at *
    have r0 : ∀ {x}, x < 2 ^ k → (cofT on i 0 k).testBit x = true → Cov c0 x ∨ ((cofT upper i 0 k).testBit x = true ∧ (cofT upper i 1 k).testBit x = true) := fun {x} hx h => by
      cases hu : (cofT upper i 1 k).testBit x with
      | true => exact .inr ⟨lecof (by decide) hx h, rfl⟩
      | false =>
        refine .inl (low0 x hx ?_)
        unfold sub0on
        rw [Nat.testBit_and, notb hx, h, hu]; rfl
    have r1 : ∀ {x}, x < 2 ^ k → (cofT on i 1 k).testBit x = true → Cov c1 x ∨ ((cofT upper i 0 k).testBit x = true ∧ (cofT upper i 1 k).testBit x = true) := fun {x} hx h => by
      cases hu : (cofT upper i 0 k).testBit x with
      | true => exact .inr ⟨rfl, lecof (by decide) hx h⟩
      | false =>
        refine .inl (low1 x hx ?_)
        unfold sub1on
        rw [Nat.testBit_and, notb hx, h, hu]; rfl
    have n0 : ∀ {x}, x < 2 ^ k → ((full k ^^^ coverT c0 k).testBit x = true ↔ ¬ Cov c0 x) := fun {x} hx => by
      rw [notb hx, ← b0 hx]; simp
    have n1 : ∀ {x}, x < 2 ^ k → ((full k ^^^ coverT c1 k).testBit x = true ↔ ¬ Cov c1 x) := fun {x} hx => by
      rw [notb hx, ← b1 hx]; simp
    have R2 : IsopRight f (sub2on on upper i k c0 c1) (sub2up upper i k) k i := by
      refine ih i hid (by (first | lia | omega)) f _ _ (by (first | lia | omega)) (Nat.or_lt_two_pow (Nat.lt_of_le_of_lt Nat.and_le_left o0) (Nat.lt_of_le_of_lt Nat.and_le_left o1)) (Nat.and_lt_two_pow _ u1) (fun x hx h => ?_) fun j h1 h2 =>
        ⟨((io (by decide) j h1 h2).and ((ic0 j h1 h2).not hk h2)).or ((io (by decide) j h1 h2).and ((ic1 j h1 h2).not hk h2)), (iu (by decide) j h1 h2).and (iu (by decide) j h1 h2)⟩
      unfold sub2on at h
      rw [Nat.testBit_or, Bool.or_eq_true, Nat.testBit_and, Nat.testBit_and, Bool.and_eq_true, Bool.and_eq_true, n0 hx, n1 hx] at h
      unfold sub2up
      rw [Nat.testBit_and, Bool.and_eq_true]
      rcases h with ⟨a, b⟩ | ⟨a, b⟩
      · exact (r0 hx a).resolve_left b
      · exact (r1 hx a).resolve_left b
    refine ⟨hOk R2.ok, ?_, ?_, ?_, ?_⟩ <;> rw [hF]
    · intro q hq
      rcases List.mem_append.mp hq with hq | hq
      · rcases List.mem_append.mp hq with hq | hq
        · obtain ⟨q, hq', rfl⟩ := List.mem_map.mp hq; exact lift0_small (sm0 q hq') hid
        · obtain ⟨q, hq', rfl⟩ := List.mem_map.mp hq; exact lift1_small (sm1 q hq') hid
      · exact (R2.small q hq).mono (by (first | lia | omega))
    · simp only [List.length_append, List.length_map]
      have l2 := R2.len
      have : 3 ^ (i + 1) ≤ 3 ^ d := Nat.pow_le_pow_right (by decide) (by (first | lia | omega))
      rw [Nat.pow_succ] at this
      (first | lia | omega)
    · intro x hx h
      rw [cov_append, cov_append, cov_lift0 sm0, cov_lift1 sm1]
      have hself := setb_self (x := x) (i := i)
      have c2 : (cofT on i 0 k).testBit x = true ∧ ¬ Cov c0 x ∨ (cofT on i 1 k).testBit x = true ∧ ¬ Cov c1 x → Cov (isopF f (sub2on on upper i k c0 c1) (sub2up upper i k) k) x := fun z => by
        refine R2.low x hx ?_
        unfold sub2on
        rw [Nat.testBit_or, Bool.or_eq_true, Nat.testBit_and, Nat.testBit_and, Bool.and_eq_true, Bool.and_eq_true, n0 hx, n1 hx]
        exact z
      cases hb : x.testBit i with
      | false =>
        rw [hb] at hself
        have ho : (cofT on i 0 k).testBit x = true := by rw [bo (by decide) hx]; rw [show setb x i 0 = x from hself]; exact h
        by_cases hc : Cov c0 x
        · exact .inl (.inl ⟨hc, rfl⟩)
        · exact .inr (c2 (.inl ⟨ho, hc⟩))
      | true =>
        rw [hb] at hself
        have ho : (cofT on i 1 k).testBit x = true := by rw [bo (by decide) hx]; rw [show setb x i 1 = x from hself]; exact h
        by_cases hc : Cov c1 x
        · exact .inl (.inr ⟨hc, rfl⟩)
        · exact .inr (c2 (.inr ⟨ho, hc⟩))
    · intro x hx h
      rw [cov_append, cov_append, cov_lift0 sm0, cov_lift1 sm1] at h
      have hself := setb_self (x := x) (i := i)
      rcases h with (⟨hc, hb⟩ | ⟨hc, hb⟩) | hc
      · rw [hb] at hself
        have := high0 x hx hc
        rw [bu (by decide) hx, show setb x i 0 = x from hself] at this
        exact this
      · rw [hb] at hself
        have := high1 x hx hc
        rw [bu (by decide) hx, show setb x i 1 = x from hself] at this
        exact this
      · have := R2.high x hx hc
        unfold sub2up at this
        rw [Nat.testBit_and, Bool.and_eq_true, bu (by decide) hx, bu (by decide) hx] at this
        cases hb : x.testBit i with
        | false =>
          rw [hb] at hself
          rw [show setb x i 0 = x from hself] at this
          exact this.1
        | true =>
          rw [hb] at hself
          rw [show setb x i 1 = x from hself] at this
          exact this.2
/-! text M4 -/

noncomputable def popTo (m : Nat) : Nat → Nat
  | 0 => 0
  | p + 1 => popTo m p + (m.testBit p).toNat
noncomputable def wt (c : Cube) : Nat := 1 + popTo c.1 4
noncomputable def mu (l : List Cube) : Nat := (l.map wt).sum
theorem mu_cons (c : Cube) (l : List Cube) : mu (c :: l) = wt c + mu l := by unfold mu; rw [List.map_cons, List.sum_cons]
theorem mu_append (l l' : List Cube) : mu (l ++ l') = mu l + mu l' := by unfold mu; rw [List.map_append, List.sum_append]
theorem mu_split (n : Nat) (l : List Cube) : mu (l.take n) + mu (l.drop n) = mu l := by rw [← mu_append, List.take_append_drop]
theorem mu_filter (h : Cube → Bool) : ∀ l : List Cube, mu (l.filter h) + mu (l.filter fun c => !h c) = mu l
  | [] => rfl
  | c :: l => by
    have ih := mu_filter h l
    cases q : h c with
    | true => rw [List.filter_cons_of_pos q, List.filter_cons_of_neg (by simp [q]), mu_cons, mu_cons]; (first | lia | omega)
    | false => rw [List.filter_cons_of_neg (by simp [q]), List.filter_cons_of_pos (by simp [q]), mu_cons, mu_cons]; (first | lia | omega)
theorem mu_len : ∀ l : List Cube, l.length ≤ mu l
  | [] => Nat.le_refl _
  | c :: l => by have := mu_len l; rw [mu_cons, List.length_cons]; unfold wt; (first | lia | omega)
theorem popTo_le (m : Nat) : ∀ n, popTo m n ≤ n
  | 0 => Nat.le_refl _
  | n + 1 => by have := popTo_le m n; have := toNatLe (m.testBit n); rw [popTo]; (first | lia | omega)
theorem mu_le : ∀ l : List Cube, mu l ≤ 5 * l.length
  | [] => Nat.le_refl _
  | c :: l => by have := mu_le l; have := popTo_le c.1 4; rw [mu_cons, List.length_cons]; unfold wt; (first | lia | omega)
theorem cut_bit (m p r : Nat) : (andNot m (2 ^ p)).testBit r = (m.testBit r && !decide (p = r)) := by rw [andNot_bit, Nat.testBit_two_pow]
theorem popTo_ge {m p : Nat} : ∀ n, n ≤ p → popTo (andNot m (2 ^ p)) n = popTo m n
  | 0, _ => rfl
  | n + 1, h => by
    rw [popTo, popTo, popTo_ge n (by (first | lia | omega)), cut_bit, decide_eq_false (by (first | lia | omega)), Bool.not_false, Bool.and_true]
theorem popTo_cut {m p : Nat} (hm : m.testBit p = true) : ∀ n, p < n → popTo (andNot m (2 ^ p)) n + 1 = popTo m n
  | 0, h => absurd h (Nat.not_lt_zero _)
  | n + 1, h => by
    rw [popTo, popTo, cut_bit]
    by_cases e : p = n
    · subst e
      rw [popTo_ge p (Nat.le_refl _), hm]; simp
    · rw [decide_eq_false e, Bool.not_false, Bool.and_true]
      have := popTo_cut hm n (by (first | lia | omega))
      (first | lia | omega)
theorem cut_wt {p s : Nat} {c : Cube} (h : hasLit p s c = true) (hp : p < 4) : wt (cutLit p c) + 1 = wt c := by
  unfold hasLit at h
  rw [Bool.and_eq_true] at h
  have := popTo_cut h.1 4 hp
  unfold wt cutLit
  dsimp only
  (first | lia | omega)
theorem mu_cut {p s : Nat} (hp : p < 4) : ∀ l : List Cube, (∀ c ∈ l, hasLit p s c = true) → mu (l.map (cutLit p)) + l.length = mu l
  | [], _ => rfl
  | c :: l, h => by
    have ih := mu_cut hp l fun c' h' => h c' (.tail _ h')
    have := cut_wt (h c (.head _)) hp
    rw [List.map_cons, mu_cons, mu_cons, List.length_cons]; (first | lia | omega)
theorem mu_quot {b : Best} {l : List Cube} (hp : b.2.1 < 4) : mu (quot b l) + cnt l b.2.1 b.2.2 + mu (restOf b l) = mu l := by
  have h1 := mu_cut hp (l.filter (hasLit b.2.1 b.2.2)) fun c hc => (List.mem_filter.mp hc).2
  have h2 := mu_filter (hasLit b.2.1 b.2.2) l
  unfold quot restOf cnt
  (first | lia | omega)
/-! the best literal -/
theorem best_inv (l : List Cube) : ∀ n, ((bestTo l n).1 = 0 ∨ ((bestTo l n).2.1 < n ∧ (bestTo l n).2.2 ≤ 1 ∧ (bestTo l n).1 = cnt l (bestTo l n).2.1 (bestTo l n).2.2)) ∧ ∀ p, p < n → ∀ s, s ≤ 1 → cnt l p s ≤ (bestTo l n).1
  | 0 => ⟨.inl rfl, fun p hp => absurd hp (Nat.not_lt_zero _)⟩
  | n + 1 => by
    obtain ⟨h1, h2⟩ := best_inv l n
    have step : ∀ (b : Best) (s : Nat), s ≤ 1 → (b.1 = 0 ∨ (b.2.1 < n + 1 ∧ b.2.2 ≤ 1 ∧ b.1 = cnt l b.2.1 b.2.2)) →
        ((better l n b s).1 = 0 ∨ ((better l n b s).2.1 < n + 1 ∧ (better l n b s).2.2 ≤ 1 ∧ (better l n b s).1 = cnt l (better l n b s).2.1 (better l n b s).2.2)) ∧ b.1 ≤ (better l n b s).1 ∧ cnt l n s ≤ (better l n b s).1 := by
      intro b s hs hb
      unfold better
      split
      · exact ⟨.inr ⟨by dsimp only; (first | lia | omega), hs, rfl⟩, by dsimp only; (first | lia | omega), Nat.le_refl _⟩
      · exact ⟨hb, Nat.le_refl _, by (first | lia | omega)⟩
    have a := step (bestTo l n) 0 (by (first | lia | omega)) (h1.imp id fun ⟨x, y⟩ => ⟨by (first | lia | omega), y⟩)
    have b := step _ 1 (by (first | lia | omega)) a.1
    rw [bestTo]
    refine ⟨b.1, fun p hp s hs => ?_⟩
    rcases (show p < n ∨ p = n by (first | lia | omega)) with hp | rfl
    · have := h2 p hp s hs; (first | lia | omega)
    · rcases (show s = 0 ∨ s = 1 by (first | lia | omega)) with rfl | rfl
      · (first | lia | omega)
      · exact b.2.2
theorem best_pos {l : List Cube} {k : Nat} {c : Cube} (hc : c ∈ l) (h0 : c.1 ≠ 0) (hk : c.1 < 2 ^ k) : 1 ≤ (bestTo l k).1 := by
  obtain ⟨p, hp⟩ : ∃ p, c.1.testBit p = true := by
    apply Classical.byContradiction
    intro h
    refine h0 (Nat.eq_of_testBit_eq fun i => ?_)
    rw [Nat.zero_testBit]
    cases q : c.1.testBit i with
    | false => rfl
    | true => exact absurd ⟨i, q⟩ h
  have hpk : p < k := by
    rcases Nat.lt_or_ge p k with z | z
    · exact z
    · rw [bit_lt hk z] at hp; cases hp
  have h2 := (best_inv l k).2 p hpk (c.2.testBit p).toNat (toNatLe _)
  have : 1 ≤ cnt l p (c.2.testBit p).toNat := by
    unfold cnt
    refine List.length_pos_of_mem (List.mem_filter.mpr ⟨hc, ?_⟩)
    unfold hasLit
    simp [hp]
  (first | lia | omega)
/-! trees -/
theorem Tree.dep_pos (t : Tree) : 1 ≤ t.dep := by cases t <;> simp [Tree.dep]
noncomputable def optAt (x : Nat) : Option Tree → Bool
  | none => true
  | some t => t.at_ x
theorem chain_sem (m v x : Nat) : ∀ n, optAt x (chainT m v n) = true ↔ ∀ p, p < n → m.testBit p = true → x.testBit p = v.testBit p
  | 0 => by simp [chainT, optAt]
  | n + 1 => by
    have ih := chain_sem m v x n
    have step : (∀ p, p < n + 1 → m.testBit p = true → x.testBit p = v.testBit p) ↔ (∀ p, p < n → m.testBit p = true → x.testBit p = v.testBit p) ∧ (m.testBit n = true → x.testBit n = v.testBit n) := by
      constructor
      · exact fun h => ⟨fun p hp => h p (by (first | lia | omega)), h n (by (first | lia | omega))⟩
      · rintro ⟨h1, h2⟩ p hp
        rcases (show p < n ∨ p = n by (first | lia | omega)) with hp | rfl
        · exact h1 p hp
        · exact h2
    have hbit : ∀ a b : Bool, (decide (a.toNat = b.toNat) = true) ↔ a = b := by intro a b; cases a <;> cases b <;> simp
    rw [step, ← ih, chainT]
    split
    · rename_i hm
      cases q : chainT m v n with
      | none => simp only [optAt, Tree.at_, hbit, hm, true_and, forall_const]
      | some t => simp only [optAt, Tree.at_, Bool.and_eq_true, hbit, hm, forall_const]
    · rename_i hm
      simp [hm]
theorem chain_ok {k m v : Nat} (hm : m < 2 ^ k) : ∀ n t, chainT m v n = some t → t.ok k ∧ t.dep ≤ popTo m n ∧ t.cost + 1 ≤ popTo m n
  | 0, t, h => by cases h
  | n + 1, t, h => by
    rw [chainT] at h
    rw [popTo]
    split at h
    · rename_i hb
      have hn : n < k := by
        rcases Nat.lt_or_ge n k with z | z
        · exact z
        · rw [bit_lt hm z] at hb; cases hb
      rw [hb]
      cases q : chainT m v n with
      | none =>
        rw [q] at h
        cases h
        exact ⟨⟨hn, toNatLe _⟩, by simp [Tree.dep], by simp [Tree.cost]⟩
      | some u =>
        rw [q] at h
        cases h
        obtain ⟨a, b, c⟩ := chain_ok hm n u q
        have := u.dep_pos
        refine ⟨⟨a, hn, toNatLe _⟩, ?_, ?_⟩
        · simp only [Tree.dep, Bool.toNat_true]; (first | lia | omega)
        · simp only [Tree.cost, Bool.toNat_true]; (first | lia | omega)
    · have := chain_ok hm n t h
      have := Nat.zero_le (m.testBit n).toNat
      exact ⟨(chain_ok hm n t h).1, by (first | lia | omega), by (first | lia | omega)⟩
/-! text M5 -/

theorem cov_filter {x : Nat} (h : Cube → Bool) {l : List Cube} : Cov l x ↔ Cov (l.filter h) x ∨ Cov (l.filter fun c => !h c) x := by
  unfold Cov
  constructor
  · rintro ⟨q, hq, hc⟩
    cases e : h q with
    | true => exact .inl ⟨q, List.mem_filter.mpr ⟨hq, e⟩, hc⟩
    | false => exact .inr ⟨q, List.mem_filter.mpr ⟨hq, by simp [e]⟩, hc⟩
  · rintro (⟨q, hq, hc⟩ | ⟨q, hq, hc⟩)
    · exact ⟨q, (List.mem_filter.mp hq).1, hc⟩
    · exact ⟨q, (List.mem_filter.mp hq).1, hc⟩
theorem bitN (a b : Bool) : (decide (a.toNat = b.toNat) = true) ↔ a = b := by cases a <;> cases b <;> simp
theorem cut_at {p s x : Nat} {c : Cube} (h : hasLit p s c = true) : CubeAt c x ↔ (x.testBit p).toNat = s ∧ CubeAt (cutLit p c) x := by
  unfold hasLit at h
  rw [Bool.and_eq_true, decide_eq_true_eq] at h
  obtain ⟨h1, h2⟩ := h
  unfold CubeAt cutLit
  dsimp only
  constructor
  · intro z
    refine ⟨by rw [z p h1, h2], fun r hr => ?_⟩
    rw [cut_bit, Bool.and_eq_true] at hr
    rw [cut_bit, hr.2, Bool.and_true]
    exact z r hr.1
  · rintro ⟨z1, z2⟩ r hr
    by_cases e : p = r
    · subst e
      rw [← h2] at z1
      exact (bitN _ _).mp (by rw [z1]; simp)
    · have := z2 r (by rw [cut_bit, hr, decide_eq_false e]; rfl)
      rw [cut_bit, decide_eq_false e, Bool.not_false, Bool.and_true] at this
      exact this
theorem cov_quot {x : Nat} {b : Best} {l : List Cube} : Cov (l.filter (hasLit b.2.1 b.2.2)) x ↔ (x.testBit b.2.1).toNat = b.2.2 ∧ Cov (quot b l) x := by
  unfold Cov quot
  constructor
  · rintro ⟨q, hq, hc⟩
    have := (cut_at (List.mem_filter.mp hq).2).mp hc
    exact ⟨this.1, _, List.mem_map.mpr ⟨q, hq, rfl⟩, this.2⟩
  · rintro ⟨h1, q, hq, hc⟩
    obtain ⟨q, hq', rfl⟩ := List.mem_map.mp hq
    exact ⟨q, hq', (cut_at (List.mem_filter.mp hq').2).mpr ⟨h1, hc⟩⟩
theorem join_at {x : Nat} {a b : Tree} : (joinAnd a b).at_ x = (a.at_ x && b.at_ x) := by
  unfold joinAnd
  split
  · rename_i e; rw [e]; simp [Tree.at_]
  · rfl
theorem join_ok {k : Nat} {a b : Tree} (ha : a.ok k) (hb : b.ok k) : (joinAnd a b).ok k := by
  unfold joinAnd
  split
  · exact ha
  · exact ⟨ha, hb⟩
theorem join_dep {p s : Nat} {b : Tree} : (joinAnd (.lit p s) b).dep ≤ b.dep + 1 := by
  have := b.dep_pos
  unfold joinAnd
  split
  · simp only [Tree.dep]; (first | lia | omega)
  · simp only [Tree.dep]; (first | lia | omega)
theorem join_cost {p s : Nat} {b : Tree} : (joinAnd (.lit p s) b).cost ≤ b.cost + 1 := by
  unfold joinAnd
  split
  · simp only [Tree.cost]; (first | lia | omega)
  · simp only [Tree.cost]; (first | lia | omega)
theorem cut_lt {k p : Nat} {c : Cube} (h : c.1 < 2 ^ k) : (cutLit p c).1 < 2 ^ k := by
  refine lt_of_bits fun x hx => ?_
  show (andNot c.1 (2 ^ p)).testBit x = false
  rw [cut_bit, bit_lt h hx]; rfl
structure FactorRight (f : Nat) (l : List Cube) (k : Nat) : Prop where
  fok : FactorOk f l k
  dep : (factorF f l k).dep ≤ max (mu l) 1
  cost : (factorF f l k).cost + 1 ≤ max (mu l) 1
  ok : (factorF f l k).ok k
  sem : ∀ x, (factorF f l k).at_ x = true ↔ Cov l x
theorem cov_one {x : Nat} {c : Cube} : Cov [c] x ↔ CubeAt c x := by simp [Cov]
theorem mu_pos {l : List Cube} (h : l ≠ []) : 1 ≤ mu l := by
  have := mu_len l
  have := List.length_pos_iff.mpr h
  (first | lia | omega)
theorem chain_full {k : Nat} (hk : k < 5) {q : Cube} (hq : q.1 < 2 ^ k) : (chain q).ok k ∧ (chain q).dep ≤ wt q ∧ (chain q).cost + 1 ≤ wt q ∧ ∀ x, (chain q).at_ x = true ↔ CubeAt q x := by
  have h := chain_sem q.1 q.2
  have h' : ∀ x, (∀ p, p < 4 → q.1.testBit p = true → x.testBit p = q.2.testBit p) ↔ CubeAt q x := by
    intro x
    refine ⟨fun z p hp => ?_, fun z p _ hp => z p hp⟩
    refine z p ?_ hp
    rcases Nat.lt_or_ge p k with y | y
    · (first | lia | omega)
    · rw [bit_lt hq y] at hp; cases hp
  unfold chain wt
  cases e : chainT q.1 q.2 4 with
  | none =>
    refine ⟨trivial, ?_, ?_, fun x => ?_⟩
    · simp only [Option.getD, Tree.dep]; (first | lia | omega)
    · simp only [Option.getD, Tree.cost]; (first | lia | omega)
    · rw [← h', ← h x 4, e]; rfl
  | some t =>
    obtain ⟨a, b, c⟩ := chain_ok hq 4 t e
    refine ⟨a, ?_, ?_, fun x => ?_⟩
    · simp only [Option.getD]; (first | lia | omega)
    · simp only [Option.getD]; (first | lia | omega)
    · rw [← h', ← h x 4, e]; rfl
theorem factor_right {k : Nat} (hk : k < 5) : ∀ (f : Nat) (l : List Cube), mu l < f → (∀ q ∈ l, q.1 < 2 ^ k) → l.length ≤ 10000 → FactorRight f l k
  | 0, l, h, _, _ => absurd h (Nat.not_lt_zero _)
  | f + 1, l, hf, hm, hlen => by
    have h16 := pow16 hk
    have hm' : ∀ c ∈ l, c.1 < 16 := fun c hc => Nat.lt_of_lt_of_le (hm c hc) h16
    by_cases e0 : l = []
    · have e : factorF (f + 1) l k = .zero := by rw [factorF, if_pos e0]
      refine ⟨⟨hlen, hm', .inl e0⟩, ?_, ?_, ?_, ?_⟩ <;> rw [e]
      · simp only [Tree.dep]; (first | lia | omega)
      · simp only [Tree.cost]; (first | lia | omega)
      · trivial
      · intro x; subst e0; simp [Tree.at_, Cov]
    by_cases e1 : ∃ c ∈ l, c.1 = 0
    · have e : factorF (f + 1) l k = .one := by rw [factorF, if_neg e0, if_pos e1]
      refine ⟨⟨hlen, hm', .inr (.inl e1)⟩, ?_, ?_, ?_, ?_⟩ <;> rw [e]
      · simp only [Tree.dep]; (first | lia | omega)
      · simp only [Tree.cost]; (first | lia | omega)
      · trivial
      · intro x
        obtain ⟨c, hc, h0⟩ := e1
        refine ⟨fun _ => ⟨c, hc, fun p hp => ?_⟩, fun _ => rfl⟩
        rw [h0, Nat.zero_testBit] at hp; cases hp
    by_cases e2 : l.length = 1
    · obtain ⟨c, rfl⟩ := List.length_eq_one_iff.mp e2
      have e : factorF (f + 1) [c] k = chain c := by rw [factorF, if_neg e0, if_neg e1, if_pos e2]; rfl
      obtain ⟨a, b, d, s⟩ := chain_full hk (hm c (.head _))
      have : mu [c] = wt c := by simp [mu]
      refine ⟨⟨hlen, hm', .inr (.inr (.inl e2))⟩, ?_, ?_, ?_, ?_⟩ <;> rw [e]
      · (first | lia | omega)
      · (first | lia | omega)
      · exact a
      · intro x; rw [cov_one]; exact s x
    have l2 : 2 ≤ l.length := by have := List.length_pos_iff.mpr e0; (first | lia | omega)
    have e1' : ∀ c ∈ l, c.1 ≠ 0 := fun c hc h => e1 ⟨c, hc, h⟩
    obtain ⟨c0, hc0⟩ := List.exists_mem_of_ne_nil l e0
    have b1 := best_pos hc0 (e1' c0 hc0) (hm c0 hc0)
    by_cases e3 : (bestTo l k).1 = 1
    · have e : factorF (f + 1) l k = .or (factorF f (l.take (l.length / 2)) k) (factorF f (l.drop (l.length / 2)) k) := by rw [factorF, if_neg e0, if_neg e1, if_neg e2, if_pos e3]
      have hs := mu_split (l.length / 2) l
      have pa := mu_len (l.take (l.length / 2))
      have pb := mu_len (l.drop (l.length / 2))
      rw [List.length_take] at pa
      rw [List.length_drop] at pb
      have A := factor_right hk f (l.take (l.length / 2)) (by (first | lia | omega)) (fun q hq => hm q (List.mem_of_mem_take hq)) (by rw [List.length_take]; (first | lia | omega))
      have B := factor_right hk f (l.drop (l.length / 2)) (by (first | lia | omega)) (fun q hq => hm q (List.mem_of_mem_drop hq)) (by rw [List.length_drop]; (first | lia | omega))
      have dA := A.dep
      have cA := A.cost
      have dB := B.dep
      have cB := B.cost
      refine ⟨⟨hlen, hm', .inr (.inr (.inr (.inl ⟨e3, A.fok, B.fok⟩)))⟩, ?_, ?_, ?_, ?_⟩ <;> rw [e]
      · simp only [Tree.dep]; (first | lia | omega)
      · simp only [Tree.cost]; (first | lia | omega)
      · exact ⟨A.ok, B.ok⟩
      · intro x
        simp only [Tree.at_, Bool.or_eq_true]
        rw [A.sem, B.sem, ← cov_append, List.take_append_drop]
    · obtain ⟨hp, hs1, hcnt⟩ := (best_inv l k).1.resolve_left (by (first | lia | omega))
      generalize hb : bestTo l k = b at *
      have hmu := mu_quot (b := b) (l := l) (by (first | lia | omega))
      have hql : (quot b l).length = cnt l b.2.1 b.2.2 := by unfold quot cnt; rw [List.length_map]
      have hqm := mu_len (quot b l)
      have hrl : (restOf b l).length ≤ l.length := List.length_filter_le _ _
      have hcl : cnt l b.2.1 b.2.2 ≤ l.length := List.length_filter_le _ _
      have A := factor_right hk f (quot b l) (by (first | lia | omega)) (fun q hq => by
        unfold quot at hq
        obtain ⟨q, hq', rfl⟩ := List.mem_map.mp hq
        exact cut_lt (hm q (List.mem_filter.mp hq').1)) (by (first | lia | omega))
      have B := factor_right hk f (restOf b l) (by (first | lia | omega)) (fun q hq => hm q (List.mem_filter.mp hq).1) (by (first | lia | omega))
      have dA := A.dep
      have cA := A.cost
      have dB := B.dep
      have cB := B.cost
      have dj := join_dep (p := b.2.1) (s := b.2.2) (b := factorF f (quot b l) k)
      have cj := join_cost (p := b.2.1) (s := b.2.2) (b := factorF f (quot b l) k)
      have hlit : ∀ x, (Tree.lit b.2.1 b.2.2).at_ x = true ↔ (x.testBit b.2.1).toNat = b.2.2 := fun x => by simp [Tree.at_]
      have fok : FactorOk (f + 1) l k := ⟨hlen, hm', .inr (.inr (.inr (.inr ⟨by rw [hb]; exact e3, by rw [hb]; (first | lia | omega), by rw [hb]; exact A.fok, .inr (by rw [hb]; exact B.fok)⟩)))⟩
      by_cases er : restOf b l = []
      · have e : factorF (f + 1) l k = joinAnd (.lit b.2.1 b.2.2) (factorF f (quot b l) k) := by rw [factorF, if_neg e0, if_neg e1, if_neg e2, hb, if_neg e3, if_pos er]
        refine ⟨fok, ?_, ?_, ?_, ?_⟩ <;> rw [e]
        · (first | lia | omega)
        · (first | lia | omega)
        · exact join_ok ⟨hp, hs1⟩ A.ok
        · intro x
          rw [join_at, Bool.and_eq_true, hlit, A.sem, ← cov_quot]
          refine Iff.trans ?_ (cov_filter (x := x) (hasLit b.2.1 b.2.2) (l := l)).symm
          refine ⟨.inl, fun z => z.resolve_right ?_⟩
          have er' : (l.filter fun c => !hasLit b.2.1 b.2.2 c) = [] := er
          rw [er']
          simp [Cov]
      · have e : factorF (f + 1) l k = .or (joinAnd (.lit b.2.1 b.2.2) (factorF f (quot b l) k)) (factorF f (restOf b l) k) := by rw [factorF, if_neg e0, if_neg e1, if_neg e2, hb, if_neg e3, if_neg er]
        have pr := mu_pos er
        refine ⟨fok, ?_, ?_, ?_, ?_⟩ <;> rw [e]
        · simp only [Tree.dep]; (first | lia | omega)
        · simp only [Tree.cost]; (first | lia | omega)
        · exact ⟨join_ok ⟨hp, hs1⟩ A.ok, B.ok⟩
        · intro x
          simp only [Tree.at_]
          rw [Bool.or_eq_true, join_at, Bool.and_eq_true, hlit, A.sem, B.sem, ← cov_quot]
          exact (cov_filter (x := x) (hasLit b.2.1 b.2.2) (l := l)).symm
theorem HT (k t : Nat) (h1 : 1 ≤ k) (h4 : k ≤ 4) (ht : t < 2 ^ (2 ^ k)) : TabOk t k := by
  have hk : k < 5 := by (first | lia | omega)
  have I := isop_right hk k (Nat.le_refl _) 5 t t (by (first | lia | omega)) ht ht (fun _ _ h => h) (fun i a b => by (first | lia | omega))
  have h81 : 3 ^ k ≤ 3 ^ 4 := Nat.pow_le_pow_right (by decide) h4
  have e81 : 3 ^ 4 = 81 := by decide
  have hlen := I.len
  have hmu := mu_le (isopF 5 t t k)
  have F := factor_right hk 450 (isopF 5 t t k) (by (first | lia | omega)) (fun q hq => (I.small q hq).1) (by (first | lia | omega))
  have fd := F.dep
  have fc := F.cost
  refine ⟨ht, I.ok, F.fok, ?_, ?_, F.ok, fun x hx => ?_⟩
  · unfold onT; (first | lia | omega)
  · unfold onT; (first | lia | omega)
  · unfold onT
    rw [Bool.eq_iff_iff, F.sem]
    exact ⟨I.high x hx, I.low x hx⟩
end Mine
open PySem PySem.W PyProof.Rows
set_option maxHeartbeats 8000000
namespace Mine
theorem said : PySem.Challenge.rw_on0118_01.wellSaid = true := by
  delta PySem.W.OpenLaw.wellSaid
  repeat' with_reducible refine PySem.W.look_both ?_ ?_
  · delta PySem.W.OpenRow.wellSaid PySem.W.OpenRow.partSaid PySem.W.looksOpen
    repeat' with_reducible refine PySem.W.look_both ?_ ?_
    all_goals
      try rw [PySem.W.Fast.te8326940854005059898]
      try rw [PySem.W.Fast.te17119622794617984870]
      try rw [PySem.W.Fast.te8377067652309620493]
      try rw [PySem.W.Fast.te11788848310118352699]
      try rw [PySem.W.Fast.te18344453789297297638]
      decide +kernel
  all_goals
    try rw [PySem.W.Fast.te8326940854005059898]
    try rw [PySem.W.Fast.te17119622794617984870]
    try rw [PySem.W.Fast.te9558739934217749035]
    try rw [PySem.W.Fast.te8179353310426384613]
    try rw [PySem.W.Fast.te16286561074155671207]
    decide +kernel
noncomputable def view : Program := PySem.W.view PySem.Challenge.pw_on0118_01 [0,2,3,4,5,6,7,8,10,11,12,13,15,16,17,18,19,20,22,23,25,26,27,28,29,30,31,32]
/-- the library's boot stands; the top is run from there -/
theorem left_of_boot {p q : Program} {loose : List Str} {Xt : Shared → Bool} {α : Type} {Yf : Shared → α} {Ya : World → α} {N : Nat} {g0 : Bool} {H₀ : Params → Heap} {gs₀ : Array GenState} {d₀ : Drawn} {k₀ : Nat}
    (op : ∀ w : World, (fencedOpening treeTable p w N).map (fun s => (s.heap, s.gens, s.drawn, s.toks)) = some (H₀ w.params, gs₀, d₀, k₀))
    (h : ∀ (w : World) (os : OsState), (topFrom treeTable p w N ⟨H₀ w.params, gs₀, d₀, k₀, os⟩).map (fun s => (openSeen q loose (importedModules p.main.body) Xt g0 s, Yf s)) = some (openGood q loose, Ya w)) : LeftO p q loose Xt Yf Ya N g0 := fun w => by
  obtain ⟨⟨h', gs, d, k, os⟩, e, e'⟩ := Option.map_eq_some_iff.mp (op w)
  obtain ⟨rfl, rfl, rfl, rfl⟩ : h' = H₀ w.params ∧ gs = gs₀ ∧ d = d₀ ∧ k = k₀ := by simpa using e'
  unfold openEnds
  rw [e]
  exact h w os
theorem map_pair {α β γ : Type} {o : Option α} {f : α → β} {k : α → γ} {b : β} {d : γ} (h1 : o.map f = some b) (h2 : o.map k = some d) : o.map (fun s => (f s, k s)) = some (b, d) := by
  cases o with
  | none => cases h1
  | some s =>
    obtain rfl := Option.some.inj h1
    obtain rfl := Option.some.inj h2
    rfl
local macro_rules | `(tactic| o_head $_) => `(tactic| exact False.elim ‹False›)
/-- lays the heap's fragment behind the top: lay.heap_1 -/
theorem lay : False → PySem.Challenge.rw_on0118_01.row.Holds := by
  intro f
  k_head
noncomputable def seenAs : List Addr := [2, 3, 15, 17, 18, 20, 21, 22, 24, 25, 27, 28, 29, 31, 32, 34, 35, 36, 38, 39, 41, 42, 43, 45, 46, 48, 49, 50, 52, 53, 55, 56, 57, 59, 60, 62, 63, 64, 66, 67, 69, 70, 71, 73, 74, 76, 77, 78, 80, 81, 83, 84, 85, 87, 88, 90, 91, 92, 94, 95, 97, 98, 99, 100, 102, 103, 105, 106, 107, 109, 110, 112, 113, 114, 116, 117, 119, 120, 121, 123, 124, 126, 127, 128, 130, 131, 133, 134, 135, 137, 138, 140, 141, 142, 144, 145, 147, 148, 156, 158, 159, 161, 162, 163, 165, 166, 168, 169, 170, 172, 173, 175, 176, 177, 179, 180, 182, 183, 184, 186, 187, 189, 190, 191, 193, 194, 196, 197, 198, 200, 201, 203, 204, 205, 207, 208, 210, 211, 212, 214, 215, 217, 218, 219, 221, 222, 224, 225, 226, 228, 229, 231, 232, 233, 234, 236, 237, 239, 240, 241, 242, 243, 244, 245, 248, 250, 251, 253, 254, 255, 257, 258, 260, 261, 262, 264, 265, 267, 268, 269, 271, 272, 274, 275, 276, 278, 279, 281, 282, 283, 285, 286, 288, 289, 290, 292, 293, 295, 296, 297, 300, 301, 302, 305, 306]
theorem seenAs_ok : ∀ P, seenAs = (lay.heap_1 P).map (·.1) := fun P => by kernel_rfl
noncomputable abbrev seenX : Shared → Bool := fun s => xlAt view [] s && recOk (RowW.records (OpenRow.toRowW (OpenLaw.row PySem.Challenge.rw_on0118_01))) s
theorem left1 (w : World) (os : OsState) : (topFrom treeTable PySem.Challenge.rw_on0118_01.row.prog w 3190 ⟨boot_heap w.params, Array.mk [], boot_drawn, boot_toks, os⟩).map (fun s => openSeen view [PySem.Str.ofString "smart_and"] (importedModules PySem.Challenge.rw_on0118_01.row.prog.main.body) seenX true s) = some (openGood view [PySem.Str.ofString "smart_and"]) := by
  delta PySem.W.topFrom
  rw [PySem.W.Fast.te14364793385576792824, PySem.W.Fast.te14082659384304107361, PySem.W.Fast.te4187177175401517315, PySem.W.Fast.te5923862056798008813]
  kernel_rfl
theorem left2 (w : World) (os : OsState) : (topFrom treeTable PySem.Challenge.rw_on0118_01.row.prog w 3190 ⟨boot_heap w.params, Array.mk [], boot_drawn, boot_toks, os⟩).map (kHook lay.heap_1 seenAs seenAs_ok).obs = some ((kHook lay.heap_1 seenAs seenAs_ok).val w) := by
  delta PySem.W.topFrom
  rw [PySem.W.Fast.te14364793385576792824, PySem.W.Fast.te14082659384304107361, PySem.W.Fast.te5923862056798008813]
  kernel_rfl
theorem left : LeftO PySem.Challenge.rw_on0118_01.row.prog view [PySem.Str.ofString "smart_and"] seenX (kHook lay.heap_1 seenAs seenAs_ok).obs (kHook lay.heap_1 seenAs seenAs_ok).val 3190 :=
  left_of_boot (boot_open (by rfl) (by rfl) (fun s => by rfl)) (fun w os => map_pair (left1 w os) (left2 w os))
local macro_rules | `(tactic| k_qdec) => `(tactic| decide +kernel)
theorem law_holds : PySem.Challenge.rw_on0118_01.Holds := by
  w_on
  refine PySem.W.holds_law said fun said => ?_
  refine holds_open (q := view) (loose := [PySem.Str.ofString "smart_and"]) (Xt := seenX) (XP := XL view []) (Yf := Hook.obs (kHook lay.heap_1 seenAs seenAs_ok)) (Ya := Hook.val (kHook lay.heap_1 seenAs seenAs_ok)) (YP := Hook.says (kHook lay.heap_1 seenAs seenAs_ok)) (N := 3190) left (Hook.of (kHook lay.heap_1 seenAs seenAs_ok)) (Hook.keeps (kHook lay.heap_1 seenAs seenAs_ok)) (fun s e => xl_of s (Bool.and_eq_true_iff.mp e).1) XL.keeps (by rfl) (by rfl) (by rfl) (fun s e => recFacts_of (Bool.and_eq_true_iff.mp e).2) (by rfl) (by first | assumption | decide +kernel) (by decide +kernel) ⟨rfl, rfl, rfl, rfl, rfl, by decide +kernel⟩ ?hw ?hc
  case hw => w_witness2
  case hc =>
    w_strict (k_go0
              refine Mine.law_top Mine.HT (by assumption) (by assumption) (by assumption) (by assumption) (by assumption) (by assumption) (by assumption) (by assumption) ?tree ?imp ?facts ?hm ?hod ?hQ
              case tree => exact rfl
              case imp => exact rfl
              case hm => exact rfl
              case hod => exact Eq.trans (by assumption) rfl
              case hQ =>
                rintro s' ⟨m', F'⟩ h1 h2
                exact goodW_bool F' (h1.trans (by assumption)) (fun _ => rfl) (by first | with_unfolding_all rfl | kernel_rfl | decide +kernel) h2
              case facts =>
                intro g hK hfn
                constructor
                · constructor
                  all_goals
                    unfold Mine.FnK Mine.FnA
                    rw [hK, hfn]
                    exact ⟨_, _, _, _, _, _, _, _, _, _, rfl, rfl⟩
                · have attr : ∀ n : Str, n ∈ (["nodes", "inputs", "table"] : List Str) → Mine.AttrIn g (g.fn "Aig") n := by
                    intro n hn
                    unfold Mine.AttrIn
                    rw [hK, hfn]
                    simp only [List.mem_cons, List.not_mem_nil, or_false] at hn
                    rcases hn with rfl | rfl | rfl
                    · exact ⟨rfl, rfl, none, rfl, rfl⟩
                    · exact ⟨rfl, rfl, none, rfl, rfl⟩
                    · exact ⟨rfl, rfl, none, rfl, rfl⟩
                  refine ⟨attr _ (by simp), attr _ (by simp), attr _ (by simp), ⟨190, ?_, ?_⟩, ⟨169, ?_, ?_⟩⟩
                  · unfold Mine.MethIn; rw [hK, hfn]; exact ⟨rfl, rfl, rfl, rfl⟩
                  · unfold Mine.FnA; rw [hK]; exact ⟨_, _, _, _, _, _, _, _, _, _, rfl, rfl⟩
                  · unfold Mine.MethIn; rw [hK, hfn]; exact ⟨rfl, rfl, rfl, rfl⟩
                  · unfold Mine.FnA; rw [hK]; exact ⟨_, _, _, _, _, _, _, _, _, _, rfl, rfl⟩
                · constructor
                  · rw [hK, hfn]; rfl
                  · rw [hK, hfn]; rfl
                  · refine ⟨162, ?_, ?_, ?_⟩
                    · rw [hK, hfn]; rfl
                    · rw [hK]; rfl
                    · unfold Mine.FnA; rw [hK]; exact ⟨_, _, _, _, _, _, _, _, _, _, rfl, rfl⟩
                  · rw [hK, hfn]; rfl
                  · rw [hK, hfn]; rfl
                  · rw [hK, hfn]; rfl
                  · intro n hn
                    rw [hK, hfn]
                    simp only [List.mem_cons, List.not_mem_nil, or_false] at hn
                    rcases hn with rfl | rfl | rfl | rfl <;> rfl
                · unfold Mine.SmartOk
                  rw [hK, hfn]
                  exact ⟨_, _, _, _, _, _, _, _, _, _, 99, _, _, _, rfl, rfl, rfl, rfl⟩
                · unfold Mine.FnK Mine.FnA
                  rw [hK, hfn]
                  exact ⟨_, _, _, _, _, _, _, _, _, _, rfl, rfl⟩
                · intro f hf
                  rw [hK]
                  simp only [Mine.bltNames, List.mem_cons, List.not_mem_nil, or_false] at hf
                  rcases hf with rfl | rfl | rfl | rfl | rfl | rfl <;> rfl
                · intro f hf
                  rw [hK, hfn]
                  simp only [Mine.defNames, List.mem_cons, List.not_mem_nil, or_false] at hf
                  rcases hf with rfl | rfl | rfl | rfl | rfl | rfl | rfl | rfl | rfl | rfl | rfl | rfl | rfl | rfl | rfl | rfl | rfl | rfl | rfl | rfl | rfl | rfl | rfl | rfl | rfl | rfl <;> exact ⟨rfl, rfl⟩)
end Mine
theorem PySem.Challenge.cw_on0118_01_holds : PySem.Challenge.rw_on0118_01.Holds :=
  Mine.law_holds
