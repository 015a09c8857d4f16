import PyProof.Rows.All
import Wide.All
import Open.Boot
import OpenK.KWalk
import KE.IntBitsLaws
import Wide.FinOn
import PySem.Challenge.RW_nn0268_01
open PySem PySem.W PyProof.Rows PySem.Calls
set_option maxRecDepth 100000
set_option Elab.async false
set_option linter.unusedVariables false

-- part L0
namespace Nn
theorem natLt {a b : Nat} : @LT.lt Nat _ a b → a < b := id
theorem natNe {a b : Nat} : ¬ @Eq Nat a b → a ≠ b := id

/-- a name that is a cell has one -/
theorem has_cell {x : Str} (names : List (Str × NameKind)) : ∀ (k : Nat) (acc : List (Str × Addr)), (acc.lookup x).isSome = true ∨ names.lookup x = some .cell → ((cellsFrom k names acc).lookup x).isSome = true := by
  induction names with
  | nil =>
    intro k acc h
    rcases h with h | h
    · exact h
    · cases h
  | cons p r ih =>
    intro k acc h
    obtain ⟨y, q⟩ := p
    rw [cellsFrom]
    cases hxy : (x == y) with
    | true =>
      split
      · exact ih _ _ (.inl (by simp [List.lookup, hxy]))
      · rename_i hq
        refine ih _ _ (h.imp_right fun e => ?_)
        simp only [List.lookup, hxy, Option.some.injEq] at e
        subst e
        exact absurd rfl hq
    | false =>
      split
      · exact ih _ _ (h.imp (fun e => by simpa [List.lookup, hxy] using e) fun e => by simpa [List.lookup, hxy] using e)
      · exact ih _ _ (h.imp_right fun e => by simpa [List.lookup, hxy] using e)
theorem bind_kinds {scope : Scope} {binds : List (Str × Value)} (e : ∀ y ∈ binds, scope.names.lookup y.1 = some .local ∨ scope.names.lookup y.1 = some .cell) (k : Nat) :
    ∀ x ∈ binds, scope.names.lookup x.1 = some .local ∨ (scope.names.lookup x.1 = some .cell ∧ ((cellsFrom k scope.names []).lookup x.1).isSome = true) :=
  fun x hx => (e x hx).imp_right fun q => ⟨q, has_cell _ _ _ (.inr q)⟩

theorem filterMap_all {α β : Type} {f : α → Option β} {g : α → β} : ∀ {l : List α}, (∀ x ∈ l, f x = some (g x)) → l.filterMap f = l.map g
  | [], _ => rfl
  | x :: l, h => by
    rw [List.filterMap_cons, h x (.head _), List.map_cons, filterMap_all fun y hy => h y (.tail _ hy)]
/-- xs[i] = v, the list written out -/
theorem set_lst {prog : Program} {w : World} {A : Around} {E : Value → Shared → Prop} {s : Shared} {l : Addr} {xs : Array Value} {m i : Nat} {t : Tok} {v : Value} {Q : Unit → Shared → Prop}
    (g : s.heap.get? l = some { cls := .type "list", data := .seq xs m }) (hi : i < xs.size) (hs : xs.size ≤ 1000)
    (hQ : Q () { s with heap := s.heap.update l (Obj.mapSeq fun ys => ys.setIfInBounds i v) }) : wpAny (model prog w) A (setItem (.ref l) (.int (i : Int) t) v) Q E s := by
  have is : s.heap.IsList l xs := ⟨_, g, rfl, m, rfl⟩
  have item : ∀ {B : Around} {F : Value → Shared → Prop} {R : Option (Nat × Value) → Shared → Prop}, R (some (i, xs[i])) s → wpAny (model prog w) B (seqItemAt l i >>= fun r => pure (r.map (i, ·))) R F s := fun h =>
    wpAny_bind (wpAny_seqItemAt g rfl (wpAny_pure (by rw [Array.getElem?_eq_getElem hi]; exact h)))
  have store : ∀ k : Int, k = (i : Int) → wpAny (model prog w) A (call (.builtin "list.__setitem__") [.ref l, .int k t, v]) (fun _ s' => Q () s') E s := by
    intro k hk
    refine wpAny_call_entry slot_list_setitem is.typeIs entry_list_setitem ?_ (args_list_setitem _ _ _)
    show wpAny _ _ (Builtin.List.listSubscript? (.int k t) >>= _) _ _ s
    refine wpAny_bind (wpAny_listSubscript_int (fitsIndex_of (by omega) (by omega)) ?_)
    subst hk
    show wpAny _ _ ((seqItemAt l i >>= fun r => pure (r.map (i, ·))) >>= _) _ _ s
    refine wpAny_bind (item ?_)
    show wpAny _ _ (setSeqItemAt l i v >>= _) _ _ s
    exact wpAny_bind (wpAny_setSeqItemAt g rfl (wpAny_pure ⟨.none, rfl, hQ⟩))
  unfold setItem
  refine wpAny_holding (wpAny_bind (wpAny_sequenceKey is.typeIs (by decide) (wpAny_bind ?_)))
  exact wpAny_callSpecial?_slot (name := Str.ofString "__setitem__") is.typeIs slot_list_setitem (wpAny_mono (store _ rfl) (fun _ _ h => wpAny_pure h) fun _ _ h => h)
/-- xs[::-1] -/
theorem pick_rev (xs : Array Value) : slicePick xs none none (some (-1)) = xs.toList.reverse.toArray := by
  have hb : sliceBounds none none (some (-1)) xs.size = ((xs.size : Int) - 1, -1, -1) := by
    simp [sliceBounds]
  have hr : sliceRange ((xs.size : Int) - 1) (-1) (-1) = (List.range xs.size).map fun k => xs.size - 1 - k := by
    have h1 : ((xs.size : Int) - 1 - -1 - -1 - 1) / (-(-1)) = xs.size := by
      rw [show (-(-1) : Int) = 1 by decide, Int.ediv_one]; omega
    have h2 : ((if (xs.size : Int) - 1 > -1 then ((xs.size : Int) - 1 - -1 - -1 - 1) / (-(-1)) else 0) : Int).toNat = xs.size := by
      rw [h1]; split <;> omega
    show ((List.range ((if (xs.size : Int) - 1 > -1 then ((xs.size : Int) - 1 - -1 - -1 - 1) / (-(-1)) else 0) : Int).toNat).map fun (k : Nat) => ((xs.size : Int) - 1 + -1 * (k : Int)).toNat) = _
    rw [h2]
    exact List.map_congr_left fun k hk => by
      have := List.mem_range.mp hk
      omega
  unfold slicePick
  rw [hb, hr]
  congr 1
  rw [List.filterMap_map, filterMap_all (g := fun k => xs.toList.getD (xs.size - 1 - k) .none) fun k hk => ?_]
  · apply List.ext_getElem
    · simp
    · intro i h1 h2
      simp at h1 h2
      simp [List.getElem_reverse]
      rw [Array.getElem?_eq_getElem (by omega)]
      rfl
  · have := List.mem_range.mp hk
    show xs[xs.size - 1 - k]? = _
    rw [Array.getElem?_eq_getElem (by omega), List.getD_eq_getElem?_getD, Array.getElem?_toList, Array.getElem?_eq_getElem (by omega)]
    rfl
end Nn

-- part L1
namespace Nn

abbrev View := Addr → Option Obj
def Sub (b c : View) : Prop := ∀ a o, b a = some o → c a = some o
theorem Sub.refl (b : View) : Sub b b := fun _ _ h => h
theorem Sub.trans {a b c : View} (h : Sub a b) (k : Sub b c) : Sub a c := fun x o e => k x o (h x o e)
theorem Sub.none {b c : View} (h : Sub b c) {a : Addr} (e : c a = none) : b a = none := by
  cases q : b a with
  | none => rfl
  | some o => rw [h a o q] at e; cases e

abbrev tupO (vs : Array Value) (n : Nat) : Obj := { cls := .type "tuple", data := .seq vs n }
abbrev lstO (vs : Array Value) (n : Nat) : Obj := { cls := .type "list", data := .seq vs n }

mutual
inductive Rp (b : View) : Value → PyData → Prop
  | none : Rp b .none .none
  | bool (x : Bool) : Rp b (.bool x) (.bool x)
  | int (i : Int) (t : Tok) : Rp b (.int i t) (.int i)
  | tup {a vs n ds} : b a = some (tupO vs n) → RpAll b vs.toList ds → Rp b (.ref a) (.tuple ds)
  | lst {a vs n ds} : b a = some (lstO vs n) → RpAll b vs.toList ds → Rp b (.ref a) (.list ds)
  | opq (a : Addr) : Rp b (.ref a) (.dict [(.int (.ofNat a), .none)])
inductive RpAll (b : View) : List Value → List PyData → Prop
  | nil : RpAll b [] []
  | cons {v vs d ds} : Rp b v d → RpAll b vs ds → RpAll b (v :: vs) (d :: ds)
end

mutual
theorem Rp.mono {b c : View} (k : Sub b c) : ∀ {v d}, Rp b v d → Rp c v d
  | _, _, .none => .none
  | _, _, .bool x => .bool x
  | _, _, .int i t => .int i t
  | _, _, .tup h r => .tup (k _ _ h) (r.mono k)
  | _, _, .lst h r => .lst (k _ _ h) (r.mono k)
  | _, _, .opq a => .opq a
theorem RpAll.mono {b c : View} (k : Sub b c) : ∀ {vs ds}, RpAll b vs ds → RpAll c vs ds
  | _, _, .nil => .nil
  | _, _, .cons h r => .cons (h.mono k) (r.mono k)
end
theorem RpAll.length {b : View} : ∀ {vs ds}, RpAll b vs ds → vs.length = ds.length
  | _, _, .nil => rfl
  | _, _, .cons _ r => by simp [r.length]
theorem RpAll.get {b : View} : ∀ {vs ds}, RpAll b vs ds → ∀ {i : Nat} {d}, ds[i]? = some d → ∃ v, vs[i]? = some v ∧ Rp b v d
  | _, _, .nil, i, d, h => by simp at h
  | _, _, .cons h r, 0, d, e => by simp at e; subst e; exact ⟨_, by simp, h⟩
  | _, _, .cons h r, i + 1, d, e => by simp at e; simpa using r.get e
theorem RpAll.append {b : View} : ∀ {vs ds vs' ds'}, RpAll b vs ds → RpAll b vs' ds' → RpAll b (vs ++ vs') (ds ++ ds')
  | _, _, _, _, .nil, k => k
  | _, _, _, _, .cons h r, k => .cons h (r.append k)
theorem RpAll.drop {b : View} : ∀ {vs ds} (n : Nat), RpAll b vs ds → RpAll b (vs.drop n) (ds.drop n)
  | _, _, 0, h => by simpa using h
  | _, _, n + 1, .nil => by simpa using .nil
  | _, _, n + 1, .cons h r => by simpa using r.drop n
theorem RpAll.take {b : View} : ∀ {vs ds} (n : Nat), RpAll b vs ds → RpAll b (vs.take n) (ds.take n)
  | _, _, 0, h => by simpa using .nil
  | _, _, n + 1, .nil => by simpa using .nil
  | _, _, n + 1, .cons h r => by simpa using .cons h (r.take n)
theorem RpAll.reverse {b : View} : ∀ {vs ds}, RpAll b vs ds → RpAll b vs.reverse ds.reverse
  | _, _, .nil => .nil
  | _, _, .cons h r => by
    simp only [List.reverse_cons]
    exact r.reverse.append (.cons h .nil)
theorem RpAll.set {b : View} : ∀ {vs ds} (i : Nat) {v d}, RpAll b vs ds → Rp b v d → RpAll b (vs.set i v) (ds.set i d)
  | _, _, _, _, _, .nil, _ => by simpa using .nil
  | _, _, 0, _, _, .cons _ r, h => by simpa using .cons h r
  | _, _, i + 1, _, _, .cons k r, h => by simpa using .cons k (r.set i h)
theorem RpAll.replicate {b : View} {v d} (h : Rp b v d) : ∀ n : Nat, RpAll b (List.replicate n v) (List.replicate n d)
  | 0 => by simpa using .nil
  | n + 1 => by simpa [List.replicate_succ] using .cons h (RpAll.replicate h n)

mutual
theorem Rp.reads {h : Heap} {b : View} (k : Sub b h.get?) : ∀ {v d}, Rp b v d → d.canLay0 = true → ∃ as, Reads h v d as
  | _, _, .none, _ => ⟨_, .none⟩
  | _, _, .bool x, _ => ⟨_, .bool x⟩
  | _, _, .int i t, _ => ⟨_, .int i t⟩
  | _, _, .tup e r, c => let ⟨as, q⟩ := r.reads k (by simpa only [PyData.canLay0] using c); ⟨_, .tuple (k _ _ e) rfl rfl q⟩
  | _, _, .lst e r, c => let ⟨as, q⟩ := r.reads k (by simpa only [PyData.canLay0] using c); ⟨_, .list (k _ _ e) rfl rfl q⟩
  | _, _, .opq a, c => by simp only [PyData.canLay0] at c; cases c
theorem RpAll.reads {h : Heap} {b : View} (k : Sub b h.get?) : ∀ {vs ds}, RpAll b vs ds → PyData.canLayAll0 ds = true → ∃ as, ReadsAll h vs ds as
  | _, _, .nil, _ => ⟨_, .nil⟩
  | _, _, .cons x r, c => by
    simp only [PyData.canLayAll0, Bool.and_eq_true] at c
    obtain ⟨as, q⟩ := x.reads k c.1
    obtain ⟨bs, p⟩ := r.reads k c.2
    exact ⟨_, .cons q p⟩
end

structure Step (b : View) (s : Shared) (b' : View) (s' : Shared) : Prop where
  same : ∃ h tk, s' = { s with heap := h, toks := tk }
  hh : Sub s.heap.get? s'.heap.get?
  bb : Sub b b'
  bh : Sub b' s'.heap.get?
  new : ∀ a o, b' a = some o → b a = some o ∨ s.heap.get? a = none

theorem Step.refl {b : View} {s : Shared} (h : Sub b s.heap.get?) : Step b s b s := ⟨⟨_, _, rfl⟩, .refl _, .refl _, h, fun _ _ e => .inl e⟩
theorem Step.tok {b : View} {s : Shared} (h : Sub b s.heap.get?) (t : Nat) : Step b s b { s with toks := t } := ⟨⟨_, _, rfl⟩, .refl _, .refl _, h, fun _ _ e => .inl e⟩
theorem Step.trans {b b' b'' : View} {s s' s'' : Shared} (x : Step b s b' s') (y : Step b' s' b'' s'') : Step b s b'' s'' where
  same := by
    obtain ⟨h, tk, rfl⟩ := x.same
    obtain ⟨h', tk', e⟩ := y.same
    exact ⟨h', tk', e⟩
  hh := x.hh.trans y.hh
  bb := x.bb.trans y.bb
  bh := y.bh
  new := fun a o e => by
    rcases y.new a o e with q | q
    · exact x.new a o q
    · right
      cases p : s.heap.get? a with
      | none => rfl
      | some o' => rw [x.hh a o' p] at q; cases q

/-- only the heap grows, the base as it was -/
theorem Step.grow {b : View} {s : Shared} {h : Heap} {tk : Nat} (hb : Sub b s.heap.get?) (k : Sub s.heap.get? h.get?) : Step b s b { s with heap := h, toks := tk } :=
  ⟨⟨_, _, rfl⟩, k, .refl _, hb.trans k, fun _ _ e => .inl e⟩

noncomputable def ins (b : View) (h : Heap) (l : Addr) : View := fun a => open Classical in if a = l then h.get? a else b a
theorem ins_same (b : View) (h : Heap) (l : Addr) : ins b h l l = h.get? l := by simp [ins]
theorem ins_ne {b : View} {h : Heap} {l a : Addr} (e : a ≠ l) : ins b h l a = b a := by simp [ins, e]
theorem Sub.ins {b : View} {h : Heap} (l : Addr) (k : Sub b h.get?) : Sub b (ins b h l) := fun a o e => by
  by_cases q : a = l
  · subst q; rw [ins_same]; exact k _ _ e
  · rw [ins_ne q]; exact e
theorem ins_sub {b : View} {h : Heap} (l : Addr) (k : Sub b h.get?) : Sub (ins b h l) h.get? := fun a o e => by
  by_cases q : a = l
  · subst q; rw [ins_same] at e; exact e
  · rw [ins_ne q] at e; exact k _ _ e

/-- a new object joins the base -/
theorem Step.add {b b' : View} {s s' : Shared} {l : Addr} (x : Step b s b' s') (hl : s.heap.get? l = none) : Step b s (ins b' s'.heap l) s' where
  same := x.same
  hh := x.hh
  bb := x.bb.trans (x.bh.ins l)
  bh := ins_sub l x.bh
  new := fun a o e => by
    by_cases q : a = l
    · subst q; exact .inr hl
    · rw [ins_ne q] at e; exact x.new a o e

inductive Sees (h : Heap) (env : Env) (x : Str) (v : Value) : Prop
  | loc (m : Str → Option Value) : env.kindOf x = some .local → h.Ns env.locals m → m x = some v → Sees h env x v
  | cell (c : Addr) : (env.kindOf x = some .cell ∨ (env.kindOf x = some .free ∧ (x == ("__classdict__" : Str)) = false)) → env.cells.lookup x = some c → h.IsCell c (some v) → Sees h env x v
theorem Sees.keeps {h h' : Heap} {env : Env} {x : Str} {v : Value} (k : Sub h.get? h'.get?) : Sees h env x v → Sees h' env x v
  | .loc m a n e => .loc m a (n.keeps k) e
  | .cell c a l e => .cell c a l (e.keeps k)

theorem Sees.load {M : Model} {A : Around} {E : Value → Shared → Prop} {s : Shared} {env : Env} {x : Str} {v : Value} {Q : Value → Shared → Prop} (hk : env.scope.kind = .function)
    (S : Sees s.heap env x v) (h : Q v s) : wpAny M A (loadName env x) Q E s := by
  cases S with
  | loc m a n e => exact wpAny_loadName_local hk a n e h
  | cell c a l e =>
    rcases a with a | ⟨a, hn⟩
    · exact wpAny_loadName_cell hk a l e h
    · exact wpAny_loadName_free hk a l e h hn

structure EnvOk (env : Env) : Prop where
  kind : env.scope.kind = .function
  gl : env.globals = mainGlobals
  bl : env.builtins = builtinsNs

abbrev Ro := List (Str × PyData)
abbrev Om := List (Str × List PyData)

structure Own (b : View) (h : Heap) (env : Env) (he : Heap) (ω : Om) (ad : Str → Addr) : Prop where
  at' : ∀ x ds, ω.lookup x = some ds → Sees h env x (.ref (ad x)) ∧ (∃ vs n, h.get? (ad x) = some (lstO vs n) ∧ RpAll b vs.toList ds) ∧ b (ad x) = none ∧ he.get? (ad x) = none
  apart : ∀ x y dx dy, ω.lookup x = some dx → ω.lookup y = some dy → ad x = ad y → x = y

structure Inv (g0 he : Heap) (b0 b : View) (h : Heap) (env : Env) (ρ : Ro) (ω : Om) : Prop where
  ok : EnvOk env
  g : Sub g0.get? b
  bh : Sub b h.get?
  eh : Sub he.get? h.get?
  b0b : Sub b0 b
  new : ∀ a o, b a = some o → b0 a = some o ∨ he.get? a = none
  ns : ∃ m, h.Ns env.locals m
  nsb : b env.locals = none
  nse : he.get? env.locals = none
  cel : ∀ x c, env.cells.lookup x = some c → (∃ v0, h.IsCell c v0) ∧ b c = none ∧ he.get? c = none
  cdist : ∀ x y c, env.cells.lookup x = some c → env.cells.lookup y = some c → x = y
  var : ∀ x d, ρ.lookup x = some d → ∃ v, Sees h env x v ∧ Rp b v d
  own : ∃ ad, Own b h env he ω ad

theorem Inv.step {g0 he : Heap} {b0 b b' : View} {s s' : Shared} {env : Env} {ρ : Ro} {ω : Om} (I : Inv g0 he b0 b s.heap env ρ ω) (x : Step b s b' s') : Inv g0 he b0 b' s'.heap env ρ ω := by
  have nb : ∀ a o, s.heap.get? a = some o → b a = none → b' a = none := fun a o e n => by
    cases q : b' a with
    | none => rfl
    | some o' =>
      rcases x.new a o' q with p | p
      · rw [n] at p; cases p
      · rw [e] at p; cases p
  have hen : ∀ a, s.heap.get? a = none → he.get? a = none := fun a e => I.eh.none e
  exact {
    ok := I.ok
    g := I.g.trans x.bb
    bh := x.bh
    eh := I.eh.trans x.hh
    b0b := I.b0b.trans x.bb
    new := fun a o e => by
      rcases x.new a o e with q | q
      · exact I.new a o q
      · exact .inr (hen a q)
    ns := let ⟨m, n⟩ := I.ns; ⟨m, n.keeps x.hh⟩
    nsb := by
      obtain ⟨m, o, es, ep, ho, _⟩ := I.ns
      exact nb _ _ ho I.nsb
    nse := I.nse
    cel := fun y c e => by
      obtain ⟨⟨v0, hv⟩, h2, h3⟩ := I.cel y c e
      obtain ⟨o, ho, _⟩ := id hv
      exact ⟨⟨v0, hv.keeps x.hh⟩, nb _ _ ho h2, h3⟩
    cdist := I.cdist
    var := fun y d e => let ⟨v, h1, h2⟩ := I.var y d e; ⟨v, h1.keeps x.hh, h2.mono x.bb⟩
    own := by
      obtain ⟨ad, O⟩ := I.own
      refine ⟨ad, ⟨fun y ds e => ?_, O.apart⟩⟩
      obtain ⟨h1, ⟨vs, n, h2, h3⟩, h4, h5⟩ := O.at' y ds e
      exact ⟨h1.keeps x.hh, ⟨vs, n, x.hh _ _ h2, h3.mono x.bb⟩, nb _ _ h2 h4, h5⟩ }

def PlainEnv (e : Env) : Prop := e.scope.isGenerator = false ∧ e.scope.isCoroutine = false ∧ e.builtins = builtinsNs ∧ e.globals = mainGlobals
def Good (A : Around) (n : Nat) : Prop := A.handled = none ∧ A.depth + n ≤ 500 ∧ A.units + 3 * n ≤ 500 ∧ ∃ e l, A.frames = some (e :: l) ∧ PlainEnv e
theorem Good.mono {A : Around} {n m : Nat} (h : Good A m) (k : n ≤ m) : Good A n := ⟨h.1, by have := h.2.1; omega, by have := h.2.2.1; omega, h.2.2.2⟩
theorem Good.deeper {A : Around} {n : Nat} {env : Env} (h : Good A (n + 1)) (k : PlainEnv env) : Good (A.deeper env) n := by
  refine ⟨h.1, ?_, ?_, ?_⟩
  · show A.depth + 1 + n ≤ 500
    have := h.2.1; omega
  · show A.units + 3 + 3 * n ≤ 500
    have := h.2.2.1; omega
  · obtain ⟨e, l, hf, _⟩ := h.2.2.2
    exact ⟨env, e :: l, by show A.frames.map _ = _; rw [hf]; rfl, k⟩
theorem Good.room {A : Around} {n : Nat} (h : Good A n) : A.depth < recursionLimit := by
  have := h.2.1; unfold recursionLimit; omega
theorem Good.units {A : Around} {n : Nat} (h : Good A n) : A.units + 64 < cLine := by
  have := h.2.2.1; unfold cLine; omega

structure Ct where
  prog : Program
  w : World
  g0 : Heap
  mg : Str → Option Value
  mb : Str → Option Value

abbrev None2 : Value → Shared → Prop := fun _ _ => False
abbrev wpX (C : Ct) (A : Around) {α : Type} (t : Sem α) (Q : α → Shared → Prop) (s : Shared) : Prop := wpAny (model C.prog C.w) A t Q None2 s

section
variable (C : Ct)
/-- the value of an expression -/
def EvX (env : Env) (ρ : Ro) (ω : Om) (n : Nat) (e : PySem.Expr) (d : PyData) : Prop :=
  ∀ A s he b0 b, Good A n → Inv C.g0 he b0 b s.heap env ρ ω → wpX C A (eval e env) (fun v s' => ∃ b', Step b s b' s' ∧ Rp b' v d) s
/-- a list as it stands now; fz: it lies in the base -/
def RpL (fz : Bool) (b : View) (h : Heap) (v : Value) (ds : List PyData) : Prop := ∃ l vs n, v = .ref l ∧ h.get? l = some (lstO vs n) ∧ RpAll b vs.toList ds ∧ (fz = true → ∃ o, b l = some o)
def EvL (env : Env) (ρ : Ro) (ω : Om) (n : Nat) (fz : Bool) (e : PySem.Expr) (ds : List PyData) : Prop :=
  ∀ A s he b0 b, Good A n → Inv C.g0 he b0 b s.heap env ρ ω → wpX C A (eval e env) (fun v s' => ∃ b', Step b s b' s' ∧ RpL fz b' s'.heap v ds) s
/-- a new list -/
def RpF (b : View) (s : Shared) (h : Heap) (v : Value) (ds : List PyData) : Prop := ∃ l vs n, v = .ref l ∧ s.heap.get? l = none ∧ b l = none ∧ h.get? l = some (lstO vs n) ∧ RpAll b vs.toList ds
def EvF (env : Env) (ρ : Ro) (ω : Om) (n : Nat) (e : PySem.Expr) (ds : List PyData) : Prop :=
  ∀ A s he b0 b, Good A n → Inv C.g0 he b0 b s.heap env ρ ω → wpX C A (eval e env) (fun v s' => ∃ b', Step b s b' s' ∧ RpF b' s s'.heap v ds) s
def TrX (env : Env) (ρ : Ro) (ω : Om) (n : Nat) (e : PySem.Expr) (t : Bool) : Prop :=
  ∀ A s he b0 b, Good A n → Inv C.g0 he b0 b s.heap env ρ ω → wpX C A (isTrue e env (eval e env)) (fun r s' => ∃ b', Step b s b' s' ∧ r = t) s
def EvXs (env : Env) (ρ : Ro) (ω : Om) (n : Nat) (es : List PySem.Expr) (ds : List PyData) : Prop :=
  ∀ A s he b0 b pos, Good A n → Inv C.g0 he b0 b s.heap env ρ ω → wpX C A (spliced (backTo pos (starEach es env))) (fun vs s' => ∃ b', Step b s b' s' ∧ RpAll b' vs ds) s
end

theorem wpX.any {C : Ct} {A : Around} {α : Type} {t : Sem α} {Q Q' : α → Shared → Prop} {E : Value → Shared → Prop} {s : Shared} (h : wpX C A t Q s) (k : ∀ a s', Q a s' → Q' a s') :
    wpAny (model C.prog C.w) A t Q' E s := wpAny_mono h k fun _ _ f => f.elim

variable {C : Ct} {env : Env} {ρ : Ro} {ω : Om} {n : Nat}

theorem RpL.step {fz : Bool} {b b' : View} {s s' : Shared} {v : Value} {ds : List PyData} (x : Step b s b' s') : RpL fz b s.heap v ds → RpL fz b' s'.heap v ds
  | ⟨l, vs, n, e, h, r, q⟩ => ⟨l, vs, n, e, x.hh _ _ h, r.mono x.bb, fun f => let ⟨o, p⟩ := q f; ⟨o, x.bb _ _ p⟩⟩
theorem EvL.of {fz e ds} (h : EvX C env ρ ω n e (.list ds)) : EvL C env ρ ω n fz e ds := fun A s he b0 b G I =>
  (h A s he b0 b G I).any fun v s' ⟨b', x, r⟩ => by
    cases r with
    | lst h r => exact ⟨b', x, _, _, _, rfl, x.bh _ _ h, r, fun _ => ⟨_, h⟩⟩
theorem EvX.ofF {e ds} (h : EvF C env ρ ω n e ds) : EvX C env ρ ω n e (.list ds) := fun A s he b0 b G I =>
  (h A s he b0 b G I).any fun v s' ⟨b', x, l, vs, m, e, h1, h2, h3, h4⟩ => by
    subst e
    exact ⟨_, x.add h1, .lst (by rw [ins_same]; exact h3) (h4.mono (x.bh.ins l))⟩
theorem EvL.ofF {fz e ds} (h : EvF C env ρ ω n e ds) : EvL C env ρ ω n fz e ds := .of (.ofF h)
theorem EvX.mono {m e d} (h : EvX C env ρ ω m e d) (k : m ≤ n) : EvX C env ρ ω n e d := fun A s he b0 b G I => h A s he b0 b (G.mono k) I

theorem EvX.int {i k pos} : EvX C env ρ ω n (.Constant (.int i) k pos) (.int i) := fun _ _ _ _ b _ I =>
  wpAny_Constant_int ⟨b, .tok I.bh _, .int _ _⟩
theorem EvX.cbool {i k pos} : EvX C env ρ ω n (.Constant (.bool i) k pos) (.bool i) := fun _ _ _ _ b _ I =>
  wpAny_Constant_bool ⟨b, .refl I.bh, .bool _⟩
theorem EvX.name {x pos d} (h : ρ.lookup x = some d) (hd : (x == ("__debug__" : Str)) = false := by decide) : EvX C env ρ ω n (.Name x pos) d := fun _ _ _ _ b _ I => by
  obtain ⟨v, S, r⟩ := I.var x d h
  exact wpAny_Name (S.load I.ok.kind ⟨b, .refl I.bh, r⟩) hd
theorem EvL.own {x pos ds} (h : ω.lookup x = some ds) (hd : (x == ("__debug__" : Str)) = false := by decide) : EvL C env ρ ω n false (.Name x pos) ds := fun _ _ _ _ b _ I => by
  obtain ⟨ad, O⟩ := I.own
  obtain ⟨S, ⟨vs, m, e, r⟩, _⟩ := O.at' x ds h
  exact wpAny_Name (S.load I.ok.kind ⟨b, .refl I.bh, _, _, _, rfl, e, r, nofun⟩) hd

def BinX (C : Ct) (op : PySem.Operator) (n : Nat) (d1 d2 d : PyData) : Prop :=
  ∀ A s b v1 v2, Good A n → Sub C.g0.get? b → Sub b s.heap.get? → Rp b v1 d1 → Rp b v2 d2 → wpX C A (binaryOp op v1 v2) (fun v s' => ∃ b', Step b s b' s' ∧ Rp b' v d) s

theorem EvX.bin {l op r pos d1 d2 d} (h1 : EvX C env ρ ω n l d1) (h2 : EvX C env ρ ω n r d2) (h : BinX C op n d1 d2 d) : EvX C env ρ ω n (.BinOp l op r pos) d := fun A s he b0 b G I =>
  wpAny_BinOp ((h1 A s he b0 b G I).any fun v1 s1 ⟨b1, x1, r1⟩ => (h2 A s1 he b0 b1 G (I.step x1)).any fun v2 s2 ⟨b2, x2, r2⟩ =>
    (h A s2 b2 v1 v2 G ((I.step x1).step x2).g x2.bh (r1.mono x2.bb) r2).any fun v s3 ⟨b3, x3, r3⟩ => ⟨b3, (x1.trans x2).trans x3, r3⟩)

theorem BinX.add {a b : Int} : BinX C .Add n (.int a) (.int b) (.int (a + b)) := fun A s b v1 v2 _ _ hb r1 r2 => by
  cases r1; cases r2; exact P.add_int ⟨_, .tok hb _, .int _ _⟩
theorem BinX.sub {a b : Int} : BinX C .Sub n (.int a) (.int b) (.int (a - b)) := fun A s b v1 v2 _ _ hb r1 r2 => by
  cases r1; cases r2; exact P.sub_int ⟨_, .tok hb _, .int _ _⟩
theorem BinX.mul {a b : Int} (h : IntMulOk a b) : BinX C .Mult n (.int a) (.int b) (.int (a * b)) := fun A s b v1 v2 _ _ hb r1 r2 => by
  cases r1; cases r2; exact P.mul_int ⟨_, .tok hb _, .int _ _⟩ h
end Nn

-- part L2
namespace Nn

def freeNames : List Str := ["len", "max", "min", "abs", "sum", "range", "enumerate", "zip", "list"]
def fdAt (i : Nat) : DefRec := match PySem.Challenge.pw_nn0268_01.main.body[i]? with
  | some (.FunctionDef name args body _ _ _ scope _ _ pos) => ⟨name, args, body, scope, pos⟩
  | _ => ⟨Str.empty, ⟨[], [], none, [], [], none, []⟩, [], { kind := .function, names := [], isGenerator := false, isCoroutine := false, more := [] }, ⟨0, 0, 0, 0⟩⟩
def ratD (q : Rat) : PyData := .tuple [.int q.num, .int q.den]

structure CtOk (C : Ct) : Prop where
  ns : C.g0.Ns mainGlobals C.mg
  bns : C.g0.Ns builtinsNs C.mb
  nolimit : C.g0.NoLimit
  noseer : C.g0.NoSeer
  tree : C.prog.given.tree = none
  boot : ∀ x : Str, x ≠ "__name__" → C.mb x = bootBuiltins x
  free : ∀ x ∈ freeNames, C.mg x = none
  fn : ∀ i, 3 ≤ i → i ≤ 52 → (fdAt i).body ≠ [] → ∃ a o pm code doc, C.mg (fdAt i).name = some (.ref a) ∧ C.g0.get? a = some o ∧ o.data = .func (docDef (fdAt i).name (fdAt i).params (fdAt i).body (fdAt i).scope pm code doc) ∧ C.g0.CodeRec code (fdAt i).name
  r0 : ∃ v, C.mg "R0" = some v ∧ Rp C.g0.get? v (ratD 0)
  r1 : ∃ v, C.mg "R1" = some v ∧ Rp C.g0.get? v (ratD 1)
  f0 : ∃ v, C.mg "F0" = some v ∧ Rp C.g0.get? v (.tuple [.list [], .list [ratD 1]])

variable {C : Ct} {env : Env} {ρ : Ro} {ω : Om} {n : Nat}
open PySem (Expr)

theorem Inv.g0h {g0 he : Heap} {b0 b : View} {h : Heap} (I : Inv g0 he b0 b h env ρ ω) : Sub g0.get? h.get? := I.g.trans I.bh

theorem EvX.glob (K : CtOk C) {x pos d} (h : ∃ v, C.mg x = some v ∧ Rp C.g0.get? v d) (hx : env.kindOf x = some .globalImplicit) (hd : (x == ("__debug__" : Str)) = false := by decide) :
    EvX C env ρ ω n (.Name x pos) d := fun A s he b0 b G I => by
  obtain ⟨v, hm, r⟩ := h
  exact Name_function_global I.ok.kind hx (loadGlobal_global (by rw [I.ok.gl]; exact K.ns.keeps I.g0h) hm ⟨b, .refl I.bh, r.mono I.g⟩) hd

theorem BinX.floordiv (K : CtOk C) {a b : Int} (h : b ≠ 0) : BinX C .FloorDiv n (.int a) (.int b) (.int (a.fdiv b)) := fun A s c v1 v2 G hg hb r1 r2 => by
  cases r1; cases r2
  obtain ⟨e, l, hf, g1, g2, g3, g4⟩ := G.2.2.2
  exact floordiv_int h ⟨_, .tok hb _, .int _ _⟩ (.inr (PylongRoom.of (K.nolimit.keeps (hg.trans hb)) (by have := G.2.1; unfold Builtin.pylongFrames recursionLimit; omega)
    (SeerAt.of (K.noseer.keeps (hg.trans hb)) K.tree hf g1 g2 g3 g4)))
theorem BinX.mod {a b : Int} (h : b ≠ 0) : BinX C .Mod n (.int a) (.int b) (.int (a.fmod b)) := fun A s c v1 v2 _ _ hb r1 r2 => by
  cases r1; cases r2
  exact mod_int' h ⟨_, .tok hb _, .int _ _⟩

-- unary
theorem EvX.neg {x pos a} (h : EvX C env ρ ω n x (.int a)) : EvX C env ρ ω n (.UnaryOp .USub x pos) (.int (-a)) := fun A s he b0 b G I =>
  wpAny_UnaryOp ((h A s he b0 b G I).any fun v s1 ⟨b1, x1, r⟩ => by
    cases r; exact P.neg_int ⟨_, x1.trans (.tok x1.bh _), .int _ _⟩)
theorem EvX.not {x pos t} (h : EvX C env ρ ω n x (.bool t)) : EvX C env ρ ω n (.UnaryOp .Not x pos) (.bool (!t)) := fun A s he b0 b G I =>
  wpAny_UnaryOp ((h A s he b0 b G I).any fun v s1 ⟨b1, x1, r⟩ => by
    cases r; exact not_value (wpAny_truthy_bool ⟨_, x1, .bool _⟩))

-- comparisons
def CmpX (C : Ct) (op : CmpOp) (n : Nat) (d1 d2 : PyData) (t : Bool) : Prop :=
  ∀ A s b v1 v2, Good A n → Sub b s.heap.get? → Rp b v1 d1 → Rp b v2 d2 → wpX C A (compareOp op v1 v2) (fun v s' => v = .bool t ∧ s' = s) s
theorem EvX.cmp {l op r pos d1 d2 t} (h1 : EvX C env ρ ω n l d1) (h2 : EvX C env ρ ω n r d2) (h : CmpX C op n d1 d2 t) (hm : behindInMarks op r = false := by with_unfolding_all rfl) :
    EvX C env ρ ω n (.Compare l [op] [r] pos) (.bool t) := fun A s he b0 b G I =>
  wpAny_Compare1 ((h1 A s he b0 b G I).any fun v1 s1 ⟨b1, x1, r1⟩ => (h2 A s1 he b0 b1 G (I.step x1)).any fun v2 s2 ⟨b2, x2, r2⟩ =>
    (h A s2 b2 v1 v2 G x2.bh (r1.mono x2.bb) r2).any fun v s3 ⟨e, e'⟩ => by subst e e'; exact ⟨b2, x1.trans x2, .bool _⟩) hm
theorem TrX.cmp {l op r pos d1 d2 t} (h1 : EvX C env ρ ω n l d1) (h2 : EvX C env ρ ω n r d2) (h : CmpX C op n d1 d2 t) (hm : behindInMarks op r = false := by with_unfolding_all rfl) :
    TrX C env ρ ω n (.Compare l [op] [r] pos) t := fun A s he b0 b G I =>
  wpAny_isTrue_Compare1 ((h1 A s he b0 b G I).any fun v1 s1 ⟨b1, x1, r1⟩ => (h2 A s1 he b0 b1 G (I.step x1)).any fun v2 s2 ⟨b2, x2, r2⟩ =>
    (h A s2 b2 v1 v2 G x2.bh (r1.mono x2.bb) r2).any fun v s3 ⟨e, e'⟩ => by subst e e'; exact wpAny_truthy_bool ⟨b2, x1.trans x2, rfl⟩) hm
theorem CmpX.lt {a b : Int} {t : Bool} (e : t = decide (a < b)) : CmpX C .Lt n (.int a) (.int b) t := fun A s c v1 v2 _ _ r1 r2 => by
  subst e; cases r1; cases r2; exact P.lt_int ⟨rfl, rfl⟩
theorem CmpX.le {a b : Int} {t : Bool} (e : t = decide (a ≤ b)) : CmpX C .LtE n (.int a) (.int b) t := fun A s c v1 v2 _ _ r1 r2 => by
  subst e; cases r1; cases r2; exact P.le_int ⟨rfl, rfl⟩
theorem CmpX.gt {a b : Int} {t : Bool} (e : t = decide (a > b)) : CmpX C .Gt n (.int a) (.int b) t := fun A s c v1 v2 _ _ r1 r2 => by
  subst e; cases r1; cases r2; exact P.gt_int ⟨rfl, rfl⟩
theorem CmpX.ge {a b : Int} {t : Bool} (e : t = decide (a ≥ b)) : CmpX C .GtE n (.int a) (.int b) t := fun A s c v1 v2 _ _ r1 r2 => by
  subst e; cases r1; cases r2; exact P.ge_int ⟨rfl, rfl⟩
theorem CmpX.eqi {a b : Int} {t : Bool} (e : t = decide (a = b)) : CmpX C .Eq n (.int a) (.int b) t := fun A s c v1 v2 _ _ r1 r2 => by
  subst e; cases r1; cases r2; exact P.eq_int ⟨by simp only [BEq.beq], rfl⟩
theorem CmpX.nei {a b : Int} {t : Bool} (e : t = decide (a ≠ b)) : CmpX C .NotEq n (.int a) (.int b) t := fun A s c v1 v2 _ _ r1 r2 => by
  subst e; cases r1; cases r2; exact P.ne_int ⟨by simp [bne, BEq.beq], rfl⟩
theorem CmpX.eqd {d e : PyData} {t : Bool} (h1 : SeqAt.shaped d = true) (h2 : SeqAt.shaped e = true) (ht : t = d.eqv e) : CmpX C .Eq n d e t := fun A s c v1 v2 G hb r1 r2 => by
  obtain ⟨_, q1⟩ := r1.reads hb (SeqAt.canLay_of_shaped h1)
  obtain ⟨_, q2⟩ := r2.reads hb (SeqAt.canLay_of_shaped h2)
  exact eq_dataH q1 q2 h1 h2 G.units ⟨by rw [ht], rfl⟩
theorem CmpX.ned {d e : PyData} {t : Bool} (h1 : SeqAt.shaped d = true) (h2 : SeqAt.shaped e = true) (ht : t = !d.eqv e) : CmpX C .NotEq n d e t := fun A s c v1 v2 G hb r1 r2 => by
  obtain ⟨_, q1⟩ := r1.reads hb (SeqAt.canLay_of_shaped h1)
  obtain ⟨_, q2⟩ := r2.reads hb (SeqAt.canLay_of_shaped h2)
  exact ne_dataH q1 q2 h1 h2 G.units ⟨by rw [ht], rfl⟩

-- tests
theorem TrX.val {e t} (h : EvX C env ρ ω n e (.bool t)) (he : ∀ env whole, isTrue e env whole = (do let v ← whole; standAt e.pos; holding [v] (truthy v)) := by intros; rfl) : TrX C env ρ ω n e t := fun A s he' b0 b G I =>
  wpAny_isTrue_value ((h A s he' b0 b G I).any fun v s1 ⟨b1, x1, r⟩ => by cases r; exact wpAny_truthy_bool ⟨_, x1, rfl⟩) (he _ _)
theorem TrX.not {e pos t} (h : TrX C env ρ ω n e t) : TrX C env ρ ω n (.UnaryOp .Not e pos) (!t) := fun A s he' b0 b G I =>
  wpAny_isTrue_Not ((h A s he' b0 b G I).any fun v s1 ⟨b1, x1, r⟩ => ⟨_, x1, by rw [r]⟩)
theorem TrX.and {x y pos} {t u : Bool} (h : TrX C env ρ ω n x t) (k : t = true → TrX C env ρ ω n y u) : TrX C env ρ ω n (.BoolOp .And [x, y] pos) (t && u) := fun A s he' b0 b G I =>
  wpAny_isTrue_BoolOp (wpAny_allTrue_And_cons ((h A s he' b0 b G I).any fun v s1 ⟨b1, x1, r⟩ => by
    subst r
    cases v with
    | false => exact ⟨_, x1, rfl⟩
    | true =>
      exact wpAny_allTrue_And_cons ((k rfl A s1 he' b0 b1 G (I.step x1)).any fun v s2 ⟨b2, x2, r⟩ => by
        subst r
        cases v with
        | false => exact ⟨_, x1.trans x2, rfl⟩
        | true => exact wpAny_allTrue_And_nil ⟨_, x1.trans x2, rfl⟩)))
theorem TrX.or {x y pos} {t u : Bool} (h : TrX C env ρ ω n x t) (k : t = false → TrX C env ρ ω n y u) : TrX C env ρ ω n (.BoolOp .Or [x, y] pos) (t || u) := fun A s he' b0 b G I =>
  wpAny_isTrue_BoolOp (wpAny_allTrue_Or_cons ((h A s he' b0 b G I).any fun v s1 ⟨b1, x1, r⟩ => by
    subst r
    cases v with
    | true => exact ⟨_, x1, rfl⟩
    | false =>
      exact wpAny_allTrue_Or_cons ((k rfl A s1 he' b0 b1 G (I.step x1)).any fun v s2 ⟨b2, x2, r⟩ => by
        subst r
        cases v with
        | true => exact ⟨_, x1.trans x2, rfl⟩
        | false => exact wpAny_allTrue_Or_nil ⟨_, x1.trans x2, rfl⟩)))
theorem EvX.and {x y pos} {t u : Bool} (h : EvX C env ρ ω n x (.bool t)) (k : t = true → EvX C env ρ ω n y (.bool u)) : EvX C env ρ ω n (.BoolOp .And [x, y] pos) (.bool (t && u)) := fun A s he' b0 b G I =>
  wpAny_And2 ((h A s he' b0 b G I).any fun v s1 ⟨b1, x1, r⟩ => by
    cases r
    refine wpAny_truthy_bool ?_
    cases t with
    | false => exact ⟨_, x1, .bool _⟩
    | true => exact (k rfl A s1 he' b0 b1 G (I.step x1)).any fun v s2 ⟨b2, x2, r⟩ => ⟨_, x1.trans x2, r⟩)
theorem EvX.or {x y pos} {t u : Bool} (h : EvX C env ρ ω n x (.bool t)) (k : t = false → EvX C env ρ ω n y (.bool u)) : EvX C env ρ ω n (.BoolOp .Or [x, y] pos) (.bool (t || u)) := fun A s he' b0 b G I =>
  wpAny_Or2 ((h A s he' b0 b G I).any fun v s1 ⟨b1, x1, r⟩ => by
    cases r
    refine wpAny_truthy_bool ?_
    cases t with
    | true => exact ⟨_, x1, .bool _⟩
    | false => exact (k rfl A s1 he' b0 b1 G (I.step x1)).any fun v s2 ⟨b2, x2, r⟩ => ⟨_, x1.trans x2, r⟩)
theorem EvX.ife {test x y pos d} {t : Bool} (h : TrX C env ρ ω n test t) (k1 : t = true → EvX C env ρ ω n x d) (k2 : t = false → EvX C env ρ ω n y d) : EvX C env ρ ω n (.IfExp test x y pos) d := fun A s he' b0 b G I =>
  wpAny_IfExp ((h A s he' b0 b G I).any fun v s1 ⟨b1, x1, r⟩ => by
    subst r
    cases v with
    | true => exact (k1 rfl A s1 he' b0 b1 G (I.step x1)).any fun v s2 ⟨b2, x2, r⟩ => ⟨_, x1.trans x2, r⟩
    | false => exact (k2 rfl A s1 he' b0 b1 G (I.step x1)).any fun v s2 ⟨b2, x2, r⟩ => ⟨_, x1.trans x2, r⟩)
theorem RpF.back {b b1 b2 : View} {s s1 s2 : Shared} {v ds} (x1 : Step b s b1 s1) (r : RpF b2 s1 s2.heap v ds) : RpF b2 s s2.heap v ds :=
  let ⟨l, vs, m, e, h1, h2, h3, h4⟩ := r; ⟨l, vs, m, e, x1.hh.none h1, h2, h3, h4⟩

-- several
theorem EvXs.nil : EvXs C env ρ ω n [] [] := fun A s he b0 b pos G I => wpAny_items_nil ⟨b, .refl I.bh, .nil⟩
theorem EvXs.cons {e es d ds} (h : EvX C env ρ ω n e d) (k : EvXs C env ρ ω n es ds) (hs : ∀ env, starEach (e :: es) env = (false, eval e env) :: starEach es env := by intro; rfl) : EvXs C env ρ ω n (e :: es) (d :: ds) := fun A s he b0 b pos G I =>
  wpAny_items_cons ((h A s he b0 b G I).any fun v s1 ⟨b1, x1, r⟩ => (k A s1 he b0 b1 pos G (I.step x1)).any fun vs s2 ⟨b2, x2, r2⟩ => ⟨b2, x1.trans x2, .cons (r.mono x2.bb) r2⟩) (hs _)

theorem get_size (h : Heap) : h.get? h.objs.size = none := by
  cases e : h.get? h.objs.size with
  | none => rfl
  | some o => exact absurd (Heap.lt_size e) (Nat.lt_irrefl _)
theorem get_out {h : Heap} {a : Addr} (k : h.objs.size ≤ a) : h.get? a = none := by
  cases e : h.get? a with
  | none => rfl
  | some o => exact absurd (Heap.lt_size e) (Nat.not_lt.mpr k)
theorem push_keeps (h : Heap) (o : Obj) : Sub h.get? (h.push o).get? := fun b x e => Heap.get?_push_of_some o e
theorem Step.push {b : View} {s : Shared} (hb : Sub b s.heap.get?) (o : Obj) (t : Nat) : Step b s b { s with heap := s.heap.push o, toks := t } := .grow hb (push_keeps _ _)

theorem EvX.tuple {es k pos ds} (h : EvXs C env ρ ω n es ds) (hl : ds.length ≤ 1000 := by exact Nat.le_of_ble_eq_true rfl) : EvX C env ρ ω n (.Tuple es k pos) (.tuple ds) := fun A s he b0 b G I =>
  wpAny_Tuple ((h A s he b0 b pos G I).any fun vs s1 ⟨b1, x1, r⟩ => by
    refine ⟨by rw [r.length, sizeLine_eq]; omega, ?_⟩
    have y := Step.push x1.bh (tupO vs.toArray 0) s1.toks
    refine ⟨_, x1.trans (y.add (get_size _)), .tup (vs := vs.toArray) (n := 0) ?_ ?_⟩
    · rw [ins_same]; exact Heap.get?_push_size _ rfl
    · exact r.mono (y.bh.ins _))
theorem EvF.list {es pos ds} (h : EvXs C env ρ ω n es ds) (hl : ds.length ≤ 1000 := by exact Nat.le_of_ble_eq_true rfl) : EvF C env ρ ω n (.List es pos) ds := fun A s he b0 b G I =>
  wpAny_List ((h A s he b0 b pos G I).any fun vs s1 ⟨b1, x1, r⟩ => by
    refine ⟨by rw [r.length, sizeLine_eq]; omega, ?_⟩
    have y := Step.push x1.bh (lstO vs.toArray 0) s1.toks
    exact ⟨_, x1.trans y, _, vs.toArray, 0, rfl, x1.hh.none (get_size _), x1.bh.none (get_size _), Heap.get?_push_size _ rfl, r⟩)
theorem EvF.ife {test x y pos ds} {t : Bool} (h : TrX C env ρ ω n test t) (k1 : t = true → EvF C env ρ ω n x ds) (k2 : t = false → EvF C env ρ ω n y ds) : EvF C env ρ ω n (.IfExp test x y pos) ds := fun A s he' b0 b G I =>
  wpAny_IfExp ((h A s he' b0 b G I).any fun v s1 ⟨b1, x1, r⟩ => by
    subst r
    cases v with
    | true => exact (k1 rfl A s1 he' b0 b1 G (I.step x1)).any fun v s2 ⟨b2, x2, r⟩ => ⟨_, x1.trans x2, .back x1 r⟩
    | false => exact (k2 rfl A s1 he' b0 b1 G (I.step x1)).any fun v s2 ⟨b2, x2, r⟩ => ⟨_, x1.trans x2, .back x1 r⟩)

-- lists: + and *
theorem EvF.cat {f1 f2 l r pos ds es} (h1 : EvL C env ρ ω n f1 l ds) (h2 : EvL C env ρ ω n f2 r es) (hl : ds.length + es.length ≤ 1000) : EvF C env ρ ω n (.BinOp l .Add r pos) (ds ++ es) := fun A s he b0 b G I =>
  wpAny_BinOp ((h1 A s he b0 b G I).any fun v1 s1 ⟨b1, x1, r1⟩ => (h2 A s1 he b0 b1 G (I.step x1)).any fun v2 s2 ⟨b2, x2, r2⟩ => by
    obtain ⟨l1, vs1, m1, rfl, g1, q1, _⟩ := r1.step x2
    obtain ⟨l2, vs2, m2, rfl, g2, q2, _⟩ := r2
    have z1 := q1.length
    have z2 := q2.length
    rw [Array.length_toList] at z1 z2
    refine P.add_list g1 g2 ?_ (by rw [sizeLine_eq]; omega)
    have y := Step.push x2.bh (lstO (vs1 ++ vs2) 0) s2.toks
    exact ⟨_, (x1.trans x2).trans y, _, vs1 ++ vs2, 0, rfl, (x1.trans x2).hh.none (get_size _), x2.bh.none (get_size _), Heap.get?_push_size _ rfl, by
      rw [Array.toList_append]; exact q1.append q2⟩)
theorem foldl_rep (v : Value) : ∀ (k : Nat) (a : Array Value), (List.foldl (fun x1 x2 => x1 ++ x2) a (List.replicate k #[v])).toList = a.toList ++ List.replicate k v
  | 0, a => by simp
  | k + 1, a => by
    rw [List.replicate_succ, List.foldl_cons, foldl_rep v k, List.replicate_succ]
    simp
theorem EvF.rep {f1 l r pos d} {k : Int} (h1 : EvL C env ρ ω n f1 l [d]) (h2 : EvX C env ρ ω n r (.int k)) (hk : k ≤ 1000) (hk' : -1000 ≤ k) : EvF C env ρ ω n (.BinOp l .Mult r pos) (List.replicate k.toNat d) := fun A s he b0 b G I =>
  wpAny_BinOp ((h1 A s he b0 b G I).any fun v1 s1 ⟨b1, x1, r1⟩ => (h2 A s1 he b0 b1 G (I.step x1)).any fun v2 s2 ⟨b2, x2, r2⟩ => by
    obtain ⟨l1, vs1, m1, rfl, g1, q1, _⟩ := r1.step x2
    cases r2 with | int _ u => ?_
    obtain ⟨w1⟩ := vs1
    have q1' : RpAll b2 w1 [d] := q1
    cases q1' with | @cons v1 _ _ _ hv hn => ?_
    cases hn
    refine wpAny_binaryOp_repeat_ref (T := "list") (U := "int") (by decide) ⟨_, g1, rfl⟩ (fun s' => typeIs_int s' k u) noFill_list_mul F.fills_int_mul F.slot_int_rmul repeat_list F.slot_int_index.lookup
      (call_meets F.slot_int_rmul (typeIs_int s2 k u) F.entry_int_rmul (F.args_int_rmul_2 _ _) (int___rmul___int_list k u l1 _ m1)
        ⟨g1, rfl, ⟨_, g1, rfl⟩, call_meets F.slot_list_mul ⟨_, g1, rfl⟩ F.entry_list_mul (F.args_list_mul_2 _ _)
          (AutoListH.list___mul___list_int_3 l1 _ m1 k u (by simp [Builtin.List.listFitsIndex]; omega) (by simp; omega) (by simp [Builtin.List.listTooLong, sizeLine]; omega))
          ⟨g1, ?_⟩⟩)
    have y := Step.push x2.bh (lstO (List.foldl (fun x1 x2 => x1 ++ x2) #[] (List.replicate (if (#[v1] : Array Value).isEmpty = true then 0 else k.toNat) #[v1])) 0) s2.toks
    refine ⟨_, (x1.trans x2).trans y, _, _, 0, rfl, (x1.trans x2).hh.none (get_size _), x2.bh.none (get_size _), Heap.get?_push_size _ rfl, ?_⟩
    rw [if_neg (by simp), foldl_rep]
    exact RpAll.replicate hv _)
end Nn

-- part L3
namespace Nn
variable {C : Ct} {env : Env} {ρ : Ro} {ω : Om} {n : Nat}
open PySem (Expr)

theorem isListL {h : Heap} {l : Addr} {vs : Array Value} {m : Nat} (g : h.get? l = some (lstO vs m)) : h.IsList l vs := ⟨_, g, rfl, m, rfl⟩
theorem isTupT {h : Heap} {l : Addr} {vs : Array Value} {m : Nat} (g : h.get? l = some (tupO vs m)) : IsTup h l vs := ⟨_, g, rfl, m, rfl⟩

-- an item
theorem EvX.item {f1 v i pos ds d} {k : Int} (h1 : EvL C env ρ ω n f1 v ds) (h2 : EvX C env ρ ω n i (.int k)) (h0 : 0 ≤ k) (hk : k < 2 ^ 62) (hd : ds[k.toNat]? = some d)
    (hs : ∀ o u, subscripted i false o (.int k u) = operate [o, .int k u] (getItem o (.int k u)) := by intros; with_unfolding_all rfl) : EvX C env ρ ω n (.Subscript v i pos) d := fun A s he b0 b G I =>
  Subscript_ ((h1 A s he b0 b G I).any fun v1 s1 ⟨b1, x1, r1⟩ => (h2 A s1 he b0 b1 G (I.step x1)).any fun v2 s2 ⟨b2, x2, r2⟩ => by
    obtain ⟨l1, vs1, m1, rfl, g1, q1, _⟩ := r1.step x2
    cases r2 with | int _ u => ?_
    obtain ⟨w, hw, hr⟩ := q1.get hd
    exact tail_any (isListL g1).typeIs slot_list_getitem.lookup (wpAny_getItem_list (isListL g1) h0 (by omega) (by rw [← Array.getElem?_toList]; exact hw) ⟨_, x1.trans x2, hr⟩) (hs _ _))
theorem EvX.itemNeg {f1 v i pos ds d} {k : Int} (h1 : EvL C env ρ ω n f1 v ds) (h2 : EvX C env ρ ω n i (.int k)) (h0 : k < 0) (h3 : -(ds.length : Int) ≤ k) (hl : ds.length ≤ 1000) (hd : ds[(k + ds.length).toNat]? = some d)
    (hs : ∀ o u, subscripted i false o (.int k u) = operate [o, .int k u] (getItem o (.int k u)) := by intros; with_unfolding_all rfl) : EvX C env ρ ω n (.Subscript v i pos) d := fun A s he b0 b G I =>
  Subscript_ ((h1 A s he b0 b G I).any fun v1 s1 ⟨b1, x1, r1⟩ => (h2 A s1 he b0 b1 G (I.step x1)).any fun v2 s2 ⟨b2, x2, r2⟩ => by
    obtain ⟨l1, vs1, m1, rfl, g1, q1, _⟩ := r1.step x2
    cases r2 with | int _ u => ?_
    obtain ⟨w, hw, hr⟩ := q1.get hd
    have z := q1.length
    rw [Array.length_toList] at z
    exact tail_any (isListL g1).typeIs slot_list_getitem.lookup (wpAny_getItem_list_neg (isListL g1) h0 (by rw [z]; exact h3) (by omega) (by rw [← Array.getElem?_toList, z]; exact hw) ⟨_, x1.trans x2, hr⟩) (hs _ _))
theorem EvX.itemT {v i pos ds d} {k : Int} (h1 : EvX C env ρ ω n v (.tuple ds)) (h2 : EvX C env ρ ω n i (.int k)) (h0 : 0 ≤ k) (hk : k < 2 ^ 62) (hd : ds[k.toNat]? = some d)
    (hs : ∀ o u, subscripted i false o (.int k u) = operate [o, .int k u] (getItem o (.int k u)) := by intros; with_unfolding_all rfl) : EvX C env ρ ω n (.Subscript v i pos) d := fun A s he b0 b G I =>
  Subscript_ ((h1 A s he b0 b G I).any fun v1 s1 ⟨b1, x1, r1⟩ => (h2 A s1 he b0 b1 G (I.step x1)).any fun v2 s2 ⟨b2, x2, r2⟩ => by
    cases r1 with | @tup a1 vs m _ g1 q1 => ?_
    cases r2 with | int _ u => ?_
    obtain ⟨w, hw, hr⟩ := (q1.mono x2.bb).get hd
    obtain ⟨lv⟩ := vs
    have hj : seqIndex? k lv.length = some k.toNat := by
      have hlt : k.toNat < lv.length := (List.getElem?_eq_some_iff.mp hw).1
      have hn : ¬ k < 0 := by omega
      have h2 : (0 ≤ k && k < (lv.length : Int)) = true := by simp; omega
      simp [seqIndex?, hn] 
      omega
    exact item_tupleT (isTupT (x2.bh _ _ (x2.bb _ _ g1))) (by omega) (by omega) hj hw ⟨_, x1.trans x2, hr⟩ (hs _ _))

-- slices
def PrtX (C : Ct) (env : Env) (ρ : Ro) (ω : Om) (n : Nat) (e : Option Expr) (k : Option Int) : Prop :=
  match e, k with
  | none, none => True
  | some e, some k => EvX C env ρ ω n e (.int k)
  | _, _ => False
theorem PrtX.ev {e k} (h : PrtX C env ρ ω n e k) {A s he b0 b} (G : Good A n) (I : Inv C.g0 he b0 b s.heap env ρ ω) : wpX C A (evalPart e env) (fun v s' => ∃ b', Step b s b' s' ∧ IsPart v k) s := by
  unfold PrtX at h
  split at h
  · rw [evalPart_none]; exact wpAny_pure ⟨_, .refl I.bh, .none⟩
  · rw [evalPart_some]
    exact (h A s he b0 b G I).any fun v s1 ⟨b1, x1, r⟩ => by cases r; exact ⟨_, x1, .int _ _⟩
  · exact h.elim
def slcI (n : Nat) (i : Int) : Nat := clipAt n i
def slc {α : Type} (xs : List α) (lo hi : Option Int) : List α := (xs.drop (lo.elim 0 (clipAt xs.length))).take ((hi.elim xs.length (clipAt xs.length)) - (lo.elim 0 (clipAt xs.length)))
theorem slicePick_slc (vs : Array Value) (lo hi : Option Int) : slicePick vs lo hi none = (slc vs.toList lo hi).toArray := by
  rw [slicePick_plain]
  simp [slc]
theorem RpAll.slc {b : View} {vs ds} (h : RpAll b vs ds) (lo hi : Option Int) : RpAll b (Nn.slc vs lo hi) (Nn.slc ds lo hi) := by
  unfold Nn.slc
  rw [h.length]
  exact (h.drop _).take _

theorem EvF.slice {f1 x p1 p2 pos lo hi ds} {a c : Option Int} (h1 : EvL C env ρ ω n f1 (.Name x p1) ds) (hl : PrtX C env ρ ω n lo a) (hh : PrtX C env ρ ω n hi c) (hz : ds.length ≤ 1000) :
    EvF C env ρ ω n (.Subscript (.Name x p1) (.Slice lo hi none p2) pos) (slc ds a c) := fun A s he b0 b G I =>
  wpAny_Subscript_list_slice ((h1 A s he b0 b G I).any fun v1 s1 ⟨b1, x1, r1⟩ => (hl.ev G (I.step x1)).any fun v2 s2 ⟨b2, x2, r2⟩ => (hh.ev G ((I.step x1).step x2)).any fun v3 s3 ⟨b3, x3, r3⟩ => by
    obtain ⟨l1, vs1, m1, rfl, g1, q1, _⟩ := (r1.step x2).step x3
    have z := q1.length
    rw [Array.length_toList] at z
    refine ⟨l1, vs1, a, c, rfl, isListL g1, by rw [sizeLine_eq]; omega, r2, r3, ?_⟩
    rw [slicePick_slc]
    have x := (x1.trans x2).trans x3
    have y : Step b3 s3 b3 { s3 with heap := (s3.heap.push { cls := .type "slice", data := .fields #[v2, v3, .none] }).push (lstO (slc vs1.toList a c).toArray 0) } := .grow x3.bh ((push_keeps _ _).trans (push_keeps _ _))
    have hsz : (s3.heap.push { cls := .type "slice", data := .fields #[v2, v3, .none] }).objs.size = s3.heap.objs.size + 1 := Heap.size_push ..
    refine ⟨_, x.trans y, _, (slc vs1.toList a c).toArray, 0, rfl, x.hh.none (get_out (Nat.le_succ _)), x3.bh.none (get_out (Nat.le_succ _)), ?_, ?_⟩
    · show Heap.get? _ _ = _
      rw [← hsz]; exact Heap.get?_push_size _ rfl
    · exact q1.slc a c)

-- calls
def FnX (C : Ct) (name : Str) (ds : List PyData) (r : PyData) (n : Nat) : Prop :=
  ∃ a o fd, C.mg name = some (.ref a) ∧ C.g0.get? a = some o ∧ o.data = .func fd ∧
    ∀ A s b vs, Good A n → Sub C.g0.get? b → Sub b s.heap.get? → RpAll b vs ds → wpX C A (call (.ref a) vs) (fun v s' => ∃ b', Step b s b' s' ∧ Rp b' v r) s
theorem FnX.mono {name ds r m} (h : FnX C name ds r m) (k : m ≤ n) : FnX C name ds r n :=
  let ⟨a, o, fd, h1, h2, h3, h4⟩ := h; ⟨a, o, fd, h1, h2, h3, fun A s b vs G => h4 A s b vs (G.mono k)⟩

theorem EvX.call (K : CtOk C) {f p e es pos ds r m} (hf : FnX C f ds r m) (hx : env.kindOf f = some .globalImplicit) (ha : EvXs C env ρ ω n (e :: es) ds) (hm : m ≤ n)
    (hs : ∀ env, starEach (e :: es) env = (false, eval e env) :: starEach es env := by intro; rfl) (hd : (f == ("__debug__" : Str)) = false := by decide) :
    EvX C env ρ ω n (.Call (.Name f p) (e :: es) [] pos) r := fun A s he b0 b G I => by
  obtain ⟨a, o, fd, h1, h2, h3, h4⟩ := hf
  rw [show eval (.Call (.Name f p) (e :: es) [] pos) env = (do callWith pos (← eval (.Name f p) env) [] (backTo pos (starEach (e :: es) env)) (backToKw pos (keywordEach [] env))) from rfl]
  refine wpAny_bind (Name_function_global I.ok.kind hx (loadGlobal_global (by rw [I.ok.gl]; exact K.ns.keeps I.g0h) h1 ?_) hd)
  refine callWith_def (o := o) (fd := fd) h3 ((ha A s he b0 b pos G I).any fun vs s1 ⟨b1, x1, r1⟩ => ⟨(I.step x1).g0h _ _ h2, ?_⟩) (hs env)
  exact (h4 A s1 b1 vs (G.mono hm) (I.step x1).g x1.bh r1).any fun v s2 ⟨b2, x2, r2⟩ => ⟨b2, x1.trans x2, r2⟩

/-- a built-in function, its value -/
def BltX (C : Ct) (f : Value) (ds : List PyData) (r : PyData) (n : Nat) : Prop :=
  ∀ A s b vs, Good A n → Sub b s.heap.get? → RpAll b vs ds → wpX C A (call f vs) (fun v s' => ∃ b', Step b s b' s' ∧ Rp b' v r) s

theorem EvF.rev {f1 x p1 p2 pos k st ds} (h1 : EvL C env ρ ω n f1 (.Name x p1) ds) (hk : EvX C env ρ ω n st (.int k)) (e : k = -1) (hz : ds.length ≤ 1000) :
    EvF C env ρ ω n (.Subscript (.Name x p1) (.Slice none none (some st) p2) pos) ds.reverse := fun A s he b0 b G I =>
  wpAny_Subscript_Slice_step (T := "list") list_getitem_lookup ((h1 A s he b0 b G I).any fun v1 s1 ⟨b1, x1, r1⟩ => wpAny_Slice (by
    rw [evalPart_none]
    refine wpAny_pure (wpAny_pure ?_)
    rw [evalPart_some]
    refine (hk A s1 he b0 b1 G (I.step x1)).any fun v3 s3 ⟨b3, x3, r3⟩ => ?_
    cases r3 with | int _ u => ?_
    obtain ⟨l1, vs1, m1, rfl, g1, q1, _⟩ := r1.step x3
    have z := q1.length
    rw [Array.length_toList] at z
    have hl := isListL g1
    refine ⟨(hl.push _).typeIs, wpAny_getItem_list_slice (hl.push _) (Heap.IsSliceOf.new ..) .none .none (.int k u) (by rw [e]; simp) ?_ (by rw [sizeLine_eq]; omega)⟩
    subst e
    rw [pick_rev, Heap.size_push]
    have x := x1.trans x3
    have y : Step b3 s3 b3 { s3 with heap := (s3.heap.push { cls := .type "slice", data := .fields #[.none, .none, .int (-1) u] }).push (lstO vs1.toList.reverse.toArray 0) } := .grow x3.bh ((push_keeps _ _).trans (push_keeps _ _))
    have hsz : (s3.heap.push { cls := .type "slice", data := .fields #[.none, .none, .int (-1) u] }).objs.size = s3.heap.objs.size + 1 := Heap.size_push ..
    refine ⟨_, x.trans y, _, vs1.toList.reverse.toArray, 0, rfl, x.hh.none (get_out (Nat.le_succ _)), x3.bh.none (get_out (Nat.le_succ _)), ?_, q1.reverse⟩
    show Heap.get? _ _ = _
    rw [← hsz]; exact Heap.get?_push_size _ rfl))

-- built-ins by name
theorem blt_head (K : CtOk C) {f p e es pos} {fv : Value} (hx : env.kindOf f = some .globalImplicit) (hf : f ∈ freeNames) (hb : bootBuiltins f = some fv) (hn : f ≠ "__name__") (hd : (f == ("__debug__" : Str)) = false)
    {A : Around} {s : Shared} {he : Heap} {b0 b : View} (I : Inv C.g0 he b0 b s.heap env ρ ω) {Q : Value → Shared → Prop}
    (h : wpX C A (callWith pos fv [] (backTo pos (starEach (e :: es) env)) []) Q s) : wpX C A (eval (.Call (.Name f p) (e :: es) [] pos) env) Q s := by
  rw [show eval (.Call (.Name f p) (e :: es) [] pos) env = (do callWith pos (← eval (.Name f p) env) [] (backTo pos (starEach (e :: es) env)) (backToKw pos (keywordEach [] env))) from rfl]
  exact wpAny_bind (Name_function_global I.ok.kind hx (loadGlobal_builtin (by rw [I.ok.gl]; exact K.ns.keeps I.g0h) (K.free _ hf) (by rw [I.ok.bl]; exact K.bns.keeps I.g0h) ((K.boot _ hn).trans hb) h) hd)

theorem EvX.len (K : CtOk C) {f1 p e pos ds} (hx : env.kindOf "len" = some .globalImplicit) (h : EvL C env ρ ω n f1 e ds) (hl : ds.length ≤ 1000)
    (hs : ∀ env, starEach [e] env = (false, eval e env) :: starEach [] env := by intro; rfl) : EvX C env ρ ω n (.Call (.Name "len" p) [e] [] pos) (.int ds.length) := fun A s he b0 b G I =>
  blt_head K hx (by decide) rfl (by decide) (by decide) I (callWith_builtin1 (wpAny_items_cons ((h A s he b0 b G I).any fun v1 s1 ⟨b1, x1, r1⟩ => wpAny_items_nil (by
    obtain ⟨l1, vs1, m1, rfl, g1, q1, _⟩ := r1
    have z := q1.length
    rw [Array.length_toList] at z
    refine Calls.call_len_list (isListL g1) (by omega) ⟨_, x1.trans (.tok x1.bh _), ?_⟩
    rw [z]; exact .int _ _)) (hs _)) (hs _))
theorem EvX.abs1 (K : CtOk C) {p e pos a} (hx : env.kindOf "abs" = some .globalImplicit) (h : EvX C env ρ ω n e (.int a))
    (hs : ∀ env, starEach [e] env = (false, eval e env) :: starEach [] env := by intro; rfl) : EvX C env ρ ω n (.Call (.Name "abs" p) [e] [] pos) (.int (a.natAbs : Int)) := fun A s he b0 b G I =>
  blt_head K hx (by decide) rfl (by decide) (by decide) I (callWith_builtin1 (wpAny_items_cons ((h A s he b0 b G I).any fun v1 s1 ⟨b1, x1, r1⟩ => wpAny_items_nil (by
    cases r1
    refine call_abs_int fun u tk => ⟨_, x1.trans (.tok x1.bh _), ?_⟩
    rw [show (if a < 0 then -a else a) = (a.natAbs : Int) by omega]; exact .int _ _)) (hs _)) (hs _))
theorem EvX.max2 (K : CtOk C) {p e e' pos a c} (hx : env.kindOf "max" = some .globalImplicit) (h : EvX C env ρ ω n e (.int a)) (h' : EvX C env ρ ω n e' (.int c))
    (hs : ∀ env, starEach [e, e'] env = (false, eval e env) :: starEach [e'] env := by intro; rfl) (hs' : ∀ env, starEach [e'] env = (false, eval e' env) :: starEach [] env := by intro; rfl) : EvX C env ρ ω n (.Call (.Name "max" p) [e, e'] [] pos) (.int (max a c)) := fun A s he b0 b G I =>
  blt_head K hx (by decide) rfl (by decide) (by decide) I (callWith_builtin1 (wpAny_items_cons ((h A s he b0 b G I).any fun v1 s1 ⟨b1, x1, r1⟩ => wpAny_items_cons ((h' A s1 he b0 b1 G (I.step x1)).any fun v2 s2 ⟨b2, x2, r2⟩ => wpAny_items_nil (by
    cases r1
    cases r2
    refine max_two_ints G.1 fun h' tk hk => ⟨_, (x1.trans x2).trans (.grow x2.bh hk), ?_⟩
    split
    · rw [show max a c = c by omega]; exact .int _ _
    · rw [show max a c = a by omega]; exact .int _ _)) (hs' _)) (hs _)) (hs _) (by rw [hs']; rfl))
theorem EvX.min2 (K : CtOk C) {p e e' pos a c} (hx : env.kindOf "min" = some .globalImplicit) (h : EvX C env ρ ω n e (.int a)) (h' : EvX C env ρ ω n e' (.int c))
    (hs : ∀ env, starEach [e, e'] env = (false, eval e env) :: starEach [e'] env := by intro; rfl) (hs' : ∀ env, starEach [e'] env = (false, eval e' env) :: starEach [] env := by intro; rfl) : EvX C env ρ ω n (.Call (.Name "min" p) [e, e'] [] pos) (.int (min a c)) := fun A s he b0 b G I =>
  blt_head K hx (by decide) rfl (by decide) (by decide) I (callWith_builtin1 (wpAny_items_cons ((h A s he b0 b G I).any fun v1 s1 ⟨b1, x1, r1⟩ => wpAny_items_cons ((h' A s1 he b0 b1 G (I.step x1)).any fun v2 s2 ⟨b2, x2, r2⟩ => wpAny_items_nil (by
    cases r1
    cases r2
    refine min_two_ints G.1 fun h' tk hk => ⟨_, (x1.trans x2).trans (.grow x2.bh hk), ?_⟩
    split
    · rw [show min a c = c by omega]; exact .int _ _
    · rw [show min a c = a by omega]; exact .int _ _)) (hs' _)) (hs _)) (hs _) (by rw [hs']; rfl))

theorem ints_of {b : View} : ∀ {vs : List Value} {xs : List Int}, RpAll b vs (xs.map .int) → ∃ ys : List (Int × Tok), vs = ys.map (fun p => .int p.1 p.2) ∧ ys.map (·.1) = xs
  | _, [], h => by cases h; exact ⟨[], rfl, rfl⟩
  | _, x :: xs, h => by
    cases h with
    | cons h r =>
      cases h with
      | int _ t =>
        obtain ⟨ys, e1, e2⟩ := ints_of r
        exact ⟨(x, t) :: ys, by rw [e1]; rfl, by rw [← e2]; rfl⟩
theorem EvX.sum (K : CtOk C) {f1 p e pos} {xs : List Int} (hx : env.kindOf "sum" = some .globalImplicit) (h : EvL C env ρ ω n f1 e (xs.map .int))
    (hs : ∀ env, starEach [e] env = (false, eval e env) :: starEach [] env := by intro; rfl) : EvX C env ρ ω n (.Call (.Name "sum" p) [e] [] pos) (.int xs.sum) := fun A s he b0 b G I =>
  blt_head K hx (by decide) rfl (by decide) (by decide) I (callWith_builtin1 (wpAny_items_cons ((h A s he b0 b G I).any fun v1 s1 ⟨b1, x1, r1⟩ => wpAny_items_nil (by
    obtain ⟨l1, vs1, m1, rfl, g1, q1, _⟩ := r1
    obtain ⟨ys, e1, e2⟩ := ints_of q1
    have e1' : vs1 = intItems ys.toArray := by
      apply Array.toList_inj.mp
      rw [e1]; simp [intItems]
    subst e1'
    refine sum_intListG G.1 (isListL g1) fun h' tk t' hk => ⟨_, x1.trans (.grow x1.bh hk), ?_⟩
    rw [preSum_eq, List.take_of_length_le (by simp), show (ys.toArray.toList.map fun x => x.1) = xs from e2]
    exact .int _ _)) (hs _)) (hs _))
theorem EvF.listOf (K : CtOk C) {f1 p e pos ds} (hx : env.kindOf "list" = some .globalImplicit) (h : EvL C env ρ ω n f1 e ds) (hl : ds.length ≤ 1000)
    (hs : ∀ env, starEach [e] env = (false, eval e env) :: starEach [] env := by intro; rfl) : EvF C env ρ ω n (.Call (.Name "list" p) [e] [] pos) ds := fun A s he b0 b G I =>
  blt_head K hx (by decide) rfl (by decide) (by decide) I (PyProof.Rows.callWith_type1 (wpAny_items_cons ((h A s he b0 b G I).any fun v1 s1 ⟨b1, x1, r1⟩ => wpAny_items_nil (by
    obtain ⟨l1, vs1, m1, rfl, g1, q1, _⟩ := r1
    have z := q1.length
    rw [Array.length_toList] at z
    refine call_list_seq l1 (.inl rfl) g1 rfl rfl (fun h' c' hk hg => ?_) (by rw [sizeLine_eq]; omega)
    exact ⟨_, x1.trans (.grow x1.bh hk), _, vs1, c', rfl, x1.hh.none (get_size _), x1.bh.none (get_size _), hg, q1⟩)) (hs _)) (hs _))
end Nn

-- part L4
namespace Nn
variable {C : Ct} {env : Env} {ρ : Ro} {ω : Om} {n : Nat}
open PySem (Expr)

-- the frame's own objects are apart
theorem ns_ne_cell {h : Heap} {L c : Addr} {m : Str → Option Value} {v0 : Option Value} (n : h.Ns L m) (k : h.IsCell c v0) : c ≠ L := fun e => by
  obtain ⟨o, es, ep, ho, hd, _⟩ := n
  obtain ⟨o', ho', hd'⟩ := k
  subst e; rw [ho] at ho'; cases ho'; rw [hd] at hd'; cases hd'
theorem ns_ne_lst {h : Heap} {L l : Addr} {m : Str → Option Value} {vs : Array Value} {k : Nat} (n : h.Ns L m) (g : h.get? l = some (lstO vs k)) : l ≠ L := fun e => by
  obtain ⟨o, es, ep, ho, hd, _⟩ := n
  subst e; rw [ho] at g; cases g; cases hd
theorem cell_ne_lst {h : Heap} {c l : Addr} {v0 : Option Value} {vs : Array Value} {k : Nat} (n : h.IsCell c v0) (g : h.get? l = some (lstO vs k)) : l ≠ c := fun e => by
  obtain ⟨o, ho, hd⟩ := n
  subst e; rw [ho] at g; cases g; cases hd

theorem ns_unique {h : Heap} {L : Addr} {m m' : Str → Option Value} (n : h.Ns L m) (n' : h.Ns L m') : m = m' := by
  obtain ⟨o, es, ep, ho, hd, _, hf⟩ := n
  obtain ⟨o', es', ep', ho', hd', _, hf'⟩ := n'
  rw [ho] at ho'; cases ho'
  rw [hd] at hd'; cases hd'
  exact funext fun x => (hf x).symm.trans (hf' x)

def Storable (env : Env) (x : Str) : Prop := env.kindOf x = some .local ∨ (env.kindOf x = some .cell ∧ (env.cells.lookup x).isSome = true)

theorem lookup_cons {α : Type} (y x : Str) (d : α) (l : List (Str × α)) : List.lookup y ((x, d) :: l) = if y = x then some d else List.lookup y l := by
  rw [List.lookup_cons]
  by_cases h : y = x
  · subst h; simp
  · rw [if_neg h, show (y == x) = false from by simpa using h]

theorem lookup_erase {α : Type} (x : Str) : ∀ (l : List (Str × α)) (y : Str), List.lookup y (l.filter fun p => p.1 != x) = if y = x then none else l.lookup y
  | [], y => by simp
  | (z, d) :: l, y => by
    rw [lookup_cons]
    by_cases h : z = x
    · subst h
      rw [List.filter_cons_of_neg (by simp), lookup_erase z l y]
      by_cases q : y = z <;> simp [q]
    · rw [List.filter_cons_of_pos (by simpa using h), lookup_cons, lookup_erase x l y]
      by_cases q : y = z
      · subst q; simp [h]
      · simp [q]
def rm {α : Type} (x : Str) (l : List (Str × α)) : List (Str × α) := l.filter fun p => p.1 != x
theorem rm_lookup {α : Type} (x y : Str) (l : List (Str × α)) : (rm x l).lookup y = if y = x then none else l.lookup y := lookup_erase x l y

theorem store_raw {A : Around} {s : Shared} {he : Heap} {b0 b : View} {x : Str} {v : Value} (I : Inv C.g0 he b0 b s.heap env ρ ω) (hx : Storable env x) (hω : ω.lookup x = none) {Q : Unit → Shared → Prop}
    (h : ∀ h' tk, Inv C.g0 he b0 b h' env (rm x ρ) ω → Sees h' env x v → (∀ a o, a ≠ env.locals → (∀ c, env.cells.lookup x = some c → a ≠ c) → s.heap.get? a = some o → h'.get? a = some o) →
      (∀ ad, Own b s.heap env he ω ad → Own b h' env he ω ad) → Q () { s with heap := h', toks := tk }) : wpX C A (storeName env x v) Q s := by
  obtain ⟨m, hn⟩ := I.ns
  rcases hx with hl | ⟨hc, hs⟩
  · refine wpAny_storeName_local hl hn (fun h' hn' sb => ?_) (by rw [I.ok.kind]; rfl)
    have keep : ∀ a o, a ≠ env.locals → s.heap.get? a = some o → h'.get? a = some o := fun a o ne e => sb.extBut a o ne e
    have keepB : Sub b h'.get? := fun a o e => keep a o (fun q => by subst q; rw [I.nsb] at e; cases e) (I.bh a o e)
    have own' : ∀ ad, Own b s.heap env he ω ad → Own b h' env he ω ad := fun ad O => by
      refine ⟨fun y ds e => ?_, O.apart⟩
      have q : y ≠ x := fun q => by subst q; rw [hω] at e; cases e
      obtain ⟨S, ⟨vs, k, g1, g2⟩, g3, g4⟩ := O.at' y ds e
      refine ⟨?_, ⟨vs, k, keep _ _ (ns_ne_lst hn g1) g1, g2⟩, g3, g4⟩
      cases S with
      | loc m' k n' em =>
        have : m' = m := ns_unique n' hn
        subst this
        exact .loc _ k hn' (by simpa [q] using em)
      | cell c k lk ic => exact .cell c k lk (ic.sameBut sb (ns_ne_cell hn ic))
    refine h h' _ ?_ (.loc _ hl hn' (by simp)) (fun a o ne _ e => keep a o ne e) own'
    exact {
      ok := I.ok, g := I.g, bh := keepB, b0b := I.b0b, new := I.new, nsb := I.nsb, nse := I.nse, cdist := I.cdist
      eh := fun a o e => keep a o (fun q => by subst q; rw [I.nse] at e; cases e) (I.eh a o e)
      ns := ⟨_, hn'⟩
      cel := fun y c e => by
        obtain ⟨⟨v0, hv⟩, h2, h3⟩ := I.cel y c e
        exact ⟨⟨v0, hv.sameBut sb (ns_ne_cell hn hv)⟩, h2, h3⟩
      var := fun y d' e => by
        rw [rm_lookup] at e
        by_cases q : y = x
        · rw [if_pos q] at e; cases e
        · rw [if_neg q] at e
          obtain ⟨v', S, r'⟩ := I.var y d' e
          refine ⟨v', ?_, r'⟩
          cases S with
          | loc m' k n' em =>
            have : m' = m := ns_unique n' hn
            subst this
            exact .loc _ k hn' (by simpa [q] using em)
          | cell c k lk ic => exact .cell c k lk (ic.sameBut sb (ns_ne_cell hn ic))
      own := let ⟨ad, O⟩ := I.own; ⟨ad, own' ad O⟩ }
  · obtain ⟨c, hcl⟩ := Option.isSome_iff_exists.mp hs
    obtain ⟨⟨v0, hv0⟩, c2, c3⟩ := I.cel x c hcl
    refine wpAny_storeName_cell I.ok.kind hc hcl hv0 (fun h' hv' sb => ?_)
    have keep : ∀ a o, a ≠ c → s.heap.get? a = some o → h'.get? a = some o := fun a o ne e => sb.extBut a o ne e
    have keepB : Sub b h'.get? := fun a o e => keep a o (fun q => by subst q; rw [c2] at e; cases e) (I.bh a o e)
    have hcL : c ≠ env.locals := ns_ne_cell hn hv0
    have own' : ∀ ad, Own b s.heap env he ω ad → Own b h' env he ω ad := fun ad O => by
      refine ⟨fun y ds e => ?_, O.apart⟩
      have q : y ≠ x := fun q => by subst q; rw [hω] at e; cases e
      obtain ⟨S, ⟨vs, k, g1, g2⟩, g3, g4⟩ := O.at' y ds e
      refine ⟨?_, ⟨vs, k, keep _ _ (cell_ne_lst hv0 g1) g1, g2⟩, g3, g4⟩
      cases S with
      | loc m' k n' em => exact .loc _ k (n'.sameBut sb (Ne.symm hcL)) em
      | cell c' k lk ic => exact .cell c' k lk (ic.sameBut sb (fun p => q (I.cdist y x c' lk (p ▸ hcl))))
    refine h h' _ ?_ (.cell c (.inl hc) hcl hv') (fun a o _ ne e => keep a o (ne c hcl) e) own'
    have hn' : h'.Ns env.locals m := hn.sameBut sb (Ne.symm hcL)
    exact {
      ok := I.ok, g := I.g, bh := keepB, b0b := I.b0b, new := I.new, nsb := I.nsb, nse := I.nse, cdist := I.cdist
      eh := fun a o e => keep a o (fun q => by subst q; rw [c3] at e; cases e) (I.eh a o e)
      ns := ⟨_, hn'⟩
      cel := fun y c' e => by
        obtain ⟨⟨v1, hv⟩, h2, h3⟩ := I.cel y c' e
        by_cases q : c' = c
        · subst q; exact ⟨⟨_, hv'⟩, h2, h3⟩
        · exact ⟨⟨v1, hv.sameBut sb q⟩, h2, h3⟩
      var := fun y d' e => by
        rw [rm_lookup] at e
        by_cases q : y = x
        · rw [if_pos q] at e; cases e
        · rw [if_neg q] at e
          obtain ⟨v', S, r'⟩ := I.var y d' e
          refine ⟨v', ?_, r'⟩
          cases S with
          | loc m' k n' em => exact .loc _ k (n'.sameBut sb (Ne.symm hcL)) em
          | cell c' k lk ic => exact .cell c' k lk (ic.sameBut sb (fun p => q (I.cdist y x c' lk (p ▸ hcl))))
      own := let ⟨ad, O⟩ := I.own; ⟨ad, own' ad O⟩ }

/-- a value of the base is stored -/
theorem store_base {A : Around} {s : Shared} {he : Heap} {b0 b : View} {x : Str} {v : Value} {d : PyData} (I : Inv C.g0 he b0 b s.heap env ρ ω) (hx : Storable env x) (hω : ω.lookup x = none) (r : Rp b v d) {Q : Unit → Shared → Prop}
    (h : ∀ h' tk, Inv C.g0 he b0 b h' env ((x, d) :: ρ) ω → (∀ a o, a ≠ env.locals → (∀ c, env.cells.lookup x = some c → a ≠ c) → s.heap.get? a = some o → h'.get? a = some o) → Q () { s with heap := h', toks := tk }) : wpX C A (storeName env x v) Q s :=
  store_raw I hx hω fun h' tk I' S keep _ => h h' tk { I' with
    var := fun y d' e => by
      rw [lookup_cons] at e
      by_cases q : y = x
      · subst q; rw [if_pos rfl] at e; cases e; exact ⟨v, S, r⟩
      · rw [if_neg q] at e; exact I'.var y d' (by rw [rm_lookup, if_neg q]; exact e) } keep

-- statements
inductive Res where
  | next (ρ : Ro) (ω : Om)
  | cont (ρ : Ro) (ω : Om)
  | ret (d : PyData)
structure Fin (C : Ct) (he : Heap) (b0 b : View) (h : Heap) : Prop where
  g : Sub C.g0.get? b
  bh : Sub b h.get?
  eh : Sub he.get? h.get?
  b0b : Sub b0 b
  new : ∀ a o, b a = some o → b0 a = some o ∨ he.get? a = none
theorem Inv.fin {he : Heap} {b0 b : View} {h : Heap} (I : Inv C.g0 he b0 b h env ρ ω) : Fin C he b0 b h := ⟨I.g, I.bh, I.eh, I.b0b, I.new⟩
def ResOk (C : Ct) (he : Heap) (b0 : View) (env : Env) (r : Res) (fl : Flow) (s : Shared) : Prop := match r, fl with
  | .next ρ ω, .next => ∃ b, Inv C.g0 he b0 b s.heap env ρ ω
  | .cont ρ ω, .cont => ∃ b, Inv C.g0 he b0 b s.heap env ρ ω
  | .ret d, .ret v => ∃ b, Fin C he b0 b s.heap ∧ Rp b v d
  | _, _ => False
def Sm (s s' : Shared) : Prop := ∃ h tk, s' = { s with heap := h, toks := tk }
theorem Sm.refl (s : Shared) : Sm s s := ⟨_, _, rfl⟩
theorem Sm.trans {s s' s'' : Shared} : Sm s s' → Sm s' s'' → Sm s s''
  | ⟨_, _, e⟩, ⟨h, t, e'⟩ => by subst e; exact ⟨h, t, e'⟩
def StX (C : Ct) (env : Env) (ρ : Ro) (ω : Om) (n : Nat) (ss : List Stmt) (K : Res → Prop) : Prop :=
  ∀ A s he b0 b, Good A n → Inv C.g0 he b0 b s.heap env ρ ω → wpX C A (execs ss env) (fun fl s' => Sm s s' ∧ ∃ r, K r ∧ ResOk C he b0 env r fl s') s

theorem StX.nil {K : Res → Prop} (h : K (.next ρ ω)) : StX C env ρ ω n [] K := fun A s he b0 b G I => wpAny_execs_nil ⟨.refl _, _, h, b, I⟩
theorem StX.mono {ss} {K K' : Res → Prop} (h : StX C env ρ ω n ss K) (k : ∀ r, K r → K' r) : StX C env ρ ω n ss K' := fun A s he b0 b G I =>
  (h A s he b0 b G I).any fun fl s' ⟨m, r, q, o⟩ => ⟨m, r, k r q, o⟩
/-- one statement that goes on to the next -/
theorem StX.seq1 {st rest} {K : Res → Prop} {ρ' : Ro} {ω' : Om}
    (h : ∀ A s he b0 b, Good A n → Inv C.g0 he b0 b s.heap env ρ ω → wpX C A (exec st env) (fun fl s' => fl = .next ∧ Sm s s' ∧ ∃ b', Inv C.g0 he b0 b' s'.heap env ρ' ω') s)
    (k : StX C env ρ' ω' n rest K) : StX C env ρ ω n (st :: rest) K := fun A s he b0 b G I =>
  wpAny_execs_cons ((h A s he b0 b G I).any fun fl s' ⟨e, m, b', I'⟩ => by
    subst e
    exact (k A s' he b0 b' G I').any fun fl s'' ⟨m', r, q, o⟩ => ⟨m.trans m', r, q, o⟩)

theorem StX.ret {e pos rest d} {K : Res → Prop} (h : EvX C env ρ ω n e d) (k : K (.ret d)) : StX C env ρ ω n (.Return (some e) pos :: rest) K := fun A s he b0 b G I =>
  wpAny_execs_cons (wpAny_Return_some ((h A s he b0 b G I).any fun v s1 ⟨b1, x1, r⟩ => ⟨x1.same, _, k, b1, (I.step x1).fin, r⟩))
/-- an owned list is frozen -/
theorem Inv.freeze {he : Heap} {b0 b : View} {h : Heap} {x : Str} {ds : List PyData} (I : Inv C.g0 he b0 b h env ρ ω) (hx : ω.lookup x = some ds) (hω : ∀ y, List.lookup y (ω.filter fun p => p.1 != x) = if y = x then none else ω.lookup y) :
    ∃ b', Inv C.g0 he b0 b' h env ((x, .list ds) :: ρ) (ω.filter fun p => p.1 != x) := by
  obtain ⟨ad, O⟩ := I.own
  obtain ⟨m, hn⟩ := I.ns
  obtain ⟨S, ⟨vs, k, g1, g2⟩, g3, g4⟩ := O.at' x ds hx
  have nb : ∀ a, a ≠ ad x → b a = none → ins b h (ad x) a = none := fun a ne e => by rw [ins_ne ne]; exact e
  refine ⟨ins b h (ad x), ?_⟩
  exact {
    ok := I.ok, g := I.g.trans (I.bh.ins _), bh := ins_sub _ I.bh, eh := I.eh, b0b := I.b0b.trans (I.bh.ins _), ns := I.ns, nse := I.nse, cdist := I.cdist
    new := fun a o e => by
      by_cases q : a = ad x
      · subst q; exact .inr g4
      · rw [ins_ne q] at e; exact I.new a o e
    nsb := nb _ (Ne.symm (ns_ne_lst hn g1)) I.nsb
    cel := fun y c e => by
      obtain ⟨⟨v0, hv⟩, h2, h3⟩ := I.cel y c e
      exact ⟨⟨v0, hv⟩, nb _ (Ne.symm (cell_ne_lst hv g1)) h2, h3⟩
    var := fun y d e => by
      rw [lookup_cons] at e
      by_cases q : y = x
      · subst q; rw [if_pos rfl] at e; cases e
        exact ⟨_, S, .lst (by rw [ins_same]; exact g1) (g2.mono (I.bh.ins _))⟩
      · rw [if_neg q] at e
        obtain ⟨v, S', r⟩ := I.var y d e
        exact ⟨v, S', r.mono (I.bh.ins _)⟩
    own := by
      refine ⟨ad, ⟨fun y ds' e => ?_, fun y z dy dz e1 e2 q => ?_⟩⟩
      · rw [hω] at e
        by_cases q : y = x
        · rw [if_pos q] at e; cases e
        · rw [if_neg q] at e
          obtain ⟨S', ⟨vs', k', p1, p2⟩, p3, p4⟩ := O.at' y ds' e
          exact ⟨S', ⟨vs', k', p1, p2.mono (I.bh.ins _)⟩, nb _ (fun p => q (O.apart y x _ _ e hx p)) p3, p4⟩
      · rw [hω] at e1 e2
        split at e1
        · cases e1
        · split at e2
          · cases e2
          · exact O.apart y z _ _ e1 e2 q }
theorem StX.freeze {x ds ss} {K : Res → Prop} (hx : ω.lookup x = some ds) (h : StX C env ((x, .list ds) :: ρ) (ω.filter fun p => p.1 != x) n ss K) : StX C env ρ ω n ss K := fun A s he b0 b G I => by
  obtain ⟨b', I'⟩ := I.freeze hx (lookup_erase x ω)
  exact h A s he b0 b' G I'
theorem Inv.weaken {he : Heap} {b0 b : View} {h : Heap} {ρ' : Ro} {ω' : Om} (I : Inv C.g0 he b0 b h env ρ ω) (k : ∀ x d, ρ'.lookup x = some d → ρ.lookup x = some d) (k' : ∀ x d, ω'.lookup x = some d → ω.lookup x = some d) : Inv C.g0 he b0 b h env ρ' ω' :=
  { I with
    var := fun x d e => I.var x d (k x d e)
    own := let ⟨ad, O⟩ := I.own; ⟨ad, ⟨fun x ds e => O.at' x ds (k' x ds e), fun x y dx dy e1 e2 => O.apart x y dx dy (k' _ _ e1) (k' _ _ e2)⟩⟩ }
theorem StX.weaken {ss} {K : Res → Prop} {ρ' : Ro} {ω' : Om} (h : StX C env ρ' ω' n ss K) (k : ∀ x d, ρ'.lookup x = some d → ρ.lookup x = some d) (k' : ∀ x d, ω'.lookup x = some d → ω.lookup x = some d) : StX C env ρ ω n ss K := fun A s he b0 b G I =>
  h A s he b0 b G (I.weaken k k')

theorem StX.assign {x p e pos rest d} {K : Res → Prop} (h : EvX C env ρ ω n e d) (hx : Storable env x) (hω : ω.lookup x = none) (k : StX C env ((x, d) :: ρ) ω n rest K)
    (hs : ∀ env, swapsWith e (some (.Name x p)) pos.line env = pure false := by intro; rfl) : StX C env ρ ω n (.Assign [.Name x p] e pos :: rest) K :=
  .seq1 (fun A s he b0 b G I => wpAny_Assign_Name ((h A s he b0 b G I).any fun v s1 ⟨b1, x1, r⟩ => store_base (I.step x1) hx hω r fun h' tk I' _ => ⟨rfl, x1.same.elim fun h e => e.elim fun t e => by subst e; exact ⟨h', tk, rfl⟩, b1, I'⟩) (hs _)) k

theorem StX.ite {test body orelse pos rest} {t : Bool} {K : Res → Prop} (h : TrX C env ρ ω n test t)
    (k : StX C env ρ ω n (if t then body else orelse) (fun r => match r with | .next ρ' ω' => StX C env ρ' ω' n rest K | r => K r)) : StX C env ρ ω n (.If test body orelse pos :: rest) K := fun A s he b0 b G I =>
  wpAny_execs_cons (wpAny_If ((h A s he b0 b G I).any fun v s1 ⟨b1, x1, r⟩ => by
    subst r
    have go : wpX C A (execs (if v then body else orelse) env) (fun f s' => match f with | .next => wpAny (model C.prog C.w) A (execs rest env) (fun fl s' => Sm s s' ∧ ∃ r, K r ∧ ResOk C he b0 env r fl s') None2 s' | f => Sm s s' ∧ ∃ r, K r ∧ ResOk C he b0 env r f s') s1 :=
      (k A s1 he b0 b1 G (I.step x1)).any fun fl s2 ⟨m, r, q, o⟩ => by
        have m' : Sm s s2 := Sm.trans x1.same m
        cases r with
        | next ρ' ω' =>
          cases fl with
          | next =>
            obtain ⟨b2, I2⟩ := o
            exact (q A s2 he b0 b2 G I2).any fun fl s3 ⟨m2, r2, q2, o2⟩ => ⟨m'.trans m2, r2, q2, o2⟩
          | _ => exact o.elim
        | cont ρ' ω' =>
          cases fl with
          | cont => exact ⟨m', _, q, o⟩
          | _ => exact o.elim
        | ret d =>
          cases fl with
          | ret v => exact ⟨m', _, q, o⟩
          | _ => exact o.elim
    cases v <;> exact go))
/-- both ways apart: the way taken, then the rest -/
theorem StX.iteT {test body orelse pos rest} {t : Bool} {K : Res → Prop} (h : TrX C env ρ ω n test t)
    (k1 : t = true → StX C env ρ ω n body (fun r => match r with | .next ρ' ω' => StX C env ρ' ω' n rest K | r => K r))
    (k2 : t = false → StX C env ρ ω n orelse (fun r => match r with | .next ρ' ω' => StX C env ρ' ω' n rest K | r => K r)) : StX C env ρ ω n (.If test body orelse pos :: rest) K := by
  refine .ite h ?_
  cases t
  · exact k2 rfl
  · exact k1 rfl
theorem StX.cont {pos rest} {K : Res → Prop} (h : K (.cont ρ ω)) : StX C env ρ ω n (.Continue pos :: rest) K := fun A s he b0 b G I =>
  wpAny_execs_cons (wpAny_Continue ⟨.refl _, _, h, b, I⟩)
end Nn

-- part L5
namespace Nn
variable {C : Ct} {env : Env} {ρ : Ro} {ω : Om} {n : Nat}
open PySem (Expr)

/-- a new list is stored and owned -/
theorem store_own' {A : Around} {s : Shared} {he : Heap} {b0 b : View} {x : Str} {l : Addr} {vs : Array Value} {k : Nat} {ds : List PyData} (I : Inv C.g0 he b0 b s.heap env ρ ω) (hx : Storable env x) (hω : ω.lookup x = none)
    (g : s.heap.get? l = some (lstO vs k)) (r : RpAll b vs.toList ds) (gb : b l = none) (ge : he.get? l = none) {ad : Str → Addr} (O0 : Own b s.heap env he ω ad) (hne : ∀ y dy, ω.lookup y = some dy → ad y ≠ l) {Q : Unit → Shared → Prop}
    (h : ∀ h' tk, Inv C.g0 he b0 b h' env (rm x ρ) ((x, ds) :: ω) → (∀ a o, a ≠ env.locals → (∀ c, env.cells.lookup x = some c → a ≠ c) → s.heap.get? a = some o → h'.get? a = some o) →
      ∀ ad', Own b h' env he ((x, ds) :: ω) ad' → ad' x = l → (∀ y, y ≠ x → ad' y = ad y) → Q () { s with heap := h', toks := tk }) : wpX C A (storeName env x (.ref l)) Q s := by
  obtain ⟨m0, hn0⟩ := I.ns
  refine store_raw I hx hω fun h' tk I' S keep ow => ?_
  have gl : h'.get? l = some (lstO vs k) := keep l _ (ns_ne_lst hn0 g) (fun c e => by
    obtain ⟨⟨v0, hv⟩, _⟩ := I.cel x c e
    exact cell_ne_lst hv g) g
  have O := ow ad O0
  have ON : Own b h' env he ((x, ds) :: ω) (fun y => if y = x then l else ad y) := by
      refine ⟨fun y dy e => ?_, fun y z dy dz e1 e2 q => ?_⟩
      · rw [lookup_cons] at e
        by_cases q : y = x
        · subst q; rw [if_pos rfl] at e; cases e
          simp only [if_true]
          exact ⟨S, ⟨vs, k, gl, r⟩, gb, ge⟩
        · rw [if_neg q] at e; simp only [if_neg q]
          exact O.at' y dy e
      · rw [lookup_cons] at e1 e2
        by_cases p1 : y = x <;> by_cases p2 : z = x
        · rw [p1, p2]
        · rw [if_pos p1, if_neg p2] at q
          rw [if_neg p2] at e2
          exact absurd q.symm (hne z _ e2)
        · rw [if_neg p1, if_pos p2] at q
          rw [if_neg p1] at e1
          exact absurd q (hne y _ e1)
        · rw [if_neg p1, if_neg p2] at q
          rw [if_neg p1] at e1
          rw [if_neg p2] at e2
          exact O.apart y z _ _ e1 e2 q
  exact h h' tk { I' with own := ⟨_, ON⟩ } keep _ ON (if_pos rfl) fun y hy => if_neg hy
theorem store_own {A : Around} {s : Shared} {he : Heap} {b0 b : View} {x : Str} {l : Addr} {vs : Array Value} {k : Nat} {ds : List PyData} (I : Inv C.g0 he b0 b s.heap env ρ ω) (hx : Storable env x) (hω : ω.lookup x = none)
    (g : s.heap.get? l = some (lstO vs k)) (r : RpAll b vs.toList ds) (gb : b l = none) (ge : he.get? l = none) (hd : ∃ ad, Own b s.heap env he ω ad ∧ ∀ y dy, ω.lookup y = some dy → ad y ≠ l) {Q : Unit → Shared → Prop}
    (h : ∀ h' tk, Inv C.g0 he b0 b h' env (rm x ρ) ((x, ds) :: ω) → Q () { s with heap := h', toks := tk }) : wpX C A (storeName env x (.ref l)) Q s :=
  let ⟨_, O0, hne⟩ := hd
  store_own' I hx hω g r gb ge O0 hne fun h' tk I' _ _ _ _ _ => h h' tk I'

theorem Own.step {he : Heap} {b b' : View} {s s' : Shared} {ad : Str → Addr} (O : Own b s.heap env he ω ad) (x : Step b s b' s') : Own b' s'.heap env he ω ad := by
  refine ⟨fun y ds e => ?_, O.apart⟩
  obtain ⟨h1, ⟨vs, n, h2, h3⟩, h4, h5⟩ := O.at' y ds e
  refine ⟨h1.keeps x.hh, ⟨vs, n, x.hh _ _ h2, h3.mono x.bb⟩, ?_, h5⟩
  cases q : b' (ad y) with
  | none => rfl
  | some o' =>
    rcases x.new _ o' q with p | p
    · rw [h4] at p; cases p
    · rw [h2] at p; cases p

/-- a new list is assigned and owned -/
theorem StX.assignF {x p e pos rest ds} {K : Res → Prop} (h : EvF C env ρ ω n e ds) (hx : Storable env x) (hω : ω.lookup x = none) (k : StX C env (rm x ρ) ((x, ds) :: ω) n rest K)
    (hs : ∀ env, swapsWith e (some (.Name x p)) pos.line env = pure false := by intro; rfl) : StX C env ρ ω n (.Assign [.Name x p] e pos :: rest) K :=
  .seq1 (fun A s he b0 b G I => wpAny_Assign_Name ((h A s he b0 b G I).any fun v s1 ⟨b1, x1, l, vs, m, e, h1, h2, h3, h4⟩ => by
    subst e
    obtain ⟨ad, O⟩ := I.own
    exact store_own (I.step x1) hx hω h3 h4 h2 (I.eh.none h1) ⟨ad, O.step x1, fun y dy e q => by
      obtain ⟨_, ⟨vs', m', g, _⟩, _⟩ := O.at' y dy e
      rw [q, h1] at g; cases g⟩ fun h' tk I' => ⟨rfl, x1.same.elim fun h e => e.elim fun t e => by subst e; exact ⟨h', tk, rfl⟩, b1, I'⟩) (hs _)) k

/-- the owned list at x is changed -/
theorem Inv.change {he : Heap} {b0 b : View} {h h' : Heap} {x : Str} {ds ds' : List PyData} (I : Inv C.g0 he b0 b h env ρ ω) {ad : Str → Addr} (O : Own b h env he ω ad) (hx : ω.lookup x = some ds)
    (sb : Heap.SameBut (ad x) h h') {vs : Array Value} {k : Nat} (g : h'.get? (ad x) = some (lstO vs k)) (r : RpAll b vs.toList ds') : Inv C.g0 he b0 b h' env ρ ((x, ds') :: ω) := by
  obtain ⟨S, ⟨vs0, k0, g1, g2⟩, g3, g4⟩ := O.at' x ds hx
  obtain ⟨m, hn⟩ := I.ns
  have keep : ∀ a o, a ≠ ad x → h.get? a = some o → h'.get? a = some o := fun a o ne e => sb.extBut a o ne e
  have seesK : ∀ {y v}, Sees h env y v → Sees h' env y v := fun S => by
    cases S with
    | loc m' q n' em => exact .loc m' q (n'.sameBut sb (Ne.symm (ns_ne_lst n' g1))) em
    | cell c q lk ic => exact .cell c q lk (ic.sameBut sb (Ne.symm (cell_ne_lst ic g1)))
  exact {
    ok := I.ok, g := I.g, b0b := I.b0b, new := I.new, nsb := I.nsb, nse := I.nse, cdist := I.cdist
    bh := fun a o e => keep a o (fun q => by subst q; rw [g3] at e; cases e) (I.bh a o e)
    eh := fun a o e => keep a o (fun q => by subst q; rw [g4] at e; cases e) (I.eh a o e)
    ns := ⟨m, hn.sameBut sb (Ne.symm (ns_ne_lst hn g1))⟩
    cel := fun y c e => by
      obtain ⟨⟨v0, hv⟩, h2, h3⟩ := I.cel y c e
      exact ⟨⟨v0, hv.sameBut sb (Ne.symm (cell_ne_lst hv g1))⟩, h2, h3⟩
    var := fun y d e => let ⟨v, S, r⟩ := I.var y d e; ⟨v, seesK S, r⟩
    own := by
      refine ⟨ad, ⟨fun y dy e => ?_, fun y z dy dz e1 e2 q => ?_⟩⟩
      · rw [lookup_cons] at e
        by_cases q : y = x
        · subst q; rw [if_pos rfl] at e; cases e
          exact ⟨seesK S, ⟨vs, k, g, r⟩, g3, g4⟩
        · rw [if_neg q] at e
          obtain ⟨p1, ⟨vs', k', p2, p3⟩, p4, p5⟩ := O.at' y dy e
          exact ⟨seesK p1, ⟨vs', k', keep _ _ (fun p => q (O.apart y x _ _ e hx p)) p2, p3⟩, p4, p5⟩
      · rw [lookup_cons] at e1 e2
        have f : ∀ {y d}, (if y = x then some ds' else List.lookup y ω) = some d → ∃ d', List.lookup y ω = some d' := fun {y d} e => by
          split at e
          · rename_i p; subst p; exact ⟨_, hx⟩
          · exact ⟨_, e⟩
        obtain ⟨_, e1⟩ := f e1
        obtain ⟨_, e2⟩ := f e2
        exact O.apart y z _ _ e1 e2 q }

theorem StX.exprStmt {e epos rest ρ' ω'} {K : Res → Prop} (hs : ∀ env, swapsWith e none epos.line env = pure false)
    (h : ∀ A s he b0 b, Good A n → Inv C.g0 he b0 b s.heap env ρ ω → wpX C A (eval e env) (fun v s' => Sm s s' ∧ ∃ b', Inv C.g0 he b0 b' s'.heap env ρ' ω') s)
    (k : StX C env ρ' ω' n rest K) : StX C env ρ ω n (.Expr e epos :: rest) K :=
  .seq1 (fun A s he b0 b G I => by
    rw [exec_Expr env e epos (by unfold interactive; rw [I.ok.kind]; rfl) (hs env)]
    exact wpAny_bind (wpAny_standAt (wpAny_bind ((h A s he b0 b G I).any fun v s1 q => wpAny_dropValue ⟨rfl, q⟩)))) k

theorem mapSeq_lst (f : Array Value → Array Value) (vs : Array Value) (k : Nat) : ∃ k', Obj.mapSeq f (lstO vs k) = lstO (f vs) k' := by
  by_cases h : (f vs).size = vs.size
  · exact ⟨k, by simp [Obj.mapSeq, h]⟩
  · exact ⟨k + 1, by simp [Obj.mapSeq, h]⟩
theorem noDictL {s : Shared} {l : Addr} {vs : Array Value} {m : Nat} (g : s.heap.get? l = some (lstO vs m)) : s.heap.NoDictAt (.ref l) := ⟨_, g, rfl⟩

theorem StX.append {x p apos cpos epos e rest ds d} {pl : Env → Sem Bool} {K : Res → Prop} (hx : ω.lookup x = some ds) (h : EvX C env ρ ω n e d) (hl : ds.length ≤ 1000) (k : StX C env ρ ((x, ds ++ [d]) :: ω) n rest K)
    (he : ∀ env, eval (.Call (.Attribute (.Name x p) "append" apos) [e] [] cpos) env = (do
      let ov ← eval (.Name x p) env
      standAt apos.atName
      let (f, first) ← holding [ov] (getMethod ov "append" (pl env))
      callWith cpos f first (backTo cpos (starEach [e] env)) []) := by intro; rfl)
    (hs : ∀ env, starEach [e] env = (false, eval e env) :: starEach [] env := by intro; rfl)
    (hd : (x == ("__debug__" : Str)) = false := by decide) (hw : ∀ env, swapsWith (.Call (.Attribute (.Name x p) "append" apos) [e] [] cpos) none epos.line env = pure false := by intro; rfl) :
    StX C env ρ ω n (.Expr (.Call (.Attribute (.Name x p) "append" apos) [e] [] cpos) epos :: rest) K :=
  .exprStmt hw (fun A s he' b0 b G I => by
    obtain ⟨ad, O⟩ := I.own
    obtain ⟨S, ⟨vs, m, g1, g2⟩, g3, g4⟩ := O.at' x ds hx
    refine MethodCall_ (wpAny_Name (S.load I.ok.kind ?_) hd) (he env)
    refine getMethod_list_append g1 rfl rfl ?_
    refine callWith_method1 (wpAny_items_cons ((h A s he' b0 b G I).any fun v s1 ⟨b1, x1, r⟩ => wpAny_items_nil ?_) (hs _)) (hs _)
    have O1 := O.step (ω := ω) x1
    obtain ⟨S1, ⟨vs1, m1, p1, p2⟩, p3, p4⟩ := O1.at' x ds hx
    have z := p2.length
    rw [Array.length_toList] at z
    refine append_at p1 (fun h' sb g => ⟨x1.same.elim fun h e => e.elim fun t e => by subst e; exact ⟨h', _, rfl⟩, b1, ?_⟩) (by rw [sizeLine_eq]; omega)
    exact (I.step x1).change O1 hx sb g (by rw [Array.toList_push]; exact p2.append (.cons r .nil))) k

theorem StX.pop {x p apos cpos epos rest} {pl : Env → Sem Bool} {ds : List PyData} {d : PyData} {K : Res → Prop} (hx : ω.lookup x = some (ds ++ [d])) (hl : ds.length < 1000) (k : StX C env ρ ((x, ds) :: ω) n rest K)
    (he : ∀ env, eval (.Call (.Attribute (.Name x p) "pop" apos) [] [] cpos) env = (do
      let ov ← eval (.Name x p) env
      standAt apos.atName
      let (f, first) ← holding [ov] (getMethod ov "pop" (pl env))
      callWith cpos f first (backTo cpos (starEach [] env)) []) := by intro; rfl)
    (hd : (x == ("__debug__" : Str)) = false := by decide) (hw : ∀ env, swapsWith (.Call (.Attribute (.Name x p) "pop" apos) [] [] cpos) none epos.line env = pure false := by intro; rfl) :
    StX C env ρ ω n (.Expr (.Call (.Attribute (.Name x p) "pop" apos) [] [] cpos) epos :: rest) K :=
  .exprStmt hw (fun A s he' b0 b G I => by
    obtain ⟨ad, O⟩ := I.own
    obtain ⟨S, ⟨vs, m, g1, g2⟩, g3, g4⟩ := O.at' x _ hx
    refine MethodCall_ (wpAny_Name (S.load I.ok.kind ?_) hd) (he env)
    refine getMethod_list_of PySem.F.slot_list_pop rfl (isListL g1) (noDictL g1) ?_
    have z := g2.length
    rw [Array.length_toList, List.length_append] at z
    simp only [List.length_cons, List.length_nil] at z
    obtain ⟨y, hy, _⟩ := g2.get (i := ds.length) (d := d) (by simp)
    refine P.pop_list g1 (y := y) (by rw [z, ← Array.getElem?_toList]; exact hy) ?_ (by rw [sizeLine_eq]; omega)
    obtain ⟨k', hk'⟩ := mapSeq_lst (fun xs => xs.eraseIdxIfInBounds (vs.size - 1)) vs m
    have g' := Heap.get?_update_self (Obj.mapSeq fun xs => xs.eraseIdxIfInBounds (vs.size - 1)) g1 (by rw [hk']; rfl)
    rw [hk'] at g'
    refine ⟨⟨_, _, rfl⟩, b, I.change O hx (Heap.SameBut.update ..) g' ?_⟩
    have e2 : (vs.eraseIdxIfInBounds (vs.size - 1)).toList = vs.toList.take ds.length := by
      rw [Array.eraseIdxIfInBounds, dif_pos (by omega), Array.toList_eraseIdx, z, List.eraseIdx_eq_take_drop_succ, List.drop_of_length_le (by rw [Array.length_toList]; omega)]
      simp
    rw [e2]
    have := g2.take ds.length
    rwa [List.take_left] at this) k

theorem StX.setItem {x p i e tpos pos rest ds d} {j : Int} {K : Res → Prop} (hx : ω.lookup x = some ds) (h : EvX C env ρ ω n e d) (hi : EvX C env ρ ω n i (.int j)) (h0 : 0 ≤ j) (hj : j < ds.length) (hl : ds.length ≤ 1000)
    (k : StX C env ρ ((x, ds.set j.toNat d) :: ω) n rest K) (hd : (x == ("__debug__" : Str)) = false := by decide)
    (hs : ∀ env, swapsWithSole [.Subscript (.Name x p) i tpos] e pos.line env = pure false := by intro; rfl)
    (hw : ∀ env, swappedStores [.Subscript (.Name x p) i tpos] e env = pure none := by intro; rfl) : StX C env ρ ω n (.Assign [.Subscript (.Name x p) i tpos] e pos :: rest) K :=
  .seq1 (fun A s he b0 b G I => by
    rw [exec_Assign]
    refine wpAny_bind (wpAny_standAt ?_)
    rw [hs]
    refine wpAny_bind (wpAny_pure ?_)
    rw [if_neg (by decide)]
    refine wpAny_bind ((h A s he b0 b G I).any fun v s1 ⟨b1, x1, r⟩ => ?_)
    rw [hw]
    refine wpAny_bind (wpAny_pure ?_)
    show wpAny _ A (do assignAll v [PySem.assign (Expr.Subscript (.Name x p) i tpos) env]; pure Flow.next) _ _ s1
    have I1 := I.step x1
    obtain ⟨ad, O⟩ := I1.own
    obtain ⟨S, _⟩ := O.at' x ds hx
    refine wpAny_bind ?_
    show wpAny _ A (PySem.assign (Expr.Subscript (.Name x p) i tpos) env v) _ _ s1
    rw [arm_assign_Subscript]
    refine wpAny_bind (wpAny_holding (wpAny_Name (S.load I1.ok.kind ?_) hd))
    refine wpAny_bind (wpAny_holding ((hi A s1 he b0 b1 G I1).any fun iv s2 ⟨b2, x2, r2⟩ => ?_))
    cases r2 with | int _ u => ?_
    have O2 := O.step (ω := ω) x2
    obtain ⟨S2, ⟨vs, m, p1, p2⟩, p3, p4⟩ := O2.at' x ds hx
    have z := p2.length
    rw [Array.length_toList] at z
    obtain ⟨q, rfl⟩ := Int.eq_ofNat_of_zero_le h0
    refine wpAny_bind (wpAny_standAt (wpAny_bind (wpAny_holding (set_lst p1 (by omega) (by omega) ?_))))
    obtain ⟨k', hk'⟩ := mapSeq_lst (fun xs => xs.setIfInBounds q v) vs m
    have g' := Heap.get?_update_self (Obj.mapSeq fun xs => xs.setIfInBounds q v) p1 (by rw [hk']; rfl)
    rw [hk'] at g'
    refine wpAny_release (wpAny_pure ⟨rfl, (Sm.trans x1.same x2.same).trans ⟨_, _, rfl⟩, b2, (I1.step x2).change O2 hx (Heap.SameBut.update ..) g' ?_⟩)
    rw [Array.toList_setIfInBounds]
    exact p2.set _ (r.mono x2.bb)) k
end Nn

-- part L6
namespace Nn
variable {C : Ct} {env : Env} {ρ : Ro} {ω : Om} {n : Nat}
open PySem (Expr)

def upd : List Str → List PyData → Ro → Ro
  | x :: xs, d :: ds, ρ => upd xs ds ((x, d) :: ρ)
  | _, _, ρ => ρ
def Asg (C : Ct) (A : Around) (env : Env) : List Str → List Value → (Shared → Prop) → Shared → Prop
  | [], [], Q, s => Q s
  | x :: xs, v :: vs, Q, s => wpX C A (storeName env x v) (fun _ s' => Asg C A env xs vs Q s') s
  | _, _, _, _ => False
def Acts (env : Env) (F : Value → Sem Unit) (x : Str) : Prop := ∀ (M : Model) (A : Around) (E : Value → Shared → Prop) (Q : Unit → Shared → Prop) v s, wpAny M A (storeName env x v) Q E s → wpAny M A (F v) Q E s
inductive ActsAll (env : Env) : List (Value → Sem Unit) → List Str → Prop
  | nil : ActsAll env [] []
  | cons {F x Fs xs} : Acts env F x → ActsAll env Fs xs → ActsAll env (F :: Fs) (x :: xs)
theorem acts_name {x p} : Acts env (assign (.Name x p) env) x := fun M A E Q v s h => assign_Name h
theorem acts_bind {x} : Acts env (fun v => bindName env x v) x := fun M A E Q v s h => wpAny_bindName h
theorem asg_run {A : Around} {Q : Shared → Prop} : ∀ {Fs xs vs} {s : Shared}, ActsAll env Fs xs → Asg C A env xs vs Q s → wpX C A (assignInOrder Fs vs) (fun _ s' => Q s') s
  | _, _, [], s, .nil, h => wpAny_pure h
  | _, _, _ :: _, s, .nil, h => h.elim
  | _, _, [], s, .cons _ _, h => h.elim
  | _, _, v :: vs, s, .cons a r, h => by
    show wpX C A (do holding vs (_); assignInOrder _ vs) _ s
    exact wpAny_bind (wpAny_holding (a _ _ _ _ _ _ (wpAny_mono h (fun _ s' k => asg_run r k) fun _ _ f => f.elim)))
theorem asg_inv {A : Around} {he : Heap} {b0 b : View} {Q : Shared → Prop} : ∀ {xs : List Str} {vs : List Value} {ds : List PyData} {ρ : Ro} {s : Shared}, Inv C.g0 he b0 b s.heap env ρ ω → xs.length = ds.length → (∀ x ∈ xs, Storable env x ∧ ω.lookup x = none) → RpAll b vs ds →
    (∀ h' tk, Inv C.g0 he b0 b h' env (upd xs ds ρ) ω → (∀ a o, a ≠ env.locals → (∀ y ∈ xs, ∀ c, env.cells.lookup y = some c → a ≠ c) → s.heap.get? a = some o → h'.get? a = some o) → Q { s with heap := h', toks := tk }) → Asg C A env xs vs Q s
  | [], _, _, _, s, I, hl, _, .nil, h => h s.heap s.toks I fun _ _ _ _ e => e
  | [], _, _, _, s, I, hl, _, .cons _ _, h => by simp at hl
  | _ :: _, _, _, _, s, I, hl, _, .nil, h => by simp at hl
  | x :: xs, _, _, _, s, I, hl, hx, .cons r rs, h => by
    have h0 := hx x (.head _)
    refine store_base I h0.1 h0.2 r fun h' tk I' keep => ?_
    exact asg_inv (s := { s with heap := h', toks := tk }) I' (by simpa using hl) (fun y hy => hx y (.tail _ hy)) rs fun h'' tk' I'' keep' => h h'' tk' I'' fun a o n1 n2 e => keep' a o n1 (fun y hy => n2 y (.tail _ hy)) (keep a o n1 (n2 x (.head _)) e)

/-- targets of names alone -/
inductive NamesAre : List Expr → List Str → Prop
  | nil : NamesAre [] []
  | cons {x p es xs} : NamesAre es xs → NamesAre (.Name x p :: es) (x :: xs)
theorem acts_names : ∀ {es : List Expr} {xs : List Str}, NamesAre es xs → ActsAll env ((assignEach es env).map (·.2)) xs ∧ (assignEach es env).length = xs.length ∧ ∀ p ∈ assignEach es env, p.1 = false
  | _, _, .nil => ⟨.nil, rfl, fun p hp => nomatch hp⟩
  | _, _, .cons h =>
    let ⟨a, b, c⟩ := acts_names h
    ⟨.cons acts_name a, congrArg (· + 1) b, fun q hq => by
      rcases List.mem_cons.mp hq with e | hq
      · subst e; rfl
      · exact c q hq⟩

theorem StX.unpack {elts k tpos e pos rest ds xs} {K : Res → Prop} (h : EvX C env ρ ω n e (.tuple ds)) (hn : NamesAre elts xs) (hl : xs.length = ds.length) (hx : ∀ x ∈ xs, Storable env x ∧ ω.lookup x = none)
    (k' : StX C env (upd xs ds ρ) ω n rest K) (hs : ∀ env, swapsWithSole [.Tuple elts k tpos] e pos.line env = pure false := by intro; rfl)
    (hw : swappedStores [.Tuple elts k tpos] e env = pure none := by rfl) : StX C env ρ ω n (.Assign [.Tuple elts k tpos] e pos :: rest) K :=
  .seq1 (fun A s he b0 b G I => Assign_Tuple ((h A s he b0 b G I).any fun v s1 ⟨b1, x1, r⟩ => by
    cases r with | @tup a1 vs m _ g1 q1 => ?_
    obtain ⟨a, l, st⟩ := acts_names (env := env) hn
    have z := q1.length
    rw [Array.length_toList] at z
    refine wpAny_assign_Tuple G.1 ⟨_, x1.bh _ _ g1, rfl, m, rfl⟩ (by rw [l, hl, z]) (by rw [List.findIdx?_eq_none_iff]; intro p hp; exact st p hp) fun h' he' => ?_
    have x2 : Step b1 s1 b1 { s1 with heap := h' } := .grow x1.bh fun c o e => he' c o (fun q => by subst q; rw [get_size] at e; cases e) e
    refine asg_run a (asg_inv ((I.step x1).step x2) hl hx q1 fun h'' tk I' _ => ⟨rfl, (Sm.trans x1.same x2.same).trans ⟨_, _, rfl⟩, b1, I'⟩)) (hs env) hw) k'

theorem StX.swap {elts k tpos e pos rest ds xs} {K : Res → Prop} (h : EvX C env ρ ω n e (.tuple ds)) (hl : xs.length = ds.length) (hx : ∀ x ∈ xs, Storable env x ∧ ω.lookup x = none)
    (k' : StX C env (upd xs.reverse ds.reverse ρ) ω n rest K) (hs : ∀ env, swapsWithSole [.Tuple elts k tpos] e pos.line env = pure false := by intro; rfl)
    (hw : swappedStores [.Tuple elts k tpos] e env = pure (some xs) := by rfl) : StX C env ρ ω n (.Assign [.Tuple elts k tpos] e pos :: rest) K :=
  .seq1 (fun A s he b0 b G I => Assign_Tuple_swapped ((h A s he b0 b G I).any fun v s1 ⟨b1, x1, r⟩ => by
    cases r with | @tup a1 vs m _ g1 q1 => ?_
    have z := q1.length
    rw [Array.length_toList] at z
    rw [hl, ← z]
    refine wpAny_unpackItems_tuple G.1 ⟨_, x1.bh _ _ g1, rfl, m, rfl⟩ fun h' he' => ?_
    have x2 : Step b1 s1 b1 { s1 with heap := h' } := .grow x1.bh fun c o e => he' c o (fun q => by subst q; rw [get_size] at e; cases e) e
    have acts : ∀ ys : List Str, ActsAll env (ys.map fun n => bindName env n) ys := fun ys => by
      induction ys with
      | nil => exact .nil
      | cons y ys ih => exact .cons acts_bind ih
    exact asg_run (acts _) (asg_inv ((I.step x1).step x2) (by simpa using hl) (fun x hx' => hx x (List.mem_reverse.mp hx')) q1.reverse fun h'' tk I' _ => ⟨rfl, (Sm.trans x1.same x2.same).trans ⟨_, _, rfl⟩, b1, I'⟩)) (hs env) hw) k'

def AugX (C : Ct) (op : PySem.Operator) (n : Nat) (a c r : Int) : Prop := ∀ A s b t u, Good A n → Sub b s.heap.get? → wpX C A (inplaceOp op (.int a t) (.int c u)) (fun v s' => ∃ b', Step b s b' s' ∧ Rp b' v (.int r)) s
theorem AugX.add {a c : Int} : AugX C .Add n a c (a + c) := fun A s b t u G hb => P.iadd_int ⟨_, .tok hb _, .int _ _⟩
theorem AugX.sub {a c : Int} : AugX C .Sub n a c (a - c) := fun A s b t u G hb => P.isub_int ⟨_, .tok hb _, .int _ _⟩
theorem StX.aug {x p op e pos rest} {a c r : Int} {K : Res → Prop} (h0 : ρ.lookup x = some (.int a)) (h : EvX C env ρ ω n e (.int c)) (ho : AugX C op n a c r) (hx : Storable env x) (hω : ω.lookup x = none) (k : StX C env ((x, .int r) :: ρ) ω n rest K) :
    StX C env ρ ω n (.AugAssign (.Name x p) op e pos :: rest) K :=
  .seq1 (fun A s he b0 b G I => by
    obtain ⟨v0, S, r0⟩ := I.var x _ h0
    cases r0 with | int _ t => ?_
    refine wpAny_AugAssign_Name (S.load I.ok.kind ((h A s he b0 b G I).any fun v s1 ⟨b1, x1, r⟩ => ?_))
    cases r with | int _ u => ?_
    refine (ho A s1 b1 t u G x1.bh).any fun v s2 ⟨b2, x2, r2⟩ => ?_
    exact store_base ((I.step x1).step x2) hx hω r2 fun h' tk I' _ => ⟨rfl, (Sm.trans x1.same x2.same).trans ⟨_, _, rfl⟩, b2, I'⟩) k

/-- the heap changes apart from all that matters -/
theorem Inv.heap {he : Heap} {b0 b : View} {h h' : Heap} (I : Inv C.g0 he b0 b h env ρ ω) (P : Addr → Prop) (k : ∀ a o, P a → h.get? a = some o → h'.get? a = some o)
    (p1 : ∀ a o, b a = some o → P a) (p2 : ∀ a o, he.get? a = some o → P a) (p3 : P env.locals) (p4 : ∀ x c, env.cells.lookup x = some c → P c) (p5 : ∃ ad, Own b h env he ω ad ∧ ∀ x ds, ω.lookup x = some ds → P (ad x)) :
    Inv C.g0 he b0 b h' env ρ ω := by
  have seesK : ∀ {y v}, Sees h env y v → Sees h' env y v := fun S => by
    cases S with
    | loc m' q n' em => exact .loc m' q (n'.at' fun o e => k _ o p3 e) em
    | cell c q lk ic => obtain ⟨o, ho, hd⟩ := ic; exact .cell c q lk ⟨o, k _ o (p4 _ _ lk) ho, hd⟩
  exact {
    ok := I.ok, g := I.g, b0b := I.b0b, new := I.new, nsb := I.nsb, nse := I.nse, cdist := I.cdist
    bh := fun a o e => k a o (p1 a o e) (I.bh a o e)
    eh := fun a o e => k a o (p2 a o e) (I.eh a o e)
    ns := let ⟨m, hn⟩ := I.ns; ⟨m, hn.at' fun o e => k _ o p3 e⟩
    cel := fun y c e => by
      obtain ⟨⟨v0, o, ho, hd⟩, h2, h3⟩ := I.cel y c e
      exact ⟨⟨v0, o, k _ o (p4 _ _ e) ho, hd⟩, h2, h3⟩
    var := fun y d e => let ⟨v, S, r⟩ := I.var y d e; ⟨v, seesK S, r⟩
    own := by
      obtain ⟨ad, O, q⟩ := p5
      refine ⟨ad, ⟨fun y dy e => ?_, O.apart⟩⟩
      obtain ⟨h1, ⟨vs', k', h2, h3⟩, h4, h5⟩ := O.at' y dy e
      exact ⟨seesK h1, ⟨vs', k', k _ _ (q y dy e) h2, h3⟩, h4, h5⟩ }
theorem Own.heap {he : Heap} {b0 b : View} {h h' : Heap} {ad : Str → Addr} (O : Own b h env he ω ad) (I : Inv C.g0 he b0 b h env ρ ω) (P : Addr → Prop) (k : ∀ a o, P a → h.get? a = some o → h'.get? a = some o)
    (p3 : P env.locals) (p4 : ∀ x c, env.cells.lookup x = some c → P c) (q : ∀ x ds, ω.lookup x = some ds → P (ad x)) : Own b h' env he ω ad := by
  refine ⟨fun y dy e => ?_, O.apart⟩
  obtain ⟨h1, ⟨vs', k', h2, h3⟩, h4, h5⟩ := O.at' y dy e
  refine ⟨?_, ⟨vs', k', k _ _ (q y dy e) h2, h3⟩, h4, h5⟩
  cases h1 with
  | loc m' z n' em => exact .loc m' z (n'.at' fun o e => k _ o p3 e) em
  | cell c z lk ic => obtain ⟨o, ho, hd⟩ := ic; exact .cell c z lk ⟨o, k _ o (p4 _ _ lk) ho, hd⟩

def Odd (o : Obj) : Prop := o.cls ≠ .type "list" ∧ (∀ v, o.data ≠ .cell v) ∧ ∀ es ep, o.data ≠ .dict es ep
/-- an iterator with its targets -/
structure Iter (C : Ct) (A : Around) (I : Addr) (fp wr : List Addr) (N : Nat) (tgt : Expr) (names : List Str) (Pv : Nat → List Value → Prop) (St : Nat → Heap → Prop) : Prop where
  sub : ∀ a ∈ wr, a ∈ fp
  frame : ∀ i h h', St i h → (∀ a ∈ fp, ∀ o, h.get? a = some o → h'.get? a = some o) → St i h'
  item : ∀ env i s (Q : Shared → Prop), i < N → St i s.heap →
    (∀ vs h' tk, Pv i vs → St (i + 1) h' → (∀ a o, a ∉ wr → s.heap.get? a = some o → h'.get? a = some o) → Asg C A env names vs Q { s with heap := h', toks := tk }) →
    wpX C A (pyNext (.ref I)) (fun r s₁ => match r with
      | none => False
      | some v => wpX C A (letOwnedTupleGo tgt (.ref I) v) (fun _ s₂ => wpX C A (assign tgt env v) (fun _ s₃ => Q s₃) s₂) s₁) s
  done : ∀ s (Q : Option Value → Shared → Prop), St N s.heap → (∀ h' tk, (∀ a o, a ∉ wr → s.heap.get? a = some o → h'.get? a = some o) → Q none { s with heap := h', toks := tk }) → wpX C A (pyNext (.ref I)) Q s
  self : ∀ i s (Q : Value → Shared → Prop), St i s.heap → Q (.ref I) s → wpX C A (pyIter (.ref I)) Q s
  alive : ∀ i h, St i h → ∀ a ∈ wr, ∃ o, h.get? a = some o ∧ Odd o

theorem Iter.ofWalks {A : Around} {I : Addr} {fp wr : List Addr} {N : Nat} {P : Nat → Value → Prop} {St : Nat → Heap → Prop} {x : Str} {p : Pos} (W : Walks C.prog C.w A I fp wr N P St) (al : ∀ i h, St i h → ∀ a ∈ wr, ∃ o, h.get? a = some o ∧ Odd o) :
    Iter C A I fp wr N (.Name x p) [x] (fun i vs => ∃ v, vs = [v] ∧ P i v) St where
  sub := W.sub
  frame := W.frame
  item := fun env i s Q hi st h => W.item i s _ _ hi st fun v h' tk pv st' k => wpAny_pure (assign_Name (h [v] h' tk ⟨v, rfl, pv⟩ st' k))
  done := fun s Q st h => W.done s Q _ st h
  self := fun i s Q st h => W.self i s Q _ st h
  alive := al
theorem Iter.ofWalksT {A : Around} {I : Addr} {fp wr : List Addr} {N : Nat} {P : Nat → Array Value → Prop} {St : Nat → Heap → Prop} {Mid : Nat → Addr → Heap → Prop} {elts k p xs} (hA : A.handled = none) (W : WalksT C.prog C.w A I fp wr N P St Mid)
    (hn : NamesAre elts xs) (hP : ∀ i vals, P i vals → vals.size = xs.length) (al : ∀ i h, St i h → ∀ a ∈ wr, ∃ o, h.get? a = some o ∧ Odd o) :
    Iter C A I fp wr N (.Tuple elts k p) xs (fun i vs => P i vs.toArray) St where
  sub := W.sub
  frame := W.frame
  item := fun env i s Q hi st h => W.item i s _ _ hi st fun T vals h' tk pv hT ht mid kp => by
    obtain ⟨a, l, sf⟩ := acts_names (env := env) hn
    refine W.go elts k p i T _ _ _ mid fun h2 st2 kp2 => ?_
    have ht2 : h2.IsTuple T vals := by
      obtain ⟨o, ho, r⟩ := ht
      exact ⟨o, kp2 _ _ (W.apart _ _ _ mid) ho, r⟩
    refine wpAny_assign_Tuple hA ht2 (by rw [l, hP i vals pv]) (by rw [List.findIdx?_eq_none_iff]; intro p hp; exact sf p hp) fun h3 he => ?_
    have k3 : Sub h2.get? h3.get? := fun c o e => he c o (fun q => by subst q; rw [get_size] at e; cases e) e
    exact asg_run a (h vals.toList h3 _ pv (W.frame _ _ _ st2 fun a _ o e => k3 a o e) fun a o ha e => k3 _ _ (kp2 a o ha (kp a o ha e)))
  done := fun s Q st h => W.done s Q _ st h
  self := fun i s Q st h => W.self i s Q _ st h
  alive := al
end Nn

-- part L7
namespace Nn
variable {C : Ct} {env : Env} {ρ : Ro} {ω : Om} {n : Nat}
open PySem (Expr)

theorem odd_of {o : Obj} {T : String} {vs : Array Value} (hc : o.cls = .type T) (hn : T ≠ "list") (hd : o.data = .fields vs) : Odd o :=
  And.intro (fun e => by rw [hc] at e; cases e; exact hn rfl) (And.intro (fun v e => by rw [hd] at e; cases e) (fun _ _ e => by rw [hd] at e; cases e))
theorem odd_tup {vs : Array Value} {k : Nat} : Odd (tupO vs k) :=
  And.intro (show Value.type "tuple" ≠ Value.type "list" by decide) (And.intro (fun v e => by cases e) (fun _ _ e => by cases e))
structure ItAt (C : Ct) (A : Around) (s : Shared) (b b' : View) (s2 : Shared) (fz : Bool) (tgt : Expr) (names : List Str) (its : List (List PyData)) (I : Addr) (fpl wrl : List Addr) (Pv : Nat → List Value → Prop) (St : Nat → Heap → Prop) : Prop where
  step : Step b s b' s2
  iter : Iter C A I fpl wrl its.length tgt names Pv St
  st : St 0 s2.heap
  wr : ∀ a ∈ wrl, s.heap.get? a = none ∧ b' a = none ∧ ∃ o, s2.heap.get? a = some o
  fp : ∀ a ∈ fpl, a ∈ wrl ∨ ((∃ o, s2.heap.get? a = some o) ∧ (fz = true → ∃ o, b' a = some o))
  nc : ∀ a ∈ fpl, ∃ o, s2.heap.get? a = some o ∧ ∀ v, o.data ≠ .cell v
  data : ∀ i vs ds, its[i]? = some ds → Pv i vs → RpAll b' vs ds
  len : ∀ ds ∈ its, names.length = ds.length
def ItX (C : Ct) (env : Env) (ρ : Ro) (ω : Om) (n : Nat) (fz : Bool) (tgt : Expr) (names : List Str) (iter : Expr) (its : List (List PyData)) : Prop :=
  ∀ A s he b0 b, Good A n → Inv C.g0 he b0 b s.heap env ρ ω → wpX C A (eval iter env) (fun x s1 => wpX C A (pyIter x) (fun it s2 => ∃ b' I fp wr Pv St, it = .ref I ∧ ItAt C A s b b' s2 fz tgt names its I fp wr Pv St) s1) s

theorem ItX.list {fz x p e ds} (h : EvL C env ρ ω n fz e ds) : ItX C env ρ ω n fz (.Name x p) [x] e (ds.map fun d => [d]) := fun A s he b0 b G I =>
  (h A s he b0 b G I).any fun v s1 ⟨b1, x1, l, vs, m, e, g, r, f⟩ => by
    subst e
    have hsz : vs.size = ds.length := by have := r.length; rwa [Array.length_toList] at this
    have hne : l ≠ s1.heap.objs.size := Nat.ne_of_lt (Heap.lt_size g)
    refine wpAny_pyIter_list (isListL g) ?_
    have y := Step.push x1.bh { cls := .type "list_iterator", data := .fields #[.ref l, .int 0 0] } s1.toks
    have W := Walks.list (prog := C.prog) (w := C.w) G.1 s1.heap.objs.size l hne vs
    rw [show vs.size = (ds.map fun d => [d]).length by rw [List.length_map, hsz]] at W
    exact ⟨b1, s1.heap.objs.size, _, _, _, _, rfl, {
      step := x1.trans y
      iter := Iter.ofWalks W (fun i h st a ha => by
        simp only [List.mem_singleton] at ha
        subst ha
        obtain ⟨⟨o, ho, hc, hd⟩, _⟩ := st
        exact ⟨o, ho, odd_of hc (by decide) hd⟩)
      nc := fun a ha => by
        simp only [List.mem_cons, List.not_mem_nil, or_false] at ha
        rcases ha with rfl | rfl
        · exact ⟨_, Heap.get?_push_size _ rfl, nofun⟩
        · exact ⟨_, push_keeps _ _ _ _ g, nofun⟩
      st := ⟨⟨_, Heap.get?_push_size _ rfl, rfl, rfl⟩, (isListL g).push _⟩
      wr := fun a ha => by
        simp only [List.mem_singleton] at ha
        subst ha
        exact ⟨x1.hh.none (get_size _), x1.bh.none (get_size _), _, Heap.get?_push_size _ rfl⟩
      fp := fun a ha => by
        simp only [List.mem_cons, List.not_mem_nil, or_false] at ha
        rcases ha with rfl | rfl
        · exact .inl (by simp)
        · exact .inr ⟨⟨_, push_keeps _ _ _ _ g⟩, f⟩
      data := fun i ws es e hp => by
        obtain ⟨v, rfl, hv⟩ := hp
        rw [List.getElem?_map, Option.map_eq_some_iff] at e
        obtain ⟨d, hd, rfl⟩ := e
        obtain ⟨v', hv', hr⟩ := r.get hd
        rw [← Array.getElem?_toList, hv'] at hv
        cases hv
        exact .cons hr .nil
      len := fun ds' hd => by
        obtain ⟨d, _, rfl⟩ := List.mem_map.mp hd
        rfl }⟩

theorem range_fin {A : Around} {s s1 : Shared} {b b1 : View} {x : Str} {p : Pos} {r : Addr} {a c : Int} {t u v : Tok} (G : Good A n) (x1 : Step b s b1 s1) (hr : IsRange s1.heap r a c 1 t u v) (ha : -(2 ^ 61) ≤ a) (ha' : a < 2 ^ 61) (hc : -(2 ^ 61) ≤ c) (hc' : c < 2 ^ 61) :
    wpX C A (pyIter (.ref r)) (fun it s2 => ∃ b' I fp wr Pv St, it = .ref I ∧ ItAt C A s b b' s2 true (.Name x p) [x] ((List.range (c - a).toNat).map fun (i : Nat) => [PyData.int (a + (i : Int))]) I fp wr Pv St) s1 := by
  refine wpAny_pyIter_range hr (small_one (by omega) (by omega) (by omega) (by omega)) ?_
  have y := Step.push x1.bh { cls := .type "range_iterator", data := .fields #[rawInt a, rawInt (Builtin.Range.rangeSize a c 1), rawInt 1] } s1.toks
  have W := Walks.range (prog := C.prog) (w := C.w) G.1 s1.heap.objs.size a 1 ((List.range (c - a).toNat).map fun (i : Nat) => [PyData.int (a + (i : Int))]).length
  exact ⟨b1, s1.heap.objs.size, _, _, _, _, rfl, {
    step := x1.trans y
    iter := Iter.ofWalks W (fun i h st a ha => by
      simp only [List.mem_singleton] at ha
      subst ha
      exact ⟨_, st, odd_of rfl (by decide) rfl⟩)
    nc := fun a ha => by
      simp only [List.mem_singleton] at ha
      subst ha
      exact ⟨_, Heap.get?_push_size _ rfl, nofun⟩
    st := by
      have e : ((c - a).toNat : Int) - ((0 : Nat) : Int) = Builtin.Range.rangeSize a c 1 := by rw [rangeSize_one]; split <;> omega
      show IsRangeIter _ _ _ _ _
      rw [List.length_map, List.length_range, e, show a + ((0 : Nat) : Int) * 1 = a by simp]
      exact Heap.get?_push_size _ rfl
    wr := fun q hq => by
      simp only [List.mem_singleton] at hq
      subst hq
      exact ⟨x1.hh.none (get_size _), x1.bh.none (get_size _), _, Heap.get?_push_size _ rfl⟩
    fp := fun q hq => .inl hq
    data := fun i ws es e hp => by
      obtain ⟨v, rfl, t, rfl⟩ := hp
      rw [List.getElem?_map, Option.map_eq_some_iff] at e
      obtain ⟨d, hd, rfl⟩ := e
      have : i = d := by
        obtain ⟨h1, h2⟩ := List.getElem?_eq_some_iff.mp hd
        simpa using h2
      subst this
      rw [show a + (i : Int) * 1 = a + (i : Int) by omega]
      exact .cons (.int _ _) .nil
    len := fun ds' hd => by
      obtain ⟨d, _, rfl⟩ := List.mem_map.mp hd
      rfl }⟩

theorem ItX.range1 (K : CtOk C) {x p fp e pos} {c : Int} (hx : env.kindOf "range" = some .globalImplicit) (h : EvX C env ρ ω n e (.int c)) (hc : -(2 ^ 61) ≤ c) (hc' : c < 2 ^ 61)
    (hs : ∀ env, starEach [e] env = (false, eval e env) :: starEach [] env := by intro; rfl) : ItX C env ρ ω n true (.Name x p) [x] (.Call (.Name "range" fp) [e] [] pos) ((List.range c.toNat).map fun (i : Nat) => [PyData.int (i : Int)]) := fun A s he b0 b G I =>
  blt_head K hx (by decide) rfl (by decide) (by decide) I (PyProof.Rows.callWith_type1 (wpAny_items_cons ((h A s he b0 b G I).any fun v1 s1 ⟨b1, x1, r1⟩ => wpAny_items_nil (by
    cases r1 with | int _ t => ?_
    refine call_range_1 ?_
    have y := Step.push x1.bh { cls := .type "range", data := .fields #[.int 0 s1.toks, .int c t, .int 1 (s1.toks + 1)] } (s1.toks + 1 + 1)
    have := range_fin (C := C) (x := x) (p := p) G (x1.trans y) (IsRange.new s1.heap 0 c 1 s1.toks t (s1.toks + 1)) (by omega) (by omega) hc hc'
    simpa using this)) (hs _)) (hs _))
theorem ItX.range2 (K : CtOk C) {x p fp e e' pos} {a c : Int} (hx : env.kindOf "range" = some .globalImplicit) (h : EvX C env ρ ω n e (.int a)) (h' : EvX C env ρ ω n e' (.int c)) (ha : -(2 ^ 61) ≤ a) (ha' : a < 2 ^ 61) (hc : -(2 ^ 61) ≤ c) (hc' : c < 2 ^ 61)
    (hs : ∀ env, starEach [e, e'] env = (false, eval e env) :: starEach [e'] env := by intro; rfl) (hs' : ∀ env, starEach [e'] env = (false, eval e' env) :: starEach [] env := by intro; rfl) :
    ItX C env ρ ω n true (.Name x p) [x] (.Call (.Name "range" fp) [e, e'] [] pos) ((List.range (c - a).toNat).map fun (i : Nat) => [PyData.int (a + (i : Int))]) := fun A s he b0 b G I =>
  blt_head K hx (by decide) rfl (by decide) (by decide) I (PyProof.Rows.callWith_type1 (wpAny_items_cons ((h A s he b0 b G I).any fun v1 s1 ⟨b1, x1, r1⟩ => wpAny_items_cons ((h' A s1 he b0 b1 G (I.step x1)).any fun v2 s2 ⟨b2, x2, r2⟩ => wpAny_items_nil (by
    cases r1 with | int _ t => ?_
    cases r2 with | int _ u => ?_
    refine call_range_2 ?_
    have y := Step.push x2.bh { cls := .type "range", data := .fields #[.int a t, .int c u, .int 1 s2.toks] } (s2.toks + 1)
    exact range_fin (C := C) (x := x) (p := p) G ((x1.trans x2).trans y) (IsRange.new s2.heap a c 1 t u s2.toks) ha ha' hc hc')) (hs' _)) (hs _)) (hs _) (by rw [hs']; rfl))

theorem ItX.enum (K : CtOk C) {fz elts k tp xs fp e pos ds} (hx : env.kindOf "enumerate" = some .globalImplicit) (h : EvL C env ρ ω n fz e ds) (hn : NamesAre elts xs) (hl : xs.length = 2)
    (hs : ∀ env, starEach [e] env = (false, eval e env) :: starEach [] env := by intro; rfl) : ItX C env ρ ω n fz (.Tuple elts k tp) xs (.Call (.Name "enumerate" fp) [e] [] pos) (ds.mapIdx fun i d => [.int (i : Int), d]) := fun A s he b0 b G I =>
  blt_head K hx (by decide) rfl (by decide) (by decide) I (PyProof.Rows.callWith_type1 (wpAny_items_cons ((h A s he b0 b G I).any fun v1 s1 ⟨b1, x1, r1⟩ => wpAny_items_nil (by
    obtain ⟨l, vs, m, rfl, g, r, f⟩ := r1
    have hsz : vs.size = ds.length := by have := r.length; rwa [Array.length_toList] at this
    have hlt := Heap.lt_size g
    refine call_enumerate_list (isListL g) fun h' he' hit hsz' hk => wpAny_pyIter_enum he' ?_
    have y : Step b1 s1 b1 { s1 with heap := h' } := .grow x1.bh hk
    have W := WalksT.enumerate (prog := C.prog) (w := C.w) G.1 (s1.heap.objs.size + 1) s1.heap.objs.size l (Nat.succ_ne_self _) (Nat.ne_of_lt (Nat.lt_succ_of_lt hlt)) (Nat.ne_of_lt hlt) vs
    rw [show vs.size = (ds.mapIdx fun i d => [.int (i : Int), d]).length by rw [List.length_mapIdx, hsz]] at W
    exact ⟨b1, s1.heap.objs.size + 1, _, _, _, _, rfl, {
      step := x1.trans y
      iter := Iter.ofWalksT G.1 W hn (fun i vals ⟨t, x, _, e⟩ => by subst e; rw [hl]; rfl) (fun i h st a ha => by
        obtain ⟨⟨old, e1⟩, ⟨o, ho, hc, hd⟩, _⟩ := st
        simp only [List.mem_cons, List.not_mem_nil, or_false] at ha
        rcases ha with rfl | rfl
        · exact ⟨_, e1, odd_of rfl (by decide) rfl⟩
        · exact ⟨_, ho, odd_of hc (by decide) hd⟩)
      nc := fun a ha => by
        simp only [List.mem_cons, List.not_mem_nil, or_false] at ha
        rcases ha with rfl | rfl | rfl
        · exact ⟨_, he', nofun⟩
        · obtain ⟨o, ho, _, hd⟩ := hit
          exact ⟨_, ho, by rw [hd]; nofun⟩
        · exact ⟨_, hk _ _ g, nofun⟩
      st := ⟨⟨_, he'⟩, hit, isListL (hk _ _ g)⟩
      wr := fun a ha => by
        simp only [List.mem_cons, List.not_mem_nil, or_false] at ha
        rcases ha with rfl | rfl
        · exact ⟨x1.hh.none (get_out (Nat.le_succ _)), x1.bh.none (get_out (Nat.le_succ _)), _, he'⟩
        · obtain ⟨o, ho, _⟩ := hit
          exact ⟨x1.hh.none (get_size _), x1.bh.none (get_size _), _, ho⟩
      fp := fun a ha => by
        simp only [List.mem_cons, List.not_mem_nil, or_false] at ha
        rcases ha with rfl | rfl | rfl
        · exact .inl (by simp)
        · exact .inl (by simp)
        · exact .inr ⟨⟨_, hk _ _ g⟩, f⟩
      data := fun i ws es e hp => by
        obtain ⟨t, x, hv, e2⟩ := hp
        rw [List.getElem?_mapIdx, Option.map_eq_some_iff] at e
        obtain ⟨d, hd, rfl⟩ := e
        obtain ⟨v', hv', hr⟩ := r.get hd
        rw [← Array.getElem?_toList, hv'] at hv
        rw [Option.some.inj hv] at hr
        have e3 : ws = [.int i t, x] := congrArg Array.toList e2
        rw [e3]
        exact .cons (.int _ _) (.cons hr .nil)
      len := fun ds' hd => by
        obtain ⟨i, h, rfl⟩ := List.mem_mapIdx.mp hd
        rw [hl]; rfl }⟩)) (hs _)) (hs _))

theorem ItX.zip (K : CtOk C) {f1 f2 elts k tp xs fp e e' pos ds es} (hx : env.kindOf "zip" = some .globalImplicit) (h : EvL C env ρ ω n f1 e ds) (h' : EvL C env ρ ω n f2 e' es) (hn : NamesAre elts xs) (hl : xs.length = 2)
    (hs : ∀ env, starEach [e, e'] env = (false, eval e env) :: starEach [e'] env := by intro; rfl) (hs' : ∀ env, starEach [e'] env = (false, eval e' env) :: starEach [] env := by intro; rfl) :
    ItX C env ρ ω n false (.Tuple elts k tp) xs (.Call (.Name "zip" fp) [e, e'] [] pos) ((ds.zip es).map fun p => [p.1, p.2]) := fun A s he b0 b G I =>
  blt_head K hx (by decide) rfl (by decide) (by decide) I (PyProof.Rows.callWith_type1 (wpAny_items_cons ((h A s he b0 b G I).any fun v1 s1 ⟨b1, x1, r1⟩ => wpAny_items_cons ((h' A s1 he b0 b1 G (I.step x1)).any fun v2 s2 ⟨b2, x2, r2⟩ => wpAny_items_nil (by
    obtain ⟨l1, vs1, m1, rfl, g1, q1, _⟩ := r1.step x2
    obtain ⟨l2, vs2, m2, rfl, g2, q2, _⟩ := r2
    have z1 : vs1.size = ds.length := by have := q1.length; rwa [Array.length_toList] at this
    have z2 : vs2.size = es.length := by have := q2.length; rwa [Array.length_toList] at this
    have x := x1.trans x2
    obtain ⟨S, hS⟩ : ∃ S : Nat, s2.heap.objs.size = S := ⟨_, rfl⟩
    have t1 : @LT.lt Nat _ l1 S := hS ▸ natLt (Heap.lt_size g1)
    have t2 : @LT.lt Nat _ l2 S := hS ▸ natLt (Heap.lt_size g2)
    refine call_zip_2 (isListL g1) (isListL g2) fun h' hz hTI hTO h1 h2 hsz hk => wpAny_pyIter_zip hz ?_
    rw [hS] at hz hTI hTO h1 h2 hsz ⊢
    have y : Step b2 s2 b2 { s2 with heap := h' } := .grow x2.bh hk
    have W := WalksT.zip2 (prog := C.prog) (w := C.w) G.1 (S + 4) (S + 2) (S + 3) S (S + 1) l1 l2 (by constructor <;> (refine natNe ?_; omega)) vs1 vs2
    rw [show min vs1.size vs2.size = ((ds.zip es).map fun p => [p.1, p.2]).length by rw [List.length_map, List.length_zip, z1, z2]] at W
    have out : ∀ k, s.heap.get? (S + k) = none ∧ b2 (S + k) = none := fun k => ⟨x.hh.none (get_out (by rw [hS]; exact Nat.le_add_right _ _)), x2.bh.none (get_out (by rw [hS]; exact Nat.le_add_right _ _))⟩
    exact ⟨b2, S + 4, _, _, _, _, rfl, {
      step := x.trans y
      iter := Iter.ofWalksT G.1 W hn (fun i vals ⟨x, y, _, _, e⟩ => by subst e; rw [hl]; rfl) (fun i h st a ha => by
        obtain ⟨z1, z2, ⟨_, _, z3⟩, ⟨o1, z4, c4, d4⟩, ⟨o2, z5, c5, d5⟩, _⟩ := st
        simp only [List.mem_cons, List.not_mem_nil, or_false] at ha
        rcases ha with rfl | rfl | rfl | rfl
        · exact ⟨_, z1, odd_of rfl (by decide) rfl⟩
        · exact ⟨_, z3, odd_tup⟩
        · exact ⟨_, z4, odd_of c4 (by decide) d4⟩
        · exact ⟨_, z5, odd_of c5 (by decide) d5⟩)
      nc := fun a ha => by
        simp only [List.mem_cons, List.not_mem_nil, or_false] at ha
        rcases ha with rfl | rfl | rfl | rfl | rfl | rfl | rfl
        · exact ⟨_, hz, nofun⟩
        · exact ⟨_, hTI, nofun⟩
        · exact ⟨_, hTO, nofun⟩
        · obtain ⟨o, ho, _, hd⟩ := h1
          exact ⟨_, ho, by rw [hd]; nofun⟩
        · obtain ⟨o, ho, _, hd⟩ := h2
          exact ⟨_, ho, by rw [hd]; nofun⟩
        · exact ⟨_, hk _ _ g1, nofun⟩
        · exact ⟨_, hk _ _ g2, nofun⟩
      st := ⟨hz, hTI, ⟨_, _, hTO⟩, h1, h2, isListL (hk _ _ g1), isListL (hk _ _ g2)⟩
      wr := fun a ha => by
        simp only [List.mem_cons, List.not_mem_nil, or_false] at ha
        rcases ha with rfl | rfl | rfl | rfl
        · exact ⟨(out 4).1, (out 4).2, _, hz⟩
        · exact ⟨(out 3).1, (out 3).2, _, hTO⟩
        · obtain ⟨o, ho, _⟩ := h1
          exact ⟨(out 0).1, (out 0).2, _, ho⟩
        · obtain ⟨o, ho, _⟩ := h2
          exact ⟨(out 1).1, (out 1).2, _, ho⟩
      fp := fun a ha => by
        simp only [List.mem_cons, List.not_mem_nil, or_false] at ha
        rcases ha with rfl | rfl | rfl | rfl | rfl | rfl | rfl
        · exact .inl (by simp)
        · exact .inr ⟨⟨_, hTI⟩, nofun⟩
        · exact .inl (by simp)
        · exact .inl (by simp)
        · exact .inl (by simp)
        · exact .inr ⟨⟨_, hk _ _ g1⟩, nofun⟩
        · exact .inr ⟨⟨_, hk _ _ g2⟩, nofun⟩
      data := fun i ws es' e hp => by
        obtain ⟨x, y, hv, hw, e2⟩ := hp
        rw [List.getElem?_map, Option.map_eq_some_iff] at e
        obtain ⟨d, hd, rfl⟩ := e
        obtain ⟨e1, e2'⟩ := List.getElem?_zip_eq_some.mp hd
        obtain ⟨v', hv', hr⟩ := q1.get e1
        obtain ⟨w', hw', hr'⟩ := q2.get e2'
        rw [← Array.getElem?_toList, hv'] at hv
        rw [← Array.getElem?_toList, hw'] at hw
        rw [Option.some.inj hv] at hr
        rw [Option.some.inj hw] at hr'
        have e3 : ws = [x, y] := congrArg Array.toList e2
        rw [e3]
        exact .cons hr (.cons hr' .nil)
      len := fun ds' hd => by
        obtain ⟨d, _, rfl⟩ := List.mem_map.mp hd
        rw [hl]; rfl }⟩)) (hs' _)) (hs _)) (hs _) (by rw [hs']; rfl))
end Nn

-- part L8
namespace Nn
variable {C : Ct} {env : Env} {ρ : Ro} {ω : Om} {n : Nat}
open PySem (Expr)

abbrev cEnv (scope : Scope) (L : Addr) (cl : List (Str × Addr)) (env : Env) : Env :=
  { scope := relabel scope env, locals := L, globals := env.globals, cells := cellsFrom (L + 1) scope.names cl, qual := env.qual, func := none, code := env.code, frame := env.frame, builtins := env.builtins }

theorem newEnv_comp {M : Model} {A : Around} {E : Value → Shared → Prop} {s : Shared} {scope : Scope} {globals : Addr} {cl : List (Str × Addr)} {qual : Str} {bi : Addr} {Q : Env → Shared → Prop}
    (h : Q { scope, locals := s.heap.objs.size, globals, cells := cellsFrom (s.heap.objs.size + 1) scope.names cl, qual, func := none, code := env.code, frame := env.frame, builtins := env.builtins }
      { s with heap := pushCells (s.heap.push { cls := .type "dict", data := .dict #[] }) scope.names }) :
    wpAny M A (newFunctionEnv scope globals cl [] qual none .none (some env) bi) Q E s := by
  simp only [newFunctionEnv, Option.isSome_some, if_true]
  refine wpAny_bind (wpAny_alloc ?_)
  refine wpAny_bind (wpAny_layCells _ (fun name kind cells => by cases hkc : kind == NameKind.cell <;> simp) _ _ _ _ ?_)
  rw [show ({ s with heap := s.heap.push { cls := .type "dict", data := .dict #[] } } : Shared).heap.objs.size = s.heap.objs.size + 1 from Heap.size_push ..]
  simp only [List.forIn_nil]
  exact wpAny_bind (wpAny_pure (wpAny_pure h))

theorem cellsFrom_case : ∀ (names : List (Str × NameKind)) (h : Heap) (acc : List (Str × Addr)) (x : Str) (c : Addr), (cellsFrom h.objs.size names acc).lookup x = some c →
    acc.lookup x = some c ∨ (@LE.le Nat _ h.objs.size c ∧ (pushCells h names).IsCell c none)
  | [], _, _, _, _, e => .inl e
  | (name, kind) :: r, h, acc, x, c, e => by
    unfold cellsFrom at e
    unfold pushCells
    split at e
    · rename_i hk
      rw [if_pos hk]
      have hz : (h.push { cls := .type "cell", data := .cell none }).objs.size = h.objs.size + 1 := Heap.size_push ..
      rw [← hz] at e
      rcases cellsFrom_case r _ _ x c e with q | ⟨q1, q2⟩
      · rw [lookup_cons] at q
        split at q
        · cases q
          exact .inr ⟨Nat.le_refl _, _, pushCells_keeps _ _ _ _ (Heap.get?_push_size _ rfl), rfl⟩
        · exact .inl q
      · exact .inr ⟨by rw [hz] at q1; omega, q2⟩
    · rename_i hk
      rw [if_neg hk]
      exact cellsFrom_case r h acc x c e
theorem cellsFrom_inj : ∀ (names : List (Str × NameKind)) (k : Nat) (acc : List (Str × Addr)), (∀ x y c, acc.lookup x = some c → acc.lookup y = some c → x = y) → (∀ x c, acc.lookup x = some c → @LT.lt Nat _ c k) →
    ∀ x y c, (cellsFrom k names acc).lookup x = some c → (cellsFrom k names acc).lookup y = some c → x = y
  | [], _, _, h, _ => h
  | (name, kind) :: r, k, acc, h, hk => by
    unfold cellsFrom
    split
    · refine cellsFrom_inj r (k + 1) _ (fun x y c e1 e2 => ?_) (fun x c e => ?_)
      · rw [lookup_cons] at e1 e2
        by_cases p1 : x = name <;> by_cases p2 : y = name
        · rw [p1, p2]
        · rw [if_pos p1] at e1; rw [if_neg p2] at e2; cases e1
          exact absurd (hk y _ e2) (Nat.lt_irrefl _)
        · rw [if_neg p1] at e1; rw [if_pos p2] at e2; cases e2
          exact absurd (hk x _ e1) (Nat.lt_irrefl _)
        · rw [if_neg p1] at e1; rw [if_neg p2] at e2; exact h x y c e1 e2
      · rw [lookup_cons] at e
        split at e
        · cases e; exact Nat.lt_succ_self _
        · exact Nat.lt_succ_of_lt (hk x c e)
    · exact cellsFrom_inj r k acc h hk

inductive CR (El : List PyData → PyData → Prop) (No : List PyData → Prop) : List (List PyData) → List PyData → Prop
  | nil : CR El No [] []
  | keep {it d its ds} : El it d → CR El No its ds → CR El No (it :: its) (d :: ds)
  | skip {it its ds} : No it → CR El No its ds → CR El No (it :: its) ds
theorem CR.length {El No} : ∀ {its ds}, CR El No its ds → ds.length ≤ its.length
  | _, _, .nil => Nat.le_refl _
  | _, _, .keep _ r => Nat.succ_le_succ r.length
  | _, _, .skip _ r => Nat.le_succ_of_le r.length

def TsX (C : Ct) (env : Env) (ρ : Ro) (ω : Om) (n : Nat) (ifs : List Expr) (t : Bool) : Prop :=
  ∀ A s he b0 b, Good A n → Inv C.g0 he b0 b s.heap env ρ ω → wpX C A (forIn ifs true fun c r => if r = true then do let ok ← isTrue c env (eval c env); pure (ForInStep.yield ok) else pure (ForInStep.yield r)) (fun r s' => ∃ b', Step b s b' s' ∧ r = t) s
theorem TsX.nil : TsX C env ρ ω n [] true := fun A s he b0 b G I => wpAny_tests_nil ⟨b, .refl I.bh, rfl⟩
theorem TsX.one {e t} (h : TrX C env ρ ω n e t) : TsX C env ρ ω n [e] t := fun A s he b0 b G I => wpAny_tests_one (h A s he b0 b G I)

/-- what a comprehension needs of its block -/
structure Blk (C : Ct) (env : Env) (ρ : Ro) (ω : Om) (scope : Scope) (cl : List (Str × Addr)) (ρc : Ro) (ωc : Om) (names : List Str) : Prop where
  clos : closureFor scope env = pure cl
  kind : scope.kind = .function
  nms : ∀ x ∈ scope.names, x.2 = .local → scope.names.lookup x.1 = some .local
  clo : ∀ x c, cl.lookup x = some c → env.cells.lookup x = some c
  capt : ∀ x d, ρc.lookup x = some d → ρ.lookup x = some d ∧ (env.cells.lookup x).isSome = true ∧ ∀ L, (cEnv scope L cl env).cells.lookup x = env.cells.lookup x ∧ ((cEnv scope L cl env).kindOf x = some .cell ∨ ((cEnv scope L cl env).kindOf x = some .free ∧ (x == ("__classdict__" : Str)) = false)) ∧ env.kindOf x ≠ some .local
  captω : ∀ x d, ωc.lookup x = some d → ω.lookup x = some d ∧ (env.cells.lookup x).isSome = true ∧ ∀ L, (cEnv scope L cl env).cells.lookup x = env.cells.lookup x ∧ ((cEnv scope L cl env).kindOf x = some .cell ∨ ((cEnv scope L cl env).kindOf x = some .free ∧ (x == ("__classdict__" : Str)) = false)) ∧ env.kindOf x ≠ some .local
  st : ∀ L, ∀ x ∈ names, Storable (cEnv scope L cl env) x ∧ ωc.lookup x = none
  nm : ∀ x ∈ names, cl.lookup x = none
  apart : ∀ x d, ρc.lookup x = some d → x ∉ names

/-- the block begins -/
theorem Blk.start {scope cl ρc ωc names} (B : Blk C env ρ ω scope cl ρc ωc names) {he : Heap} {b0 b : View} {h : Heap} (I : Inv C.g0 he b0 b h env ρ ω) {ad : Str → Addr} (O : Own b h env he ω ad) :
    Inv C.g0 he b0 b (pushCells (h.push { cls := .type "dict", data := .dict #[] }) scope.names) (cEnv scope h.objs.size cl env) ρc ωc ∧
    Own b (pushCells (h.push { cls := .type "dict", data := .dict #[] }) scope.names) (cEnv scope h.objs.size cl env) he ωc ad := by
  have up : Sub h.get? (pushCells (h.push { cls := .type "dict", data := .dict #[] }) scope.names).get? := fun a o e => pushCells_keeps _ _ a o (Heap.get?_push_of_some _ e)
  have hz : (h.push { cls := .type "dict", data := .dict #[] }).objs.size = h.objs.size + 1 := Heap.size_push ..
  have clt : ∀ x c, cl.lookup x = some c → @LT.lt Nat _ c h.objs.size := fun x c e => by
    obtain ⟨⟨v0, o, ho, _⟩, _⟩ := I.cel x c (B.clo x c e)
    exact Heap.lt_size ho
  have hns : (pushCells (h.push { cls := .type "dict", data := .dict #[] }) scope.names).Ns h.objs.size (fun _ => none) := (Heap.Ns.new h (.type "dict")).keeps (pushCells_keeps _ _)
  have sees : ∀ x v, (env.cells.lookup x).isSome = true → (∀ L, (cEnv scope L cl env).cells.lookup x = env.cells.lookup x ∧ ((cEnv scope L cl env).kindOf x = some .cell ∨ ((cEnv scope L cl env).kindOf x = some .free ∧ (x == ("__classdict__" : Str)) = false)) ∧ env.kindOf x ≠ some .local) → Sees h env x v →
      Sees (pushCells (h.push { cls := .type "dict", data := .dict #[] }) scope.names) (cEnv scope h.objs.size cl env) x v := fun x v _ q S => by
    obtain ⟨q1, q2, q3⟩ := q h.objs.size
    cases S with
    | loc m k _ _ => exact absurd k q3
    | cell c k lk ic => exact .cell c q2 (q1.trans lk) (ic.keeps up)
  have own : Own b (pushCells (h.push { cls := .type "dict", data := .dict #[] }) scope.names) (cEnv scope h.objs.size cl env) he ωc ad := by
    refine ⟨fun x ds e => ?_, fun x y dx dy e1 e2 => O.apart x y dx dy (B.captω x dx e1).1 (B.captω y dy e2).1⟩
    obtain ⟨e1, q1, q2⟩ := B.captω x ds e
    obtain ⟨h1, ⟨vs, k, h2, h3⟩, h4, h5⟩ := O.at' x ds e1
    exact ⟨sees x _ q1 q2 h1, ⟨vs, k, up _ _ h2, h3⟩, h4, h5⟩
  refine ⟨{
    ok := ⟨B.kind, I.ok.gl, I.ok.bl⟩, g := I.g, bh := I.bh.trans up, eh := I.eh.trans up, b0b := I.b0b, new := I.new
    ns := ⟨_, hns⟩
    nsb := I.bh.none (get_size h)
    nse := I.eh.none (get_size h)
    cel := fun x c e => ?_
    cdist := cellsFrom_inj _ _ _ (fun x y c e1 e2 => I.cdist x y c (B.clo _ _ e1) (B.clo _ _ e2)) (fun x c e => Nat.lt_succ_of_lt (clt x c e))
    var := fun x d e => by
      obtain ⟨e1, q1, q2⟩ := B.capt x d e
      obtain ⟨v, S, r⟩ := I.var x d e1
      exact ⟨v, sees x v q1 q2 S, r⟩
    own := ⟨ad, own⟩ }, own⟩
  have e' : (cellsFrom (h.push { cls := .type "dict", data := .dict #[] }).objs.size scope.names cl).lookup x = some c := by rw [hz]; exact e
  rcases cellsFrom_case _ _ _ x c e' with q | ⟨q1, q2⟩
  · obtain ⟨⟨v0, hv⟩, h2, h3⟩ := I.cel x c (B.clo x c q)
    exact ⟨⟨v0, hv.keeps up⟩, h2, h3⟩
  · rw [hz] at q1
    have : h.get? c = none := get_out (by omega)
    exact ⟨⟨none, q2⟩, I.bh.none this, I.eh.none this⟩

theorem compLoop_gen {A : Around} {R : Result → Shared → Prop} {s : Shared} {elt target iter : Expr} {ifs : List Expr} {scope : Scope} {pos : Pos} {it acc : Value} {env : Env} (I : Nat → Shared → Prop)
    (turn : ∀ n s, I n s → wpX C A (pyNext it) (fun r s₁ => match r with
      | none => R (.ok .next) s₁
      | some v => wpX C A (letOwnedTupleGo target it v) (fun _ s₂' => wpX C A (assign target env v) (fun _ s₂ =>
          wpX C A (forIn ifs true fun c r => if r = true then do let ok ← isTrue c env (eval c env); pure (ForInStep.yield ok) else pure (ForInStep.yield r)) (fun ok s₃ =>
            if ok = true then wpX C A (eval elt env) (fun x s₄ =>
              wpX C A (call (.builtin "list.append") [acc, x]) (fun _ s₅ => ∃ m, m < n ∧ I m s₅) s₄) s₃
            else ∃ m, m < n ∧ I m s₃) s₂) s₂') s₁) s)
    (n : Nat) (h : I n s) :
    codeAny (model C.prog C.w) A (.compLoop (.ListComp elt [⟨target, iter, ifs, 0⟩] scope pos) 0 it acc env) R s := by
  refine codeAny_loop rfl I (fun n s hI => ?_) n h
  show wpAny _ A ((compTurn (.ListComp elt [⟨target, iter, ifs, 0⟩] scope pos) 0 it acc env).onRaise (fun x => do noteFrame x env; theTreesLotGoes x)) _ _ s
  refine wpAny_noted ?_
  rw [compTurn_list]
  refine wpAny_bind (wpAny_standAt (wpAny_bind ((turn n s hI).any (fun r s₁ h₁ => ?_))))
  cases r with
  | none => exact wpAny_pure h₁
  | some v =>
    refine wpAny_bind (wpX.any h₁ (fun _ s₂' h₂' => wpAny_bind (wpX.any h₂' (fun _ s₂ h₂ => wpAny_bind (wpX.any h₂ (fun ok s₃ h₃ => ?_))))))
    cases ok with
    | false => exact wpAny_pure ⟨rfl, h₃⟩
    | true =>
      simp only [if_true] at h₃ ⊢
      exact wpAny_bind (wpAny_bind (wpX.any h₃ (fun x s₄ h₄ => wpAny_bind (wpX.any h₄ (fun _ s₅ h₅ => wpAny_pure (wpAny_pure ⟨rfl, h₅⟩))))))

structure CompEnd (s : Shared) (b : View) (ds : List PyData) (D L : Addr) (bn : View) (acc : Array Value) (m : Nat) (s' : Shared) : Prop where
  step : Step b s bn s'
  lst : s'.heap.get? D = some (lstO acc m)
  dat : RpAll bn acc.toList ds
  dn : s.heap.get? D = none ∧ bn D = none
  ln : s.heap.get? L = none ∧ bn L = none ∧ D ≠ L
  ns : ∃ mm, s'.heap.Ns L mm

theorem upd_lookup : ∀ {xs : List Str} {ds : List PyData} {ρ : Ro} {x : Str}, x ∉ xs → (upd xs ds ρ).lookup x = ρ.lookup x
  | [], _, _, _, _ => by simp [upd]
  | _ :: _, [], _, _, _ => by simp [upd]
  | y :: xs, d :: ds, ρ, x, h => by
    rw [upd, upd_lookup (fun q => h (.tail _ q)), lookup_cons, if_neg (fun q => h (by rw [q]; exact .head _))]

structure CompInv (C : Ct) (s : Shared) (b b' : View) (env cenv : Env) (ρc : Ro) (ωc : Om) (he : Heap) (b0 : View) (ad : Str → Addr) (D : Addr) (wr : List Addr) (St : Nat → Heap → Prop) (El : List PyData → PyData → Prop) (No : List PyData → Prop) (its : List (List PyData)) (ds : List PyData) (s2 : Shared)
    (i : Nat) (bi : View) (acc : Array Value) (m : Nat) (d1 d2 : List PyData) (s' : Shared) : Prop where
  le : i ≤ its.length
  sm : Sm s2 s'
  st : St i s'.heap
  lst : s'.heap.get? D = some (lstO acc m)
  dat : RpAll bi acc.toList d1
  eq : ds = d1 ++ d2
  cr : CR El No (its.drop i) d2
  dl : d1.length ≤ i
  inv : Inv C.g0 he b0 bi s'.heap cenv ρc ωc
  ow : Own bi s'.heap cenv he ωc ad
  keep : ∀ a o, a ∉ wr → s2.heap.get? a = some o → s'.heap.get? a = some o
  bb : Sub b' bi
  new : ∀ a o, bi a = some o → b a = some o ∨ s.heap.get? a = none
  bD : bi D = none
  bw : ∀ a ∈ wr, bi a = none

theorem comp_core {elt tgt iter : Expr} {ifs : List Expr} {scope : Scope} {pos : Pos} {cl : List (Str × Addr)} {its ds names fz ρc ωc} (Bk : Blk C env ρ ω scope cl ρc ωc names) {A : Around} {s s2 : Shared} {he : Heap} {b0 b b' : View} {I fp wr Pv St} (G : Good A n)
    (I0 : Inv C.g0 he b0 b s.heap env ρ ω) (T : ItAt C A s b b' s2 fz tgt names its I fp wr Pv St)
    (hel : ∀ L, CR (fun item d => TsX C (cEnv scope L cl env) (upd names item ρc) ωc n ifs true ∧ EvX C (cEnv scope L cl env) (upd names item ρc) ωc n elt d) (fun item => TsX C (cEnv scope L cl env) (upd names item ρc) ωc n ifs false) its ds)
    (hz : its.length ≤ 1000) {RR : Value → Addr → Result → Shared → Prop}
    (hR : ∀ D L bn acc m s', CompEnd s b ds D L bn acc m s' → RR (.ref D) L (.ok .next) s') :
    wpX C A (newList []) (fun acc s3 => wpX C A (newFunctionEnv scope env.globals cl [] env.qual none .none (some env)) (fun cenv s4 =>
      codeAny (model C.prog C.w) A (.compStart (.ListComp elt [⟨tgt, iter, ifs, 0⟩] scope pos) 0 (.ref I) acc { cenv with scope := relabel scope env }) (RR acc cenv.locals) s4) s3) s2 := by
  have I2 := I0.step T.step
  obtain ⟨ad, O0⟩ := I0.own
  have O2 := O0.step (ω := ω) T.step
  refine wpAny_newObj_type (newEnv_comp ?_) (by size_fits)
  obtain ⟨D, hD⟩ : ∃ D : Nat, s2.heap.objs.size = D := ⟨_, rfl⟩
  have hp : s2.heap.get? D = none := hD ▸ get_size _
  have y3 : Step b' s2 b' { s2 with heap := s2.heap.push (lstO #[] 0) } := .push T.step.bh _ s2.toks
  have I3 := I2.step y3
  have O3 := O2.step (ω := ω) y3
  have hL : (s2.heap.push (lstO #[] 0)).objs.size = D + 1 := by rw [Heap.size_push, hD]
  obtain ⟨I4, O4⟩ := Bk.start I3 O3
  have up4 : Sub s2.heap.get? (pushCells ((s2.heap.push (lstO #[] 0)).push { cls := .type "dict", data := .dict #[] }) scope.names).get? := fun a o e => pushCells_keeps _ _ a o (Heap.get?_push_of_some _ (Heap.get?_push_of_some _ e))
  have l4 : (pushCells ((s2.heap.push (lstO #[] 0)).push { cls := .type "dict", data := .dict #[] }) scope.names).get? D = some (lstO #[] 0) :=
    pushCells_keeps _ _ _ _ (Heap.get?_push_of_some _ (hD ▸ Heap.get?_push_size _ rfl))
  dsimp only at I4 O4 ⊢
  rw [show (({ cls := Value.type "list", dict := none, data := Data.seq ([] : List Value).toArray } : Obj)) = lstO #[] 0 from rfl]
  generalize hH4 : pushCells ((s2.heap.push (lstO #[] 0)).push { cls := .type "dict", data := .dict #[] }) scope.names = h4 at I4 O4 up4 l4
  rw [hL] at I4 O4 ⊢
  rw [hD]
  -- addresses
  have lt2 : ∀ {a : Addr} {o : Obj}, s2.heap.get? a = some o → @LT.lt Nat _ a D := fun e => hD ▸ natLt (Heap.lt_size e)
  have wlt : ∀ a ∈ wr, @LT.lt Nat _ a D := fun a ha => by
    obtain ⟨_, _, o, e⟩ := T.wr a ha
    exact lt2 e
  have ws : ∀ a o, s.heap.get? a = some o → a ∉ wr := fun a o e ha => by rw [(T.wr a ha).1] at e; cases e
  have cells : ∀ x c, (cEnv scope (D + 1) cl env).cells.lookup x = some c → (∃ v o, s.heap.get? c = some o ∧ o.data = .cell v ∧ cl.lookup x = some c) ∨ @LE.le Nat _ (D + 2) c := fun x c e => by
    have hz2 : ((s2.heap.push (lstO #[] 0)).push { cls := .type "dict", data := .dict #[] }).objs.size = D + 2 := by rw [Heap.size_push, hL]
    have e' : (cellsFrom ((s2.heap.push (lstO #[] 0)).push { cls := .type "dict", data := .dict #[] }).objs.size scope.names cl).lookup x = some c := by rw [hz2]; exact e
    rcases cellsFrom_case _ _ _ x c e' with q | ⟨q1, _⟩
    · obtain ⟨⟨v0, o, ho, hd⟩, _⟩ := I0.cel x c (Bk.clo x c q)
      exact .inl ⟨v0, o, ho, hd, q⟩
    · rw [hz2] at q1; exact .inr q1
  have cw : ∀ x c, (cEnv scope (D + 1) cl env).cells.lookup x = some c → c ∉ wr := fun x c e ha => by
    rcases cells x c e with ⟨v, o, ho, _⟩ | q
    · exact ws c o ho ha
    · have := wlt c ha; omega
  have cD : ∀ x c, (cEnv scope (D + 1) cl env).cells.lookup x = some c → c ≠ D := fun x c e q => by
    rcases cells x c e with ⟨v, o, ho, _⟩ | p
    · subst q; rw [T.step.hh _ _ ho] at hp; cases hp
    · subst q; omega
  have cN : ∀ x ∈ names, ∀ c, (cEnv scope (D + 1) cl env).cells.lookup x = some c → @LE.le Nat _ (D + 2) c := fun x hx c e => by
    rcases cells x c e with ⟨v, o, ho, _, q⟩ | p
    · rw [Bk.nm x hx] at q; cases q
    · exact p
  have adw : ∀ x ds', ωc.lookup x = some ds' → ad x ∉ wr ∧ ad x ≠ D := fun x ds' e => by
    obtain ⟨_, ⟨vs, k, g, _⟩, _⟩ := O0.at' x ds' (Bk.captω x ds' e).1
    exact ⟨ws _ _ g, fun q => by rw [← q, T.step.hh _ _ g] at hp; cases hp⟩
  have hew : ∀ a o, he.get? a = some o → a ∉ wr ∧ a ≠ D := fun a o e => by
    have := I0.eh a o e
    exact ⟨ws a o this, fun q => by rw [← q, T.step.hh _ _ this] at hp; cases hp⟩
  have Lw : (D + 1) ∉ wr := fun ha => by have := wlt _ ha; omega
  have bnone : b' D = none := T.step.bh.none hp
  -- the loop
  have loop : ∀ s4 : Shared, s4 = { s2 with heap := h4 } → codeAny (model C.prog C.w) A (.compLoop (.ListComp elt [⟨tgt, iter, ifs, 0⟩] scope pos) 0 (.ref I) (.ref D) (cEnv scope (D + 1) cl env)) (RR (.ref D) (D + 1)) s4 := by
    intro s4 e4
    subst e4
    obtain ⟨J, hJ⟩ : ∃ J : Nat → Shared → Prop, J = fun k s' => ∃ i bi acc m d1 d2, CompInv C s b b' env (cEnv scope (D + 1) cl env) ρc ωc he b0 ad D wr St (fun item d => TsX C (cEnv scope (D + 1) cl env) (upd names item ρc) ωc n ifs true ∧ EvX C (cEnv scope (D + 1) cl env) (upd names item ρc) ωc n elt d) (fun item => TsX C (cEnv scope (D + 1) cl env) (upd names item ρc) ωc n ifs false) its ds s2 i bi acc m d1 d2 s' ∧ k = its.length + 1 - i := ⟨_, rfl⟩
    refine compLoop_gen J ?_ (its.length + 1) (by rw [hJ]; exact ⟨0, b', #[], 0, [], ds, {
        le := Nat.zero_le _, sm := ⟨_, _, rfl⟩, st := T.iter.frame 0 _ _ T.st fun a _ o e => up4 a o e, lst := l4, dat := .nil, eq := rfl, cr := hel (D + 1), dl := Nat.le_refl _
        inv := I4, ow := O4, keep := fun a o _ e => up4 a o e, bb := .refl _, new := T.step.new, bD := bnone, bw := fun a ha => (T.wr a ha).2.1 }, rfl⟩)
    intro k s' hk
    rw [hJ] at hk
    obtain ⟨i, bi, acc, m, d1, d2, V, rfl⟩ := hk
    · rcases Nat.lt_or_ge i its.length with hi | hi
      · -- a turn
        refine (T.iter.item (cEnv scope (D + 1) cl env) i s' (fun s₂ => wpX C A (forIn ifs true fun c r => if r = true then do let ok ← isTrue c (cEnv scope (D + 1) cl env) (eval c (cEnv scope (D + 1) cl env)); pure (ForInStep.yield ok) else pure (ForInStep.yield r)) (fun ok s₃ =>
            if ok = true then wpX C A (eval elt (cEnv scope (D + 1) cl env)) (fun x s₄ =>
              wpX C A (call (.builtin "list.append") [.ref D, x]) (fun _ s₅ => ∃ m, m < its.length + 1 - i ∧ J m s₅) s₄) s₃
            else ∃ m, m < its.length + 1 - i ∧ J m s₃) s₂) hi V.st ?_).any (fun r s1 h1 => ?_)
        rotate_left
        · cases r with
          | none => exact h1.elim
          | some v => exact h1
        intro vs h' tk hPv st' kp
        have I5 : Inv C.g0 he b0 bi h' (cEnv scope (D + 1) cl env) ρc ωc := V.inv.heap (· ∉ wr) kp (fun a o e ha => by rw [V.bw a ha] at e; cases e) (fun a o e => (hew a o e).1) Lw cw ⟨ad, V.ow, fun x ds' e => (adw x ds' e).1⟩
        have O5 : Own bi h' (cEnv scope (D + 1) cl env) he ωc ad := V.ow.heap V.inv (· ∉ wr) kp Lw cw fun x ds' e => (adw x ds' e).1
        have hitem : its[i]? = some its[i] := List.getElem?_eq_getElem hi
        have l5 : h'.get? D = some (lstO acc m) := kp D _ (fun ha => by have := wlt _ ha; omega) V.lst
        refine asg_inv (s := { s' with heap := h', toks := tk }) I5 (T.len _ (List.getElem_mem hi)) (Bk.st (D + 1)) ((T.data i vs _ hitem hPv).mono V.bb) fun h6 tk6 I6 kp6 => ?_
        have kN : ∀ a o, @LE.le Nat _ a D → h'.get? a = some o → h6.get? a = some o := fun a o hle e => kp6 a o (fun q => by subst q; exact absurd hle (by show ¬ (D + 1 ≤ D); omega)) (fun y hy c ec q => by have := cN y hy c ec; subst q; omega) e
        have l6 : h6.get? D = some (lstO acc m) := kN D _ (Nat.le_refl _) l5
        -- what stood at first stands
        have k26 : ∀ a o, a ∉ wr → s2.heap.get? a = some o → h6.get? a = some o := fun a o ha e => kN a o (Nat.le_of_lt (lt2 e)) (kp a o ha (V.keep a o ha e))
        have st6 : St (i + 1) h6 := T.iter.frame _ _ _ st' fun a ha o e => kN a o (by
          obtain ⟨o', e', _⟩ := T.nc a ha
          exact Nat.le_of_lt (lt2 e')) e
        have sm6 : Sm s2 { s' with heap := h6, toks := tk6 } := by
          obtain ⟨h0, tk0, e0⟩ := V.sm
          exact ⟨h6, tk6, by rw [e0]⟩
        have w6 : ∀ a ∈ wr, ∃ o, h6.get? a = some o := fun a ha => by
          obtain ⟨o, e, _⟩ := T.iter.alive _ _ st' a ha
          exact ⟨o, kN a o (Nat.le_of_lt (wlt a ha)) e⟩
        have sn6 : ∀ a, h6.get? a = none → s.heap.get? a = none := fun a e => by
          cases q : s.heap.get? a with
          | none => rfl
          | some o => rw [k26 a o (ws a o q) (T.step.hh a o q)] at e; cases e
        have O6 : Own bi h6 (cEnv scope (D + 1) cl env) he ωc ad := by
          refine ⟨fun x dx e => ?_, O5.apart⟩
          obtain ⟨ad6, P6⟩ := I6.own
          obtain ⟨h1, ⟨vs1, k1, h2, h3⟩, h4', h5⟩ := O5.at' x dx e
          obtain ⟨_, _, q2⟩ := Bk.captω x dx e
          refine ⟨?_, ⟨vs1, k1, kN _ _ (by
            obtain ⟨_, ⟨vs2, k2, g2, _⟩, _⟩ := O2.at' x dx (Bk.captω x dx e).1
            exact Nat.le_of_lt (lt2 g2)) h2, h3⟩, h4', h5⟩
          cases h1 with
          | loc m' z n' em => 
            rcases (q2 (D + 1)).2.1 with z' | z'
            · rw [z] at z'; cases z'
            · rw [z] at z'; cases z'.1
          | cell c z lk ic =>
            refine .cell c z lk ?_
            obtain ⟨o, ho, hd⟩ := ic
            have hc : @LE.le Nat _ c D := by
              obtain ⟨⟨v0, o', ho', _⟩, _⟩ := I2.cel x c ((q2 (D + 1)).1 ▸ lk)
              exact Nat.le_of_lt (lt2 ho')
            exact ⟨o, kN c o hc ho, hd⟩
        have hdrop : its.drop i = its[i] :: its.drop (i + 1) := List.drop_eq_getElem_cons hi
        have hcr := V.cr
        rw [hdrop] at hcr
        have fin : ∀ (s7 : Shared) (b7 : View), Step bi { s' with heap := h6, toks := tk6 } b7 s7 → ∀ (acc' : Array Value) (m' : Nat) (d1' d2' : List PyData), (h8 : Heap) → (tk8 : Nat) → s7.heap.get? D = some (lstO acc m) → h8.get? D = some (lstO acc' m') → Heap.SameBut D s7.heap h8 →
            RpAll b7 acc'.toList d1' → ds = d1' ++ d2' → CR (fun item d => TsX C (cEnv scope (D + 1) cl env) (upd names item ρc) ωc n ifs true ∧ EvX C (cEnv scope (D + 1) cl env) (upd names item ρc) ωc n elt d) (fun item => TsX C (cEnv scope (D + 1) cl env) (upd names item ρc) ωc n ifs false) (its.drop (i + 1)) d2' → d1'.length ≤ i + 1 →
            ∃ m, m < its.length + 1 - i ∧ J m { s7 with heap := h8, toks := tk8 } := by
          intro s7 b7 x7 acc' m' d1' d2' h8 tk8 g7 g8 sb r8 e8 c8 l8
          have I7 := I6.step x7
          have O7 := O6.step (ω := ωc) x7
          have b7D : b7 D = none := by
            cases q : b7 D with
            | none => rfl
            | some o =>
              rcases x7.new D o q with p | p
              · rw [V.bD] at p; cases p
              · rw [show ({ s' with heap := h6, toks := tk6 } : Shared).heap.get? D = some (lstO acc m) from l6] at p; cases p
          have k78 : ∀ a o, a ≠ D → s7.heap.get? a = some o → h8.get? a = some o := fun a o ne e => sb.extBut a o ne e
          have I8 : Inv C.g0 he b0 b7 h8 (cEnv scope (D + 1) cl env) (upd names its[i] ρc) ωc := I7.heap (· ≠ D) k78 (fun a o e q => by rw [q, b7D] at e; cases e) (fun a o e => (hew a o e).2) (Nat.succ_ne_self D) cD ⟨ad, O7, fun x ds' e => (adw x ds' e).2⟩
          have O8 : Own b7 h8 (cEnv scope (D + 1) cl env) he ωc ad := O7.heap I7 (· ≠ D) k78 (Nat.succ_ne_self D) cD fun x ds' e => (adw x ds' e).2
          refine ⟨its.length + 1 - (i + 1), by omega, ?_⟩
          rw [hJ]
          refine ⟨i + 1, b7, acc', m', d1', d2', {
            le := hi
            sm := (sm6.trans x7.same).trans ⟨_, _, rfl⟩
            st := T.iter.frame _ _ _ st6 fun a ha o e => k78 a o (fun q => by
              obtain ⟨o', e', _⟩ := T.nc a ha
              subst q; rw [hp] at e'; cases e') (x7.hh a o e)
            lst := g8, dat := r8, eq := e8, cr := c8, dl := l8
            inv := I8.weaken (fun x d e => by rw [upd_lookup (Bk.apart x d e)]; exact e) fun _ _ e => e
            ow := O8
            keep := fun a o ha e => k78 a o (fun q => by subst q; rw [hp] at e; cases e) (x7.hh a o (k26 a o ha e))
            bb := V.bb.trans x7.bb
            new := fun a o e => by
              rcases x7.new a o e with q | q
              · exact V.new a o q
              · exact .inr (sn6 a q)
            bD := b7D
            bw := fun a ha => by
              cases q : b7 a with
              | none => rfl
              | some o =>
                rcases x7.new a o q with p | p
                · rw [V.bw a ha] at p; cases p
                · obtain ⟨o', e'⟩ := w6 a ha
                  rw [show ({ s' with heap := h6, toks := tk6 } : Shared).heap.get? a = some o' from e'] at p; cases p }, rfl⟩
        cases hcr with
        | keep hE hr =>
          rename_i d d2'
          refine (hE.1 A { s' with heap := h6, toks := tk6 } he b0 bi G I6).any fun ok s7 ⟨b7, x7, e7⟩ => ?_
          subst e7
          rw [if_pos rfl]
          refine (hE.2 A s7 he b0 b7 G (I6.step x7)).any fun v s8 ⟨b8, x8, r8⟩ => ?_
          have x68 := x7.trans x8
          have g8 : s8.heap.get? D = some (lstO acc m) := x68.hh _ _ l6
          have hsz : acc.size ≤ sizeLine := by
            have e1 := V.dat.length
            have e2 := V.dl
            rw [Array.length_toList] at e1
            rw [sizeLine_eq]; omega
          refine append_at g8 (fun h9 sb g9 => ?_) hsz
          exact fin s8 b8 x68 (acc.push v) (m + 1) (d1 ++ [d]) d2' h9 s8.toks g8 g9 sb (by rw [Array.toList_push]; exact (V.dat.mono x68.bb).append (.cons r8 .nil)) (by rw [V.eq, List.append_assoc]; rfl) hr (by rw [List.length_append]; have := V.dl; simp; omega)
        | skip hN hr =>
          refine (hN A { s' with heap := h6, toks := tk6 } he b0 bi G I6).any fun ok s7 ⟨b7, x7, e7⟩ => ?_
          subst e7
          rw [if_neg Bool.false_ne_true]
          have g7 : s7.heap.get? D = some (lstO acc m) := x7.hh _ _ l6
          exact fin s7 b7 x7 acc m d1 d2 s7.heap s7.toks g7 g7 (.refl ..) (V.dat.mono x7.bb) V.eq hr (by have := V.dl; omega)
      · -- the end
        have hin : i = its.length := Nat.le_antisymm V.le hi
        subst hin
        refine T.iter.done s' _ V.st fun h' tk kp => ?_
        have hcr := V.cr
        rw [List.drop_length] at hcr
        cases hcr
        have eq := V.eq
        rw [List.append_nil] at eq
        obtain ⟨h0, tk0, e0⟩ := V.sm
        obtain ⟨hs, tks, es⟩ := T.step.same
        refine hR D (D + 1) bi acc m _ {
          step := {
            same := ⟨h', tk, by rw [e0, es]⟩
            hh := fun a o e => kp a o (ws a o e) (V.keep a o (ws a o e) (T.step.hh a o e))
            bb := T.step.bb.trans V.bb
            bh := fun a o e => kp a o (fun ha => by rw [V.bw a ha] at e; cases e) (V.inv.bh a o e)
            new := V.new }
          lst := kp D _ (fun ha => by have := wlt _ ha; omega) V.lst
          dat := eq ▸ V.dat
          dn := ⟨T.step.hh.none hp, V.bD⟩
          ln := ⟨T.step.hh.none (get_out (by rw [hD]; exact Nat.le_succ _)), V.inv.nsb, Nat.ne_of_lt (Nat.lt_succ_self _)⟩
          ns := let ⟨mm, hn⟩ := V.inv.ns; ⟨mm, hn.at' fun o e => kp _ o Lw e⟩ }
  exact codeAny_compStart_list (loop _ rfl) (wpX.any (T.iter.self 0 _ (fun it' s' => it' = .ref I ∧ s' = { s2 with heap := h4 }) (T.iter.frame 0 _ _ T.st fun a _ o e => up4 a o e) ⟨rfl, rfl⟩) fun it' s' ⟨e1, e2⟩ => by subst e1; subst e2; exact loop _ rfl)

theorem EvF.comp {elt tgt iter : Expr} {ifs : List Expr} {scope : Scope} {pos : Pos} {cl : List (Str × Addr)} {its ds names fz ρc ωc} (hit : ItX C env ρ ω n fz tgt names iter its) (Bk : Blk C env ρ ω scope cl ρc ωc names)
    (hel : ∀ L, CR (fun item d => TsX C (cEnv scope L cl env) (upd names item ρc) ωc n ifs true ∧ EvX C (cEnv scope L cl env) (upd names item ρc) ωc n elt d) (fun item => TsX C (cEnv scope L cl env) (upd names item ρc) ωc n ifs false) its ds)
    (hz : its.length ≤ 1000) (hs : ∀ env x, foldedSetIterable iter env x = pure x := by intros; rfl) : EvF C env ρ ω n (.ListComp elt [⟨tgt, iter, ifs, 0⟩] scope pos) ds := fun A s he b0 b G I => by
  rw [eval_ListComp]
  refine wpAny_comprehension_free (use := none) rfl (hs env) Bk.clos Bk.kind Bk.nms ((hit A s he b0 b G I).any fun x s1 h1 => wpX.any h1 fun it s2 ⟨b', I', fp, wr, Pv, St, e, T⟩ => ?_)
  subst e
  refine comp_core (RR := fun acc L => compPost (model C.prog C.w) A None2 none (fun v s' => ∃ b', Step b s b' s' ∧ RpF b' s s'.heap v ds) acc L) Bk G I T hel hz fun D L bn acc m s' Y => ?_
  obtain ⟨mm, hns⟩ := Y.ns
  refine ⟨mm, hns, fun h' sb => ⟨bn, ?_, D, acc, m, rfl, Y.dn.1, Y.dn.2, sb.extBut _ _ Y.ln.2.2 Y.lst, Y.dat⟩⟩
  exact {
    same := by obtain ⟨h, tk, e⟩ := Y.step.same; exact ⟨h', tk, by rw [e]⟩
    hh := fun a o e => sb.extBut a o (fun q => by rw [q, Y.ln.1] at e; cases e) (Y.step.hh a o e)
    bb := Y.step.bb
    bh := fun a o e => sb.extBut a o (fun q => by rw [q, Y.ln.2.1] at e; cases e) (Y.step.bh a o e)
    new := Y.step.new }

theorem StX.assignComp {x p elt tgt iter} {ifs : List Expr} {scope : Scope} {cpos pos : Pos} {cl : List (Str × Addr)} {its ds names fz ρc ωc rest} {K : Res → Prop} (hit : ItX C env ρ ω n fz tgt names iter its) (Bk : Blk C env ρ ω scope cl ρc ωc names)
    (hel : ∀ L, CR (fun item d => TsX C (cEnv scope L cl env) (upd names item ρc) ωc n ifs true ∧ EvX C (cEnv scope L cl env) (upd names item ρc) ωc n elt d) (fun item => TsX C (cEnv scope L cl env) (upd names item ρc) ωc n ifs false) its ds)
    (hz : its.length ≤ 1000) (hx : Storable env x) (hω : ω.lookup x = none) (k : StX C env (rm x ρ) ((x, ds) :: ω) n rest K)
    (hw : swapsWith (.ListComp elt [⟨tgt, iter, ifs, 0⟩] scope cpos) (some (.Name x p)) pos.line env = pure true := by rfl) (hs : ∀ env x, foldedSetIterable iter env x = pure x := by intros; rfl) :
    StX C env ρ ω n (.Assign [.Name x p] (.ListComp elt [⟨tgt, iter, ifs, 0⟩] scope cpos) pos :: rest) K :=
  .seq1 (fun A s he b0 b G I => by
    rw [exec_Assign_Name_used _ _ _ _ hw]
    refine wpAny_bind (wpAny_standAt (wpAny_bind ?_))
    show wpAny _ A (do let _ ← comprehension (.ListComp elt [⟨tgt, iter, ifs, 0⟩] scope cpos) scope env _ (newList []) false (eval iter env) (some (PySem.assign (.Name x p) env))) _ _ s
    refine wpAny_bind (wpX.any (C := C) (Q := fun _ s' => Sm s s' ∧ ∃ b', Inv C.g0 he b0 b' s'.heap env (rm x ρ) ((x, ds) :: ω)) ?_ fun _ s' h => wpAny_pure (wpAny_pure ⟨rfl, h⟩))
    refine wpAny_comprehension_free (use := some (PySem.assign (.Name x p) env)) rfl (hs env) Bk.clos Bk.kind Bk.nms ((hit A s he b0 b G I).any fun xv s1 h1 => wpX.any h1 fun it s2 ⟨b', I', fp, wr, Pv, St, e, T⟩ => ?_)
    subst e
    refine comp_core (RR := fun acc L => compPost (model C.prog C.w) A None2 (some (PySem.assign (.Name x p) env)) (fun _ s' => Sm s s' ∧ ∃ b', Inv C.g0 he b0 b' s'.heap env (rm x ρ) ((x, ds) :: ω)) acc L) Bk G I T hel hz fun D L bn acc m s' Y => ?_
    show wpX C A (PySem.assign (.Name x p) env (.ref D)) (fun _ s'' => ∃ m, s''.heap.Ns L m ∧ ∀ h', Heap.SameBut L s''.heap h' → Sm s { s'' with heap := h' } ∧ ∃ b', Inv C.g0 he b0 b' h' env (rm x ρ) ((x, ds) :: ω)) s'
    refine assign_Name ?_
    obtain ⟨ad, O⟩ := I.own
    have I' := I.step Y.step
    obtain ⟨mm, hns⟩ := Y.ns
    obtain ⟨ml, hnl⟩ := I.ns
    have hLl : env.locals ≠ L := fun q => by
      obtain ⟨o, _, _, ho, _⟩ := hnl
      rw [q, Y.ln.1] at ho; cases ho
    have hLc : ∀ y c, env.cells.lookup y = some c → c ≠ L := fun y c e q => by
      obtain ⟨⟨v0, o, ho, _⟩, _⟩ := I.cel y c e
      rw [q, Y.ln.1] at ho; cases ho
    refine store_own' I' hx hω Y.lst Y.dat Y.dn.2 (I.eh.none Y.dn.1) (O.step Y.step) (fun y dy e q => by
      obtain ⟨_, ⟨vs', m', g, _⟩, _⟩ := O.at' y dy e
      rw [q, Y.dn.1] at g; cases g) fun h' tk I'' keep ad' O'' hD hold => ?_
    refine ⟨mm, hns.at' fun o e => keep L o (Ne.symm hLl) (fun c e => Ne.symm (hLc _ c e)) e, fun h'' sb => ⟨?_, bn, ?_⟩⟩
    · obtain ⟨h, t, e⟩ := Y.step.same
      exact ⟨h'', tk, by rw [e]⟩
    · refine I''.heap (· ≠ L) (fun a o ne e => sb.extBut a o ne e) (fun a o e q => by rw [q, Y.ln.2.1] at e; cases e) (fun a o e q => by rw [q, I.eh.none Y.ln.1] at e; cases e) hLl hLc ⟨ad', O'', fun y dy e => ?_⟩
      rw [lookup_cons] at e
      by_cases q : y = x
      · subst q; rw [hD]; exact Y.ln.2.2
      · rw [if_neg q] at e
        rw [hold y q]
        intro p
        obtain ⟨_, ⟨vs', m', g, _⟩, _⟩ := O.at' y dy e
        rw [p, Y.ln.1] at g; cases g) k
end Nn

-- part L9
namespace Nn
variable {C : Ct} {env : Env} {ρ : Ro} {ω : Om} {n : Nat}
open PySem (Expr)

def SubL {α : Type} (a b : List (Str × α)) : Prop := ∀ x d, a.lookup x = some d → b.lookup x = some d
theorem SubL.refl {α : Type} (a : List (Str × α)) : SubL a a := fun _ _ h => h
theorem SubL.nil {α : Type} (a : List (Str × α)) : SubL [] a := fun _ _ h => by simp at h
theorem SubL.cons {α : Type} {a b : List (Str × α)} {x : Str} {d : α} (h : b.lookup x = some d) (k : SubL a b) : SubL ((x, d) :: a) b := fun y e q => by
  rw [lookup_cons] at q
  split at q
  · rename_i p; subst p; cases q; exact h
  · exact k y e q

theorem Inv.lower {he he' : Heap} {b0 bi b : View} {h : Heap} (I : Inv C.g0 he' bi b h env ρ ω) (k : Sub he.get? he'.get?) (kb : Sub b0 bi) (kn : ∀ a o, bi a = some o → b0 a = some o ∨ he.get? a = none) : Inv C.g0 he b0 b h env ρ ω :=
  have hn : ∀ a, he'.get? a = none → he.get? a = none := fun a e => k.none e
  { ok := I.ok, g := I.g, bh := I.bh, eh := k.trans I.eh, b0b := kb.trans I.b0b, ns := I.ns, nsb := I.nsb, nse := hn _ I.nse, cdist := I.cdist, var := I.var
    new := fun a o e => by
      rcases I.new a o e with q | q
      · exact kn a o q
      · exact .inr (hn a q)
    cel := fun x c e => let ⟨h1, h2, h3⟩ := I.cel x c e; ⟨h1, h2, hn _ h3⟩
    own := let ⟨ad, O⟩ := I.own; ⟨ad, ⟨fun x ds e => let ⟨h1, h2, h3, h4⟩ := O.at' x ds e; ⟨h1, h2, h3, hn _ h4⟩, O.apart⟩⟩ }
theorem Fin.lower {he he' : Heap} {b0 bi b : View} {h : Heap} (I : Fin C he' bi b h) (k : Sub he.get? he'.get?) (kb : Sub b0 bi) (kn : ∀ a o, bi a = some o → b0 a = some o ∨ he.get? a = none) : Fin C he b0 b h :=
  ⟨I.g, I.bh, k.trans I.eh, kb.trans I.b0b, fun a o e => by
    rcases I.new a o e with q | q
    · exact kn a o q
    · exact .inr (k.none q)⟩
/-- all but the frame's own -/
theorem Inv.raise {he : Heap} {b0 b : View} {h : Heap} (I : Inv C.g0 he b0 b h env ρ ω) : ∃ he', Inv C.g0 he' b b h env ρ ω ∧ Sub he.get? he'.get? ∧ ∀ a o, h.get? a = some o → Odd o → he'.get? a = some o := by
  obtain ⟨ad, O⟩ := I.own
  obtain ⟨m, hn⟩ := I.ns
  obtain ⟨l, hl⟩ : ∃ l : List Addr, l = env.locals :: (env.cells.filterMap fun p => env.cells.lookup p.1) ++ (ω.filterMap fun p => (ω.lookup p.1).map fun _ => ad p.1) := ⟨_, rfl⟩
  have mem : ∀ a, a ∈ l → a = env.locals ∨ (∃ x, env.cells.lookup x = some a) ∨ (∃ x ds, ω.lookup x = some ds ∧ a = ad x) := fun a ha => by
    rw [hl] at ha
    rcases List.mem_append.mp ha with ha | ha
    · rcases List.mem_cons.mp ha with ha | ha
      · exact .inl ha
      · obtain ⟨p, hp, e⟩ := List.mem_filterMap.mp ha
        exact .inr (.inl ⟨p.1, e⟩)
    · obtain ⟨p, hp, e⟩ := List.mem_filterMap.mp ha
      obtain ⟨ds, e1, e2⟩ := Option.map_eq_some_iff.mp e
      exact .inr (.inr ⟨p.1, ds, e1, e2.symm⟩)
  have inl : env.locals ∈ l := by rw [hl]; exact List.mem_append_left _ (.head _)
  have inc : ∀ x c, env.cells.lookup x = some c → c ∈ l := fun x c e => by
    rw [hl]
    refine List.mem_append_left _ (.tail _ (List.mem_filterMap.mpr ⟨(x, c), mem_of_lookup e, e⟩))
  have ino : ∀ x ds, ω.lookup x = some ds → ad x ∈ l := fun x ds e => by
    rw [hl]
    exact List.mem_append_right _ (List.mem_filterMap.mpr ⟨(x, ds), mem_of_lookup e, by rw [e]; rfl⟩)
  have nh : ∀ a o, he.get? a = some o → a ∉ l := fun a o e ha => by
    rcases mem a ha with q | ⟨x, q⟩ | ⟨x, ds, q, p⟩
    · subst q; rw [I.nse] at e; cases e
    · rw [(I.cel x a q).2.2] at e; cases e
    · subst p; rw [(O.at' x ds q).2.2.2] at e; cases e
  refine ⟨hideAll h l, ?_, fun a o e => hideAll_get _ (I.eh a o e) (nh a o e), fun a o e od => hideAll_get _ e fun ha => ?_⟩
  · exact { ok := I.ok, g := I.g, bh := I.bh, b0b := .refl _, ns := I.ns, nsb := I.nsb, cdist := I.cdist, var := I.var
            eh := fun a o e => of_hideAll _ e
            new := fun a o e => .inl e
            nse := hideAll_none _ inl
            cel := fun x c e => let ⟨h1, h2, h3⟩ := I.cel x c e; ⟨h1, h2, hideAll_none _ (inc x c e)⟩
            own := ⟨ad, ⟨fun x ds e => let ⟨h1, h2, h3, h4⟩ := O.at' x ds e; ⟨h1, h2, h3, hideAll_none _ (ino x ds e)⟩, O.apart⟩⟩ }
  · rcases mem a ha with q | ⟨x, q⟩ | ⟨x, ds, q, p⟩
    · obtain ⟨o', es, ep, ho, hd, _⟩ := hn
      subst q; rw [ho] at e; cases e; exact od.2.2 _ _ hd
    · obtain ⟨⟨v0, o', ho, hd⟩, _⟩ := I.cel x a q
      rw [ho] at e; cases e; exact od.2.1 _ hd
    · obtain ⟨_, ⟨vs, k, g, _⟩, _⟩ := O.at' x ds q
      subst p; rw [g] at e; cases e; exact od.1 rfl

theorem StX.forI {tgt iter : Expr} {body rest : List Stmt} {pos : Pos} {its names} {K : Res → Prop} (hit : ItX C env ρ ω n true tgt names iter its) {σ : Type} (P : Nat → σ → Prop) (R : σ → Ro) (W : σ → Om) (x0 : σ)
    (h0 : P 0 x0) (hR : SubL (R x0) ρ) (hW : SubL (W x0) ω) (hst : ∀ y, ∀ x ∈ names, Storable env x ∧ (W y).lookup x = none)
    (hbody : ∀ i item y, its[i]? = some item → P i y → StX C env (upd names item (R y)) (W y) n body (fun r => match r with
      | .next ρ' ω' => ∃ z, P (i + 1) z ∧ SubL (R z) ρ' ∧ SubL (W z) ω'
      | .cont ρ' ω' => ∃ z, P (i + 1) z ∧ SubL (R z) ρ' ∧ SubL (W z) ω'
      | .ret d => K (.ret d)))
    (hrest : ∀ y, P its.length y → StX C env (R y) (W y) n rest K) (hs : ∀ env x, foldedSetIterable iter env x = pure x := by intros; rfl) : StX C env ρ ω n (.For tgt iter body [] pos :: rest) K := fun A s he b0 b G I => by
  refine wpAny_execs_cons (wpAny_For ((hit A s he b0 b G I).any fun xv s1 h1 => wpX.any h1 fun it s2 ⟨b', I', fp, wr, Pv, St, e, T⟩ => ?_) (hs env))
  subst e
  have I2 := I.step T.step
  have ws : ∀ a o, s.heap.get? a = some o → a ∉ wr := fun a o e ha => by rw [(T.wr a ha).1] at e; cases e
  have hew : ∀ a o, he.get? a = some o → a ∉ wr := fun a o e => ws a o (I.eh a o e)
  have Lw : env.locals ∉ wr := by obtain ⟨m, o, _, _, ho, _⟩ := I.ns; exact ws _ o ho
  have cw : ∀ x c, env.cells.lookup x = some c → c ∉ wr := fun x c e => by obtain ⟨⟨_, o, ho, _⟩, _⟩ := I.cel x c e; exact ws _ o ho
  have adw : ∀ {i : Nat} {h : Heap} {ad : Str → Addr} {b1 : View} {ω1 : Om}, St i h → Own b1 h env he ω1 ad → ∀ x ds', ω1.lookup x = some ds' → ad x ∉ wr := fun {i h ad b1 ω1} st O x ds' e ha => by
    obtain ⟨o, g, od⟩ := T.iter.alive _ _ st _ ha
    obtain ⟨_, ⟨vs, k, g', _⟩, _⟩ := O.at' x ds' e
    rw [g'] at g; cases g; exact od.1 rfl
  refine codeAny_forLoop_any (fun k s' => ∃ i y bi, i ≤ its.length ∧ k = its.length + 1 - i ∧ P i y ∧ Sm s s' ∧ St i s'.heap ∧ Inv C.g0 he b0 bi s'.heap env (R y) (W y) ∧ Sub b' bi ∧ ∀ a ∈ wr, bi a = none) ?_ (its.length + 1)
    ⟨0, x0, b', Nat.zero_le _, rfl, h0, T.step.same, T.st, I2.weaken hR hW, .refl _, fun a ha => (T.wr a ha).2.1⟩
  rintro k s' ⟨i, y, bi, hle, rfl, hJ, sm, st, Ii, hbb, hbw⟩
  obtain ⟨ad, O⟩ := Ii.own
  rcases Nat.lt_or_ge i its.length with hi | hi
  · refine (T.iter.item env i s' (fun s₂ => wpX C A (execs body env) (fun f s₃ => match f with
            | .next | .cont => ∃ m, m < its.length + 1 - i ∧ ∃ i y bi, i ≤ its.length ∧ m = its.length + 1 - i ∧ P i y ∧ Sm s s₃ ∧ St i s₃.heap ∧ Inv C.g0 he b0 bi s₃.heap env (R y) (W y) ∧ Sub b' bi ∧ ∀ a ∈ wr, bi a = none
            | .brk => False
            | .ret v => Sm s s₃ ∧ ∃ r, K r ∧ ResOk C he b0 env r (.ret v) s₃) s₂) hi st ?_).any (fun r s1 h1 => ?_)
    rotate_left
    · cases r with
      | none => exact h1.elim
      | some v =>
        refine wpX.any h1 fun _ s2' h2 => wpX.any h2 fun _ s3 h3 => wpX.any h3 fun f s4 h4 => ?_
        cases f with
        | next => exact h4
        | cont => exact h4
        | brk => exact h4.elim
        | ret v => exact h4
    intro vs h' tk hPv st' kp
    have I5 : Inv C.g0 he b0 bi h' env (R y) (W y) := Ii.heap (· ∉ wr) kp (fun a o e ha => by rw [hbw a ha] at e; cases e) hew Lw cw ⟨ad, O, adw st O⟩
    have hitem : its[i]? = some its[i] := List.getElem?_eq_getElem hi
    refine asg_inv (s := { s' with heap := h', toks := tk }) I5 (T.len _ (List.getElem_mem hi)) (hst y) ((T.data i vs _ hitem hPv).mono hbb) fun h6 tk6 I6 kp6 => ?_
    have nL : ∀ a, (∃ o, bi a = some o) ∨ a ∈ wr → a ≠ env.locals ∧ ∀ y c, env.cells.lookup y = some c → a ≠ c := fun a ha => by
      rcases ha with ⟨o, e⟩ | ha
      · exact ⟨fun q => (by subst q; rw [I6.nsb] at e; cases e), fun y c ec q => (by subst q; rw [(I6.cel y a ec).2.1] at e; cases e)⟩
      · exact ⟨fun q => Lw (q ▸ ha), fun y c ec q => cw y c ec (q ▸ ha)⟩
    have kf : ∀ a ∈ fp, (∃ o, bi a = some o) ∨ a ∈ wr := fun a ha => by
      rcases T.fp a ha with q | ⟨_, q⟩
      · exact .inr q
      · obtain ⟨o, e⟩ := q rfl
        exact .inl ⟨o, hbb _ _ e⟩
    have st6 : St (i + 1) h6 := T.iter.frame _ _ _ st' fun a ha o e => kp6 a o (nL a (kf a ha)).1 (fun y _ c ec => (nL a (kf a ha)).2 y c ec) e
    obtain ⟨he6, I7, k1, k2⟩ := I6.raise
    refine (hbody i _ y hitem hJ A { s' with heap := h6, toks := tk6 } he6 bi bi G I7).any fun fl s8 ⟨sm8, r, q, ok⟩ => ?_
    have sm' : Sm s s8 := (sm.trans ⟨h6, tk6, rfl⟩).trans sm8
    have more : ∀ {b8 : View} {ρ' : Ro} {ω' : Om}, Inv C.g0 he6 bi b8 s8.heap env ρ' ω' → (∃ z, P (i + 1) z ∧ SubL (R z) ρ' ∧ SubL (W z) ω') → ∃ m, m < its.length + 1 - i ∧ ∃ i y bi, i ≤ its.length ∧ m = its.length + 1 - i ∧ P i y ∧ Sm s s8 ∧ St i s8.heap ∧ Inv C.g0 he b0 bi s8.heap env (R y) (W y) ∧ Sub b' bi ∧ ∀ a ∈ wr, bi a = none := fun {b8 ρ' ω'} I8 hq => by
      obtain ⟨z, hq⟩ := hq
      have alive6 : ∀ a ∈ wr, ∃ o, he6.get? a = some o := fun a ha => by
        obtain ⟨o, e, od⟩ := T.iter.alive _ _ st6 a ha
        exact ⟨o, k2 a o e od⟩
      refine ⟨its.length + 1 - (i + 1), by omega, i + 1, z, b8, hi, rfl, hq.1, sm', T.iter.frame _ _ _ st6 (fun a ha o e => ?_), (I8.lower k1 I6.b0b I6.new).weaken hq.2.1 hq.2.2, hbb.trans I8.b0b, fun a ha => ?_⟩
      · rcases kf a ha with ⟨o', e'⟩ | hw
        · have := I6.bh a o' e'
          rw [e] at this; cases this
          exact I8.bh _ _ (I8.b0b _ _ e')
        · obtain ⟨o', e'⟩ := alive6 a hw
          have := I7.eh a o' e'
          rw [e] at this; cases this
          exact I8.eh a o e'
      · cases q8 : b8 a with
        | none => rfl
        | some o =>
          rcases I8.new a o q8 with p | p
          · rw [hbw a ha] at p; cases p
          · obtain ⟨o', e'⟩ := alive6 a ha
            rw [e'] at p; cases p
    cases r with
    | next ρ' ω' =>
      cases fl with
      | next => obtain ⟨b8, I8⟩ := ok; exact more I8 q
      | _ => exact ok.elim
    | cont ρ' ω' =>
      cases fl with
      | cont => obtain ⟨b8, I8⟩ := ok; exact more I8 q
      | _ => exact ok.elim
    | ret d =>
      cases fl with
      | ret v =>
        obtain ⟨b8, F8, r8⟩ := ok
        exact ⟨sm', _, q, b8, F8.lower k1 I6.b0b I6.new, r8⟩
      | _ => exact ok.elim
  · have hin : i = its.length := Nat.le_antisymm hle hi
    subst hin
    refine wpX.any (T.iter.done s' (fun r s1 => r = none ∧ ∃ h' tk, s1 = { s' with heap := h', toks := tk } ∧ Inv C.g0 he b0 bi h' env (R y) (W y)) st fun h' tk kp => ⟨rfl, h', tk, rfl, Ii.heap (· ∉ wr) kp (fun a o e ha => by rw [hbw a ha] at e; cases e) hew Lw cw ⟨ad, O, adw st O⟩⟩) fun r s1 h1 => ?_
    obtain ⟨rfl, h', tk, rfl, I9⟩ := h1
    refine wpAny_execs_nil ?_
    exact (hrest y hJ A _ he b0 bi G I9).any fun fl s9 ⟨sm9, r, q, ok⟩ => ⟨(sm.trans ⟨_, _, rfl⟩).trans sm9, r, q, ok⟩


theorem StX.for {tgt iter : Expr} {body rest : List Stmt} {pos : Pos} {its names} {K : Res → Prop} (hit : ItX C env ρ ω n true tgt names iter its) (J : Nat → Prop) (R : Nat → Ro) (W : Nat → Om)
    (h0 : J 0) (hR : SubL (R 0) ρ) (hW : SubL (W 0) ω) (hst : ∀ i, ∀ x ∈ names, Storable env x ∧ (W i).lookup x = none)
    (hbody : ∀ i item, its[i]? = some item → J i → StX C env (upd names item (R i)) (W i) n body (fun r => match r with
      | .next ρ' ω' => J (i + 1) ∧ SubL (R (i + 1)) ρ' ∧ SubL (W (i + 1)) ω'
      | .cont ρ' ω' => J (i + 1) ∧ SubL (R (i + 1)) ρ' ∧ SubL (W (i + 1)) ω'
      | .ret d => K (.ret d)))
    (hrest : J its.length → StX C env (R its.length) (W its.length) n rest K) (hs : ∀ env x, foldedSetIterable iter env x = pure x := by intros; rfl) : StX C env ρ ω n (.For tgt iter body [] pos :: rest) K :=
  .forI (σ := Nat) hit (fun i y => y = i ∧ J i) R W 0 ⟨rfl, h0⟩ hR hW hst (fun i item y e ⟨q, j⟩ => by
    subst q
    exact (hbody _ item e j).mono fun r hr => by
      cases r with
      | next ρ' ω' => exact ⟨_, ⟨rfl, hr.1⟩, hr.2⟩
      | cont ρ' ω' => exact ⟨_, ⟨rfl, hr.1⟩, hr.2⟩
      | ret d => exact hr) (fun y ⟨q, j⟩ => by subst q; exact hrest j) hs
end Nn

-- part L10
namespace Nn
variable {C : Ct} {env : Env} {ρ : Ro} {ω : Om} {n : Nat}
open PySem (Expr)

theorem lookup_none_of {α : Type} {x : Str} : ∀ {l : List (Str × α)}, x ∉ l.map (·.1) → l.lookup x = none
  | [], _ => rfl
  | (y, v) :: l, h => by
    rw [lookup_cons, if_neg (fun q => h (by rw [q]; exact .head _))]
    exact lookup_none_of fun q => h (.tail _ q)
theorem bindL_out {k : Str → Option NameKind} {x : Str} : ∀ {binds : List (Str × Value)} {m : Str → Option Value}, x ∉ binds.map (·.1) → bindL k binds m x = m x
  | [], _, _ => rfl
  | (y, v) :: r, m, h => by
    unfold bindL
    rw [bindL_out fun q => h (.tail _ q)]
    split
    · show (if x = y then some v else m x) = m x
      rw [if_neg fun q => h (by rw [q]; exact .head _)]
    · rfl
theorem bindC_out {k : Str → Option NameKind} {x : Str} : ∀ {binds : List (Str × Value)} {m : Str → Option Value}, x ∉ binds.map (·.1) → bindC k binds m x = m x
  | [], _, _ => rfl
  | (y, v) :: r, m, h => by
    unfold bindC
    rw [bindC_out fun q => h (.tail _ q)]
    split
    · rfl
    · show (if x = y then some v else m x) = m x
      rw [if_neg fun q => h (by rw [q]; exact .head _)]
theorem bindL_get {k : Str → Option NameKind} {x : Str} {v : Value} : ∀ {binds : List (Str × Value)} {m : Str → Option Value}, (binds.map (·.1)).Nodup → binds.lookup x = some v → k x = some .local → bindL k binds m x = some v
  | [], _, _, h, _ => by simp at h
  | (y, w) :: r, m, nd, h, hk => by
    rw [lookup_cons] at h
    have nd' := List.nodup_cons.mp nd
    unfold bindL
    split at h
    · rename_i q
      subst q; cases h
      rw [bindL_out nd'.1, if_pos hk]
      simp
    · exact bindL_get nd'.2 h hk
theorem bindC_get {k : Str → Option NameKind} {x : Str} {v : Value} : ∀ {binds : List (Str × Value)} {m : Str → Option Value}, (binds.map (·.1)).Nodup → binds.lookup x = some v → k x ≠ some .local → bindC k binds m x = some v
  | [], _, _, h, _ => by simp at h
  | (y, w) :: r, m, nd, h, hk => by
    rw [lookup_cons] at h
    have nd' := List.nodup_cons.mp nd
    unfold bindC
    split at h
    · rename_i q
      subst q; cases h
      rw [bindC_out nd'.1, if_neg hk]
      simp
    · exact bindC_get nd'.2 h hk

theorem zip_lookup {b : View} {x : Str} {d : PyData} : ∀ {names : List Str} {vs : List Value} {ds : List PyData}, RpAll b vs ds → (names.zip ds).lookup x = some d → ∃ v, (names.zip vs).lookup x = some v ∧ Rp b v d
  | [], _, _, _, h => by simp at h
  | _ :: _, _, _, .nil, h => by simp at h
  | y :: names, _, _, .cons r rs, h => by
    rw [List.zip_cons_cons, lookup_cons] at h
    rw [List.zip_cons_cons]
    split at h
    · rename_i q
      cases h
      exact ⟨_, by rw [lookup_cons, if_pos q], r⟩
    · rename_i q
      obtain ⟨v, h1, h2⟩ := zip_lookup rs h
      exact ⟨v, by rw [lookup_cons, if_neg q]; exact h1, h2⟩
theorem zip_keys {α β : Type} : ∀ {xs : List α} {ys : List β}, xs.length = ys.length → (xs.zip ys).map (·.1) = xs
  | [], [], _ => rfl
  | x :: xs, y :: ys, h => by simp [zip_keys (by simpa using h : xs.length = ys.length)]

abbrev pms (i : Nat) : List Str := (fdAt i).params.args.map (·.arg)
abbrev fenv (i : Nat) (pm code doc : Value) (L a : Addr) : Env := callEnvC (docDef (fdAt i).name (fdAt i).params (fdAt i).body (fdAt i).scope pm code doc) L a

-- a function's frame, its end as one likes
theorem fn_call (K : CtOk C) (i : Nat) {a' : Addr} {ds : List PyData} {m : Nat} {Q : Shared → View → Value → Shared → Prop} {R : Shared → View → Prop} (name : Str) (hname : (fdAt i).name = name) (hi : 3 ≤ i ∧ i ≤ 52 := by decide) (hne : (fdAt i).body ≠ [] := by exact fun h => nomatch h)
    (hl : (pms i).length = ds.length) (hnd : (pms i).Nodup)
    (hk : ((pms i).all fun y => (fdAt i).scope.names.lookup y == some .local || (fdAt i).scope.names.lookup y == some .cell) = true)
    (hbind : ∀ pm code doc (vs : List Value), vs.length = ds.length → bindArgs (docDef (fdAt i).name (fdAt i).params (fdAt i).body (fdAt i).scope pm code doc) ⟨vs, []⟩ = pure ((pms i).zip vs))
    (hsc : (fdAt i).scope.isCoroutine = false ∧ (fdAt i).scope.isGenerator = false ∧ (fdAt i).scope.kind = .function)
    (hbody : ∀ pm code doc A s s1 b, Good A m → R s b → Sm s s1 → Sub s.heap.get? s1.heap.get? → Inv C.g0 s.heap b b s1.heap (fenv i pm code doc s.heap.objs.size a') ((pms i).zip ds) [] →
      wpX C A (execs (fdAt i).body (fenv i pm code doc s.heap.objs.size a')) (fun fl s' => ∃ v, fl = .ret v ∧ Q s b v s') s1) (ha : C.mg name = some (.ref a')) :
    ∃ o fd, C.g0.get? a' = some o ∧ o.data = .func fd ∧ ∀ A s b vs, Good A (m + 1) → Sub C.g0.get? b → Sub b s.heap.get? → RpAll b vs ds → R s b → wpX C A (call (.ref a') vs) (fun v s' => Q s b v s') s := by
  subst hname
  obtain ⟨a, o, pm, code, doc, h1, h2, h3, h4⟩ := K.fn i hi.1 hi.2 hne
  rw [ha] at h1
  cases h1
  refine ⟨o, _, h2, h3, fun A s b vs G hg hb hr hR => wpAny_call ?_⟩
  have hv : vs.length = ds.length := hr.length
  have hz : ((pms i).zip vs).map (·.1) = pms i := zip_keys (by rw [hl, hv])
  have up := hg.trans hb
  refine codeAny_call_cells (fd := docDef (fdAt i).name (fdAt i).params (fdAt i).body (fdAt i).scope pm code doc) (body := (fdAt i).body) (binds := (pms i).zip vs) G.room (up _ _ h2) h3 (K.nolimit.keeps up) (h4.keeps up) rfl (hbind pm code doc vs hv) rfl (bind_kinds (fun y hy => by
      have := List.all_eq_true.mp hk y.1 (hz ▸ List.mem_map_of_mem hy)
      rwa [Bool.or_eq_true, beq_iff_eq, beq_iff_eq] at this) _) (fun s1 X => ?_) hsc.1 hsc.2.1 hsc.2.2
  obtain ⟨h1', tk1, es, keep⟩ := X.done
  have hs1 : Sub s.heap.get? s1.heap.get? := by rw [es]; exact keep
  have G' : Good (A.deeper (fenv i pm code doc s.heap.objs.size a')) m := G.deeper ⟨hsc.2.1, hsc.1, rfl, rfl⟩
  have I : Inv C.g0 s.heap b b s1.heap (fenv i pm code doc s.heap.objs.size a') ((pms i).zip ds) [] := {
    ok := ⟨hsc.2.2, rfl, rfl⟩, g := hg, bh := hb.trans hs1, eh := hs1, b0b := .refl _, new := fun _ _ e => .inl e
    ns := ⟨_, X.toInCall.ns⟩
    nsb := hb.none (get_size _)
    nse := get_size _
    cel := fun x c e => by
      have := X.above x c (mem_of_lookup e)
      have hn : s.heap.get? c = none := get_out (Nat.le_of_lt this)
      exact ⟨⟨_, X.cell x c e⟩, hb.none hn, hn⟩
    cdist := fun x y c e1 e2 => name_of_addr X.apart (mem_of_lookup e1) (mem_of_lookup e2)
    var := fun x d e => by
      obtain ⟨v, e1, r1⟩ := zip_lookup hr e
      refine ⟨v, ?_, r1⟩
      have hx : x ∈ pms i := by rw [← hz]; exact List.mem_map_of_mem (mem_of_lookup e1)
      have hx' := List.all_eq_true.mp hk x hx
      rw [Bool.or_eq_true, beq_iff_eq, beq_iff_eq] at hx'
      rcases hx' with q | q
      · exact .loc _ q X.toInCall.ns (bindL_get (by rw [hz]; exact hnd) e1 q)
      · obtain ⟨c, hc⟩ := Option.isSome_iff_exists.mp (has_cell (fdAt i).scope.names (s.heap.objs.size + 1) [] (.inr q))
        have hnl : (fenv i pm code doc s.heap.objs.size a').kindOf x ≠ some .local := fun p => by rw [show (fenv i pm code doc s.heap.objs.size a').kindOf x = some .cell from q] at p; cases p
        refine .cell c (.inl q) hc ?_
        have := X.cell x c hc
        rwa [bindC_get (by rw [hz]; exact hnd) e1 hnl] at this
    own := ⟨fun _ => 0, ⟨fun _ _ e => by simp at e, fun _ _ _ _ e => by simp at e⟩⟩ }
  refine (hbody pm code doc _ s s1 b G' hR ⟨h1', tk1, es⟩ hs1 I).any fun fl s' ⟨v, e, q⟩ => ?_
  subst e
  exact q
theorem FnX.intro (K : CtOk C) (i : Nat) {ds : List PyData} {r : PyData} {m : Nat} (name : Str) (hname : (fdAt i).name = name) (hi : 3 ≤ i ∧ i ≤ 52 := by decide) (hne : (fdAt i).body ≠ [] := by exact fun h => nomatch h)
    (hl : (pms i).length = ds.length) (hnd : (pms i).Nodup)
    (hk : ((pms i).all fun y => (fdAt i).scope.names.lookup y == some .local || (fdAt i).scope.names.lookup y == some .cell) = true)
    (hbind : ∀ pm code doc (vs : List Value), vs.length = ds.length → bindArgs (docDef (fdAt i).name (fdAt i).params (fdAt i).body (fdAt i).scope pm code doc) ⟨vs, []⟩ = pure ((pms i).zip vs))
    (hsc : (fdAt i).scope.isCoroutine = false ∧ (fdAt i).scope.isGenerator = false ∧ (fdAt i).scope.kind = .function)
    (hbody : ∀ pm code doc L a, StX C (fenv i pm code doc L a) ((pms i).zip ds) [] m (fdAt i).body (fun res => res = .ret r)) : FnX C name ds r (m + 1) := by
  subst hname
  obtain ⟨a, _, _, _, _, ha, _⟩ := K.fn i hi.1 hi.2 hne
  obtain ⟨o, fd, h2, h3, h4⟩ := fn_call (a' := a) (Q := fun s b v s' => ∃ b', Step b s b' s' ∧ Rp b' v r) (R := fun _ _ => True) K i _ rfl hi hne hl hnd hk hbind hsc (fun pm code doc A s s1 b G _ sm up I => (hbody pm code doc s.heap.objs.size a A s1 s.heap b b G I).any fun fl s' ⟨sm', res, e, ok⟩ => by
    subst e
    cases fl with
    | ret v =>
      obtain ⟨b', F, rv⟩ := ok
      exact ⟨v, rfl, b', ⟨sm.trans sm', F.eh, F.b0b, F.bh, F.new⟩, rv⟩
    | _ => exact ok.elim) ha
  exact ⟨a, o, fd, ha, h2, h3, fun A s b vs G hg hb hr => h4 A s b vs G hg hb hr trivial⟩
theorem len1 {vs : List Value} (h : vs.length = 1) : ∃ a, vs = [a] := by
  match vs, h with
  | [a], _ => exact ⟨a, rfl⟩
theorem len2 {vs : List Value} (h : vs.length = 2) : ∃ a b, vs = [a, b] := by
  match vs, h with
  | [a, b], _ => exact ⟨a, b, rfl⟩
theorem len3 {vs : List Value} (h : vs.length = 3) : ∃ a b c, vs = [a, b, c] := by
  match vs, h with
  | [a, b, c], _ => exact ⟨a, b, c, rfl⟩
theorem len4 {vs : List Value} (h : vs.length = 4) : ∃ a b c d, vs = [a, b, c, d] := by
  match vs, h with
  | [a, b, c, d], _ => exact ⟨a, b, c, d, rfl⟩
end Nn

-- part W1
namespace Nn
variable {C : Ct} {env : Env} {ρ : Ro} {ω : Om} {n : Nat}
open PySem (Expr)

theorem StX.whileI {test : Expr} {body rest : List Stmt} {pos : Pos} {K : Res → Prop} {σ : Type} (P : σ → Prop) (R : σ → Ro) (W : σ → Om) (μ : σ → Nat) (t : σ → Bool) (x0 : σ) (h0 : P x0) (hR : SubL (R x0) ρ) (hW : SubL (W x0) ω)
    (htest : ∀ x, P x → TrX C env (R x) (W x) n test (t x))
    (hbody : ∀ x, P x → t x = true → StX C env (R x) (W x) n body (fun r => match r with
      | .next ρ' ω' => ∃ y, P y ∧ μ y < μ x ∧ SubL (R y) ρ' ∧ SubL (W y) ω'
      | .cont ρ' ω' => ∃ y, P y ∧ μ y < μ x ∧ SubL (R y) ρ' ∧ SubL (W y) ω'
      | .ret d => K (.ret d)))
    (hrest : ∀ x, P x → t x = false → StX C env (R x) (W x) n rest K) : StX C env ρ ω n (.While test body [] pos :: rest) K := fun A s he b0 b G I => by
  refine wpAny_execs_cons (wpAny_While ?_)
  refine codeAny_whileLoop (fun k s' => ∃ x bi, P x ∧ k = μ x ∧ Sm s s' ∧ Inv C.g0 he b0 bi s'.heap env (R x) (W x)) ?_ (μ x0) ⟨x0, b, h0, rfl, .refl _, I.weaken hR hW⟩
  rintro k s' ⟨x, bi, hP, rfl, sm, Ii⟩
  refine (htest x hP A s' he b0 bi G Ii).any fun t' s2 ⟨b2, x2, e2⟩ => ?_
  subst e2
  have I2 := Ii.step x2
  have sm2 : Sm s s2 := sm.trans x2.same
  cases ht : t x with
  | true =>
    rw [if_pos rfl]
    refine (hbody x hP ht A s2 he b0 b2 G I2).any fun fl s3 ⟨sm3, r, q, ok⟩ => ?_
    have sm' := sm2.trans sm3
    cases r with
    | next ρ' ω' =>
      cases fl with
      | next => obtain ⟨b8, I8⟩ := ok; obtain ⟨y, hy, hm, q1, q2⟩ := q; exact ⟨μ y, hm, y, b8, hy, rfl, sm', I8.weaken q1 q2⟩
      | _ => exact ok.elim
    | cont ρ' ω' =>
      cases fl with
      | cont => obtain ⟨b8, I8⟩ := ok; obtain ⟨y, hy, hm, q1, q2⟩ := q; exact ⟨μ y, hm, y, b8, hy, rfl, sm', I8.weaken q1 q2⟩
      | _ => exact ok.elim
    | ret d =>
      cases fl with
      | ret v => exact ⟨sm', _, q, ok⟩
      | _ => exact ok.elim
  | false =>
    rw [if_neg Bool.false_ne_true]
    refine wpAny_execs_nil ?_
    exact (hrest x hP ht A s2 he b0 b2 G I2).any fun fl s9 ⟨sm9, r, q, ok⟩ => ⟨sm2.trans sm9, r, q, ok⟩

theorem EvX.cast {e d d'} (h : EvX C env ρ ω n e d) (q : d = d') : EvX C env ρ ω n e d' := q ▸ h
theorem EvF.cast {e ds ds'} (h : EvF C env ρ ω n e ds) (q : ds = ds') : EvF C env ρ ω n e ds' := q ▸ h
theorem EvL.cast {fz e ds ds'} (h : EvL C env ρ ω n fz e ds) (q : ds = ds') : EvL C env ρ ω n fz e ds' := q ▸ h
theorem TrX.cast {e d d'} (h : TrX C env ρ ω n e d) (q : d = d') : TrX C env ρ ω n e d' := q ▸ h

theorem fn_gcd (K : CtOk C) (a b : Int) : FnX C "gcd" [.int a, .int b] (.int (Int.gcd a b : Int)) 1 := by
  refine FnX.intro K 6 "gcd" rfl (hl := rfl) (hnd := by decide) (hk := by decide) (hbind := fun pm code doc vs h => by obtain ⟨a, b, rfl⟩ := len2 h; rfl) (hsc := ⟨rfl, rfl, rfl⟩) (hbody := ?_)
  intro pm code doc L ad
  refine StX.swap (xs := ["a", "b"]) (.tuple (.cons (.abs1 K rfl (.name rfl)) (.cons (.abs1 K rfl (.name rfl)) .nil))) rfl (by
    intro x hx; simp at hx; rcases hx with rfl | rfl <;> exact ⟨.inl rfl, rfl⟩) ?_
  refine StX.whileI (σ := Nat × Nat) (fun p => Nat.gcd p.1 p.2 = Int.gcd a b) (fun p => [("a", .int p.1), ("b", .int p.2)]) (fun _ => []) (fun p => p.2) (fun p => decide ((p.2 : Int) ≠ 0)) (a.natAbs, b.natAbs) rfl ?_ (.nil _) ?_ ?_ ?_
  · exact .cons rfl (.cons rfl (.nil _))
  · intro p _
    exact .cmp (.name rfl) .int (.nei rfl)
  · intro p hp ht
    refine StX.swap (xs := ["a", "b"]) (.tuple (.cons (.name rfl) (.cons (.bin (.name rfl) (.name rfl) (.mod (by simpa using ht))) .nil))) rfl (by
      intro x hx; simp at hx; rcases hx with rfl | rfl <;> exact ⟨.inl rfl, rfl⟩) ?_
    refine StX.nil ⟨(p.2, p.1 % p.2), ?_, ?_, ?_, .nil _⟩
    · show Nat.gcd p.2 (p.1 % p.2) = _
      rw [← hp, Nat.gcd_comm p.2, ← Nat.gcd_rec, Nat.gcd_comm]
    · have : p.2 ≠ 0 := by simpa using ht
      exact Nat.mod_lt _ (by omega)
    · refine .cons rfl (.cons ?_ (.nil _))
      show some _ = some _
      rw [Int.fmod_eq_emod_of_nonneg _ (by omega)]; rfl
  · intro p hp ht
    refine StX.ret (.name rfl) ?_
    have : p.2 = 0 := by simpa using ht
    rw [this] at hp
    rw [← hp]; simp
end Nn

-- part W2
namespace Nn
variable {C : Ct} {env : Env} {ρ : Ro} {ω : Om} {n : Nat}
open PySem (Expr)

-- sizes
def Sz (m : Nat) (q : Rat) : Prop := q.num.natAbs < 2 ^ m ∧ q.den < 2 ^ m
abbrev BB : Nat := 134217728
theorem intBits_lt {x : Int} {m : Nat} (h : x.natAbs < 2 ^ m) : Builtin.Int.intBits x ≤ m := by
  unfold Builtin.Int.intBits
  split
  · omega
  · rename_i h0
    have h0' : x.natAbs ≠ 0 := by simpa using h0
    have := (Nat.log2_lt h0').mpr h
    omega
theorem mulOk {a b : Int} {m k : Nat} (ha : a.natAbs < 2 ^ m) (hb : b.natAbs < 2 ^ k) (h : m + k ≤ BB) : IntMulOk a b :=
  IntMulOk.of_le (intBits_lt ha) (intBits_lt hb) h
theorem Sz.mono {m k : Nat} {q : Rat} (h : Sz m q) (l : m ≤ k) : Sz k q :=
  have := Nat.pow_le_pow_right (n := 2) (by omega) l
  ⟨Nat.lt_of_lt_of_le h.1 this, Nat.lt_of_lt_of_le h.2 this⟩
theorem Sz.zero : Sz 1 0 := ⟨by decide, by decide⟩
theorem Sz.one : Sz 1 1 := ⟨by decide, by decide⟩
theorem Sz.int {i : Int} {m : Nat} (h : i.natAbs < 2 ^ m) (h1 : 1 ≤ m) : Sz m (i : Rat) := ⟨h, by
  show 1 < 2 ^ m
  exact Nat.one_lt_two_pow (by omega)⟩
theorem Sz.neg {m : Nat} {q : Rat} (h : Sz m q) : Sz m (-q) := ⟨by simpa using h.1, h.2⟩
theorem Sz.inv {m : Nat} {q : Rat} (h : Sz m q) (h1 : 1 ≤ m) : Sz m q⁻¹ := by
  refine ⟨?_, ?_⟩
  · rw [Rat.num_inv, Int.natAbs_mul]
    have : q.num.sign.natAbs ≤ 1 := by
      rcases Int.lt_trichotomy q.num 0 with k | k | k
      · rw [Int.sign_eq_neg_one_of_neg k]; decide
      · rw [k]; decide
      · rw [Int.sign_eq_one_of_pos k]; decide
    calc q.num.sign.natAbs * (q.den : Int).natAbs ≤ 1 * (q.den : Int).natAbs := Nat.mul_le_mul_right _ this
      _ < 2 ^ m := by simpa using h.2
  · rw [Rat.den_inv]
    split
    · exact Nat.one_lt_two_pow (by omega)
    · exact h.1
theorem divInt_sz {a b : Int} {m : Nat} (ha : a.natAbs < 2 ^ m) (hb : b.natAbs < 2 ^ m) (h1 : 1 ≤ m) : Sz m (Rat.divInt a b) := by
  refine ⟨?_, ?_⟩
  · rw [Rat.num_divInt]
    have : (b.sign * a).natAbs ≤ a.natAbs := by
      rw [Int.natAbs_mul]
      have : b.sign.natAbs ≤ 1 := by
        rcases Int.lt_trichotomy b 0 with k | k | k
        · rw [Int.sign_eq_neg_one_of_neg k]; decide
        · rw [k]; decide
        · rw [Int.sign_eq_one_of_pos k]; decide
      calc b.sign.natAbs * a.natAbs ≤ 1 * a.natAbs := Nat.mul_le_mul_right _ this
        _ = a.natAbs := Nat.one_mul _
    exact Nat.lt_of_le_of_lt (Nat.le_trans (Int.natAbs_ediv_le_natAbs _ _) this) ha
  · rw [Rat.den_divInt]
    split
    · exact Nat.one_lt_two_pow (by omega)
    · exact Nat.lt_of_le_of_lt (Nat.div_le_self _ _) hb
theorem add_num_lt {a b : Rat} {m k : Nat} (ha : Sz m a) (hb : Sz k b) : (a.num * b.den + b.num * a.den).natAbs < 2 ^ (m + k + 1) := by
  have e1 : (a.num * (b.den : Int)).natAbs ≤ 2 ^ m * 2 ^ k := by
    rw [Int.natAbs_mul]; exact Nat.mul_le_mul (Nat.le_of_lt ha.1) (by simpa using Nat.le_of_lt hb.2)
  have e2 : (b.num * (a.den : Int)).natAbs < 2 ^ k * 2 ^ m := by
    rw [Int.natAbs_mul]; exact Nat.mul_lt_mul'' hb.1 (by simpa using ha.2)
  have := Int.natAbs_add_le (a.num * b.den) (b.num * a.den)
  rw [Nat.pow_succ, Nat.pow_add]
  rw [Nat.mul_comm (2 ^ k)] at e2
  omega
theorem sub_num_lt {a b : Rat} {m k : Nat} (ha : Sz m a) (hb : Sz k b) : (a.num * b.den - b.num * a.den).natAbs < 2 ^ (m + k + 1) := by
  have := add_num_lt ha hb.neg
  rw [Rat.neg_num, Rat.neg_den, Int.neg_mul, ← Int.sub_eq_add_neg] at this
  exact this
theorem mul_lt2 {a b : Int} {m k : Nat} (ha : a.natAbs < 2 ^ m) (hb : b.natAbs < 2 ^ k) : (a * b).natAbs < 2 ^ (m + k) := by
  rw [Int.natAbs_mul, Nat.pow_add]
  exact Nat.mul_lt_mul'' ha hb
theorem den_lt2 {a b : Rat} {m k : Nat} (ha : Sz m a) (hb : Sz k b) : ((a.den : Int) * b.den).natAbs < 2 ^ (m + k) := mul_lt2 (by simpa using ha.2) (by simpa using hb.2)
theorem add_divInt (a b : Rat) : a + b = Rat.divInt (a.num * b.den + b.num * a.den) ((a.den : Int) * b.den) := by
  rw [Rat.add_def', ← Rat.divInt_ofNat, Int.natCast_mul]
theorem sub_divInt (a b : Rat) : a - b = Rat.divInt (a.num * b.den - b.num * a.den) ((a.den : Int) * b.den) := by
  rw [Rat.sub_def', ← Rat.divInt_ofNat, Int.natCast_mul]
theorem mul_divInt (a b : Rat) : a * b = Rat.divInt (a.num * b.num) ((a.den : Int) * b.den) := by
  rw [Rat.mul_def', ← Rat.divInt_ofNat, Int.natCast_mul]
theorem div_divInt (a b : Rat) : a / b = Rat.divInt (a.num * b.den) ((a.den : Int) * b.num) := by
  conv => lhs; rw [Rat.div_def, ← Rat.num_divInt_den a, Rat.inv_def b]
  rw [Rat.divInt_mul_divInt]
theorem inv_divInt (a : Rat) : a⁻¹ = Rat.divInt (a.den : Int) a.num := Rat.inv_def a
theorem Sz.add {a b : Rat} {m k : Nat} (ha : Sz m a) (hb : Sz k b) : Sz (m + k + 1) (a + b) := by
  rw [add_divInt]
  exact divInt_sz (add_num_lt ha hb) (Nat.lt_of_lt_of_le (den_lt2 ha hb) (Nat.pow_le_pow_right (by omega) (by omega))) (by omega)
theorem Sz.sub {a b : Rat} {m k : Nat} (ha : Sz m a) (hb : Sz k b) : Sz (m + k + 1) (a - b) := by
  rw [sub_divInt]
  exact divInt_sz (sub_num_lt ha hb) (Nat.lt_of_lt_of_le (den_lt2 ha hb) (Nat.pow_le_pow_right (by omega) (by omega))) (by omega)
theorem Sz.pos {a : Rat} {m : Nat} (ha : Sz m a) : 1 ≤ m := by
  rcases Nat.eq_zero_or_pos m with h | h
  · subst h
    have h1 := a.den_pos
    have h2 := ha.2
    simp at h2
    omega
  · exact h
theorem Sz.mul {a b : Rat} {m k : Nat} (ha : Sz m a) (hb : Sz k b) : Sz (m + k) (a * b) := by
  rw [mul_divInt]
  exact divInt_sz (mul_lt2 ha.1 hb.1) (den_lt2 ha hb) (by have := ha.pos; omega)
theorem Sz.div {a b : Rat} {m k : Nat} (ha : Sz m a) (hb : Sz k b) : Sz (m + k) (a / b) := ha.mul (hb.inv hb.pos)

-- more rules
theorem EvX.num {e p pos c q} (h : EvX C env ρ ω n e (ratD q)) : EvX C env ρ ω n (.Subscript e (.Constant (.int 0) c p) pos) (.int q.num) :=
  .itemT (k := 0) h .int (by decide) (by decide) rfl
theorem EvX.den {e p pos c q} (h : EvX C env ρ ω n e (ratD q)) : EvX C env ρ ω n (.Subscript e (.Constant (.int 1) c p) pos) (.int q.den) :=
  .itemT (k := 1) h .int (by decide) (by decide) rfl

theorem lowest_eq {a b : Int} (hb : b ≠ 0) : PyData.tuple [.int (a.fdiv (if b > 0 then (Int.gcd a b : Int) else -(Int.gcd a b : Int))), .int (b.fdiv (if b > 0 then (Int.gcd a b : Int) else -(Int.gcd a b : Int)))] = ratD (Rat.divInt a b) := by
    have hg : (Int.gcd a b : Int) ≠ 0 := by
      intro h
      have : Int.gcd a b = 0 := by exact_mod_cast h
      exact hb (Int.gcd_eq_zero_iff.mp this).2
    have da : (Int.gcd a b : Int) ∣ a := Int.gcd_dvd_left ..
    have db : (Int.gcd a b : Int) ∣ b := Int.gcd_dvd_right ..
    have gp : 0 < (Int.gcd a b : Int) := by omega
    show _ = PyData.tuple [.int (Rat.divInt a b).num, .int (Rat.divInt a b).den]
    rw [Rat.num_divInt, Rat.den_divInt, if_neg hb, Int.gcd_comm b a]
    rcases Int.lt_or_gt_of_ne hb with h | h
    · rw [if_neg (by omega), Int.sign_eq_neg_one_of_neg h]
      obtain ⟨x, hx⟩ := da
      obtain ⟨y, hy⟩ := db
      have e1 : a.fdiv (-(Int.gcd a b : Int)) = -x := by
        conv => lhs; lhs; rw [hx]
        rw [show (Int.gcd a b : Int) * x = (-(Int.gcd a b : Int)) * (-x) by rw [Int.neg_mul_neg]]
        exact Int.mul_fdiv_cancel_left _ (by omega)
      have e2 : b.fdiv (-(Int.gcd a b : Int)) = -y := by
        conv => lhs; lhs; rw [hy]
        rw [show (Int.gcd a b : Int) * y = (-(Int.gcd a b : Int)) * (-y) by rw [Int.neg_mul_neg]]
        exact Int.mul_fdiv_cancel_left _ (by omega)
      have e3 : -1 * a / (Int.gcd a b : Int) = -x := by
        conv => lhs; lhs; rw [hx]
        rw [show -1 * ((Int.gcd a b : Int) * x) = (Int.gcd a b : Int) * (-x) by rw [Int.mul_neg, Int.neg_mul, Int.one_mul]]
        exact Int.mul_ediv_cancel_left _ (by omega)
      have e4 : ((b.natAbs / Int.gcd a b : Nat) : Int) = -y := by
        have : (b.natAbs : Int) = (Int.gcd a b : Int) * (-y) := by rw [Int.mul_neg, ← hy]; omega
        rw [Int.natCast_ediv, this]
        exact Int.mul_ediv_cancel_left _ (by omega)
      rw [e1, e2, e3, e4]
    · rw [if_pos h, Int.sign_eq_one_of_pos h, Int.one_mul]
      have e4 : ((b.natAbs / Int.gcd a b : Nat) : Int) = b / (Int.gcd a b : Int) := by
        rw [Int.natCast_ediv]; congr 1; omega
      rw [Int.fdiv_eq_ediv_of_nonneg _ (by omega), Int.fdiv_eq_ediv_of_nonneg _ (by omega), e4]

theorem fn_rat (K : CtOk C) (a b : Int) (hb : b ≠ 0) : FnX C "rat" [.int a, .int b] (ratD (Rat.divInt a b)) 2 := by
  refine FnX.intro K 10 "rat" rfl (hl := rfl) (hnd := by decide) (hk := by decide) (hbind := fun pm code doc vs h => by obtain ⟨a, b, rfl⟩ := len2 h; rfl) (hsc := ⟨rfl, rfl, rfl⟩) (hbody := ?_)
  intro pm code doc L ad
  refine StX.iteT (t := false) (.cmp (.name rfl) .int (.eqi (by simp [hb]))) (fun h => by cases h) fun _ => .nil ?_
  have hg : (Int.gcd a b : Int) ≠ 0 := by
    intro h
    have : Int.gcd a b = 0 := by exact_mod_cast h
    exact hb (Int.gcd_eq_zero_iff.mp this).2
  refine StX.assign (d := .int (if b > 0 then (Int.gcd a b : Int) else -(Int.gcd a b : Int))) (.ife (t := decide (b > 0)) (.cmp (.name rfl) .int (.gt rfl)) (fun h => ?_) fun h => ?_) (.inl rfl) rfl ?_
  · rw [if_pos (by simpa using h)]
    exact .call K (fn_gcd K a b) rfl (.cons (.name rfl) (.cons (.name rfl) .nil)) (Nat.le_refl _)
  · rw [if_neg (by simpa using h), ← Int.zero_sub]
    exact .bin .int (.call K (fn_gcd K a b) rfl (.cons (.name rfl) (.cons (.name rfl) .nil)) (Nat.le_refl _)) .sub
  · have hg' : (if b > 0 then (Int.gcd a b : Int) else -(Int.gcd a b : Int)) ≠ 0 := by split <;> omega
    refine StX.ret (d := ratD (Rat.divInt a b)) (EvX.cast (.tuple (.cons (.bin (.name rfl) (.name rfl) (.floordiv K hg')) (.cons (.bin (.name rfl) (.name rfl) (.floordiv K hg')) .nil))) (lowest_eq hb)) rfl
theorem den_ne (a b : Rat) : (a.den : Int) * b.den ≠ 0 := by
  have := a.den_nz
  have := b.den_nz
  exact Int.mul_ne_zero (by omega) (by omega)
theorem dz {a : Rat} {m : Nat} (h : Sz m a) : (a.den : Int).natAbs < 2 ^ m := by simpa using h.2

theorem fn_radd (K : CtOk C) {a b : Rat} {m k : Nat} (ha : Sz m a) (hb : Sz k b) (h : m + k ≤ BB) : FnX C "radd" [ratD a, ratD b] (ratD (a + b)) 3 := by
  refine FnX.intro K 11 "radd" rfl (hl := rfl) (hnd := by decide) (hk := by decide) (hbind := fun pm code doc vs h => by obtain ⟨a, b, rfl⟩ := len2 h; rfl) (hsc := ⟨rfl, rfl, rfl⟩) (hbody := ?_)
  intro pm code doc L ad
  rw [add_divInt]
  exact StX.ret (.call K (fn_rat K _ _ (den_ne a b)) rfl (.cons (.bin (.bin (.num (.name rfl)) (.den (.name rfl)) (.mul (mulOk ha.1 (dz hb) h))) (.bin (.num (.name rfl)) (.den (.name rfl)) (.mul (mulOk hb.1 (dz ha) (by omega)))) .add)
    (.cons (.bin (.den (.name rfl)) (.den (.name rfl)) (.mul (mulOk (dz ha) (dz hb) h))) .nil)) (Nat.le_refl _)) rfl
theorem fn_rsub (K : CtOk C) {a b : Rat} {m k : Nat} (ha : Sz m a) (hb : Sz k b) (h : m + k ≤ BB) : FnX C "rsub" [ratD a, ratD b] (ratD (a - b)) 3 := by
  refine FnX.intro K 12 "rsub" rfl (hl := rfl) (hnd := by decide) (hk := by decide) (hbind := fun pm code doc vs h => by obtain ⟨a, b, rfl⟩ := len2 h; rfl) (hsc := ⟨rfl, rfl, rfl⟩) (hbody := ?_)
  intro pm code doc L ad
  rw [sub_divInt]
  exact StX.ret (.call K (fn_rat K _ _ (den_ne a b)) rfl (.cons (.bin (.bin (.num (.name rfl)) (.den (.name rfl)) (.mul (mulOk ha.1 (dz hb) h))) (.bin (.num (.name rfl)) (.den (.name rfl)) (.mul (mulOk hb.1 (dz ha) (by omega)))) .sub)
    (.cons (.bin (.den (.name rfl)) (.den (.name rfl)) (.mul (mulOk (dz ha) (dz hb) h))) .nil)) (Nat.le_refl _)) rfl
theorem fn_rmul (K : CtOk C) {a b : Rat} {m k : Nat} (ha : Sz m a) (hb : Sz k b) (h : m + k ≤ BB) : FnX C "rmul" [ratD a, ratD b] (ratD (a * b)) 3 := by
  refine FnX.intro K 13 "rmul" rfl (hl := rfl) (hnd := by decide) (hk := by decide) (hbind := fun pm code doc vs h => by obtain ⟨a, b, rfl⟩ := len2 h; rfl) (hsc := ⟨rfl, rfl, rfl⟩) (hbody := ?_)
  intro pm code doc L ad
  rw [mul_divInt]
  exact StX.ret (.call K (fn_rat K _ _ (den_ne a b)) rfl (.cons (.bin (.num (.name rfl)) (.num (.name rfl)) (.mul (mulOk ha.1 hb.1 h)))
    (.cons (.bin (.den (.name rfl)) (.den (.name rfl)) (.mul (mulOk (dz ha) (dz hb) h))) .nil)) (Nat.le_refl _)) rfl
theorem fn_rdiv (K : CtOk C) {a b : Rat} {m k : Nat} (ha : Sz m a) (hb : Sz k b) (h : m + k ≤ BB) (h0 : b ≠ 0) : FnX C "rdiv" [ratD a, ratD b] (ratD (a / b)) 3 := by
  refine FnX.intro K 14 "rdiv" rfl (hl := rfl) (hnd := by decide) (hk := by decide) (hbind := fun pm code doc vs h => by obtain ⟨a, b, rfl⟩ := len2 h; rfl) (hsc := ⟨rfl, rfl, rfl⟩) (hbody := ?_)
  intro pm code doc L ad
  rw [div_divInt]
  have hn : (a.den : Int) * b.num ≠ 0 := Int.mul_ne_zero (by have := a.den_nz; omega) (fun q => h0 (Rat.num_eq_zero.mp q))
  exact StX.ret (.call K (fn_rat K _ _ hn) rfl (.cons (.bin (.num (.name rfl)) (.den (.name rfl)) (.mul (mulOk ha.1 (dz hb) h)))
    (.cons (.bin (.den (.name rfl)) (.num (.name rfl)) (.mul (mulOk (dz ha) hb.1 h))) .nil)) (Nat.le_refl _)) rfl
theorem fn_rneg (K : CtOk C) (a : Rat) : FnX C "rneg" [ratD a] (ratD (-a)) 1 := by
  refine FnX.intro K 15 "rneg" rfl (hl := rfl) (hnd := by decide) (hk := by decide) (hbind := fun pm code doc vs h => by obtain ⟨a, rfl⟩ := len1 h; rfl) (hsc := ⟨rfl, rfl, rfl⟩) (hbody := ?_)
  intro pm code doc L ad
  exact StX.ret (EvX.cast (.tuple (.cons (.bin .int (.num (.name rfl)) .sub) (.cons (.den (.name rfl)) .nil))) (by rw [Int.zero_sub]; rfl)) rfl
theorem fn_rinv (K : CtOk C) (a : Rat) (h0 : a ≠ 0) : FnX C "rinv" [ratD a] (ratD a⁻¹) 3 := by
  refine FnX.intro K 16 "rinv" rfl (hl := rfl) (hnd := by decide) (hk := by decide) (hbind := fun pm code doc vs h => by obtain ⟨a, rfl⟩ := len1 h; rfl) (hsc := ⟨rfl, rfl, rfl⟩) (hbody := ?_)
  intro pm code doc L ad
  rw [inv_divInt]
  exact StX.ret (.call K (fn_rat K _ _ (fun q => h0 (Rat.num_eq_zero.mp q))) rfl (.cons (.den (.name rfl)) (.cons (.num (.name rfl)) .nil)) (Nat.le_refl _)) rfl
end Nn

-- part W3
namespace Nn
variable {C : Ct} {env : Env} {ρ : Ro} {ω : Om} {n : Nat}
open PySem (Expr)

theorem CR.map {α : Type} {El : List PyData → PyData → Prop} {No : List PyData → Prop} (f : α → List PyData) (g : α → PyData) : ∀ (xs : List α), (∀ x ∈ xs, El (f x) (g x)) → CR El No (xs.map f) (xs.map g)
  | [], _ => .nil
  | x :: xs, h => .keep (h x (.head _)) (CR.map f g xs fun y hy => h y (.tail _ hy))
theorem CR.filter {α : Type} {El : List PyData → PyData → Prop} {No : List PyData → Prop} (f : α → List PyData) (g : α → PyData) (p : α → Bool) : ∀ (xs : List α), (∀ x ∈ xs, p x = true → El (f x) (g x)) → (∀ x ∈ xs, p x = false → No (f x)) → CR El No (xs.map f) ((xs.filter p).map g)
  | [], _, _ => .nil
  | x :: xs, h, k => by
    cases hp : p x with
    | true => rw [List.filter_cons_of_pos hp]; exact .keep (h x (.head _) hp) (CR.filter f g p xs (fun y hy => h y (.tail _ hy)) fun y hy => k y (.tail _ hy))
    | false => rw [List.filter_cons_of_neg (by simp [hp])]; exact .skip (k x (.head _) hp) (CR.filter f g p xs (fun y hy => h y (.tail _ hy)) fun y hy => k y (.tail _ hy))

def CloAll (env : Env) : List (Str × Addr) → Prop
  | [] => True
  | (x, c) :: r => env.cells.lookup x = some c ∧ CloAll env r
theorem CloAll.get {env : Env} : ∀ {l : List (Str × Addr)}, CloAll env l → ∀ x c, l.lookup x = some c → env.cells.lookup x = some c
  | [], _, x, c, e => by simp at e
  | (y, d) :: r, h, x, c, e => by
    rw [lookup_cons] at e
    split at e
    · rename_i q; subst q; cases e; exact h.1
    · exact CloAll.get h.2 x c e
def CapAll {α : Type} (env : Env) (ρ : List (Str × α)) (scope : Scope) (cl : List (Str × Addr)) (names : List Str) : List (Str × α) → Prop
  | [] => True
  | (x, d) :: r => (ρ.lookup x = some d ∧ (env.cells.lookup x).isSome = true ∧ (∀ L, (cEnv scope L cl env).cells.lookup x = env.cells.lookup x ∧ (cEnv scope L cl env).kindOf x = some .cell ∧ env.kindOf x ≠ some .local) ∧ x ∉ names) ∧ CapAll env ρ scope cl names r
theorem CapAll.get {α : Type} {env : Env} {ρ : List (Str × α)} {scope : Scope} {cl : List (Str × Addr)} {names : List Str} : ∀ {l : List (Str × α)}, CapAll env ρ scope cl names l → ∀ x d, l.lookup x = some d →
    (ρ.lookup x = some d ∧ (env.cells.lookup x).isSome = true ∧ (∀ L, (cEnv scope L cl env).cells.lookup x = env.cells.lookup x ∧ (cEnv scope L cl env).kindOf x = some .cell ∧ env.kindOf x ≠ some .local) ∧ x ∉ names)
  | [], _, x, c, e => by simp at e
  | (y, d) :: r, h, x, c, e => by
    rw [lookup_cons] at e
    split at e
    · rename_i q; subst q; cases e; exact h.1
    · exact CapAll.get h.2 x c e
def TgtAll (env : Env) (scope : Scope) (cl : List (Str × Addr)) (ωc : Om) : List Str → Prop
  | [] => True
  | x :: r => ((∀ L, Storable (cEnv scope L cl env) x) ∧ ωc.lookup x = none ∧ cl.lookup x = none) ∧ TgtAll env scope cl ωc r
theorem TgtAll.get {env : Env} {scope : Scope} {cl : List (Str × Addr)} {ωc : Om} : ∀ {l : List Str}, TgtAll env scope cl ωc l → ∀ x ∈ l, (∀ L, Storable (cEnv scope L cl env) x) ∧ ωc.lookup x = none ∧ cl.lookup x = none
  | [], _, x, e => by simp at e
  | y :: r, h, x, e => by
    rcases List.mem_cons.mp e with q | q
    · subst q; exact h.1
    · exact TgtAll.get h.2 x q
theorem Blk.of {scope cl ρc ωc names} (clos : closureFor scope env = pure cl) (kind : scope.kind = .function) (nms : ∀ x ∈ scope.names, x.2 = .local → scope.names.lookup x.1 = some .local)
    (h1 : CloAll env cl) (h2 : CapAll env ρ scope cl names ρc) (h3 : CapAll env ω scope cl names ωc) (h4 : TgtAll env scope cl ωc names) : Blk C env ρ ω scope cl ρc ωc names :=
  { clos := clos, kind := kind, nms := nms, clo := h1.get
    capt := fun x d e => let ⟨a, b, c, _⟩ := h2.get x d e; ⟨a, b, fun L => ⟨(c L).1, .inl (c L).2.1, (c L).2.2⟩⟩
    captω := fun x d e => let ⟨a, b, c, _⟩ := h3.get x d e; ⟨a, b, fun L => ⟨(c L).1, .inl (c L).2.1, (c L).2.2⟩⟩
    st := fun L x hx => let ⟨a, b, _⟩ := h4.get x hx; ⟨a L, b⟩
    nm := fun x hx => (h4.get x hx).2.2
    apart := fun x d e => (h2.get x d e).2.2.2 }

local macro_rules | `(tactic| walk_at "cap") => `(tactic| first | exact trivial | exact ⟨⟨rfl, rfl, fun L => ⟨rfl, rfl, nofun⟩, by decide⟩, by walk_at "cap"⟩)
local macro_rules | `(tactic| walk_at "clo") => `(tactic| first | exact trivial | exact ⟨rfl, by walk_at "clo"⟩)
local macro_rules | `(tactic| walk_at "tgt") => `(tactic| first | exact trivial | exact ⟨⟨fun L => .inl rfl, rfl, rfl⟩, by walk_at "tgt"⟩ | exact ⟨⟨fun L => .inr ⟨rfl, rfl⟩, rfl, rfl⟩, by walk_at "tgt"⟩)
local macro_rules | `(tactic| walk_at "blk") => `(tactic| exact Blk.of rfl rfl (by decide) (by walk_at "clo") (by walk_at "cap") (by walk_at "cap") (by walk_at "tgt"))

abbrev ratsD (qs : List Rat) : PyData := .list (qs.map ratD)
def SzL (m : Nat) (qs : List Rat) : Prop := ∀ q ∈ qs, Sz m q

theorem EvX.lenM {α : Type} (K : CtOk C) {f1 p e pos} {g : α → PyData} {xs : List α} (hx : env.kindOf "len" = some .globalImplicit) (h : EvL C env ρ ω n f1 e (xs.map g)) (hl : xs.length ≤ 1000)
    (hs : ∀ env, starEach [e] env = (false, eval e env) :: starEach [] env := by intro; rfl) : EvX C env ρ ω n (.Call (.Name "len" p) [e] [] pos) (.int xs.length) := by
  have := EvX.len (p := p) (pos := pos) K hx h (by rw [List.length_map]; exact hl) hs
  rwa [List.length_map] at this

theorem fn_qneg (K : CtOk C) (p : List Rat) (hp : p.length ≤ 1000) : FnX C "qneg" [ratsD p] (ratsD (p.map fun q => -q)) 2 := by
  refine FnX.intro K 22 "qneg" rfl (hl := rfl) (hnd := by decide) (hk := by decide) (hbind := fun pm code doc vs h => by obtain ⟨a, rfl⟩ := len1 h; rfl) (hsc := ⟨rfl, rfl, rfl⟩) (hbody := ?_)
  intro pm code doc L ad
  refine StX.ret (.ofF (.comp (ρc := []) (ωc := []) (cl := []) (.list (fz := true) (.of (.name rfl))) (by walk_at "blk") ?_ (by simpa using hp))) rfl
  · intro L
    rw [List.map_map, List.map_map]
    exact CR.map _ _ p fun q hq => ⟨.nil, .call K (fn_rneg K q) rfl (.cons (.name rfl) .nil) (by decide)⟩

theorem fn_qscale (K : CtOk C) (p : List Rat) (r : Rat) {m k : Nat} (hp : p.length ≤ 1000) (hm : SzL m p) (hr : Sz k r) (hb : m + k ≤ BB) : FnX C "qscale" [ratsD p, ratD r] (ratsD (if r = 0 then [] else p.map fun q => q * r)) 4 := by
  refine FnX.intro K 24 "qscale" rfl (hl := rfl) (hnd := by decide) (hk := by decide) (hbind := fun pm code doc vs h => by obtain ⟨a, b, rfl⟩ := len2 h; rfl) (hsc := ⟨rfl, rfl, rfl⟩) (hbody := ?_)
  intro pm code doc L ad
  refine StX.ret (.ife (t := decide (r.num ≠ 0)) (.cmp (.num (.name rfl)) .int (.nei rfl)) (fun h => ?_) fun h => ?_) rfl
  · have h0 : r ≠ 0 := fun q => by subst q; simp at h
    rw [if_neg h0]
    refine .ofF (.comp (ρc := [("r", ratD r)]) (ωc := []) (cl := [("r", L + 1)]) (.list (fz := true) (.of (.name rfl))) (by walk_at "blk") ?_ (by simpa using hp))
    · intro L
      rw [List.map_map, List.map_map]
      exact CR.map _ _ p fun q hq => ⟨.nil, .call K (fn_rmul K (hm q hq) hr hb) rfl (.cons (.name rfl) (.cons (.name rfl) .nil)) (by decide)⟩
  · have h0 : r = 0 := Rat.num_eq_zero.mp (by simpa using h)
    rw [if_pos h0]
    exact .ofF (.list .nil)
end Nn

-- part W4
namespace Nn
variable {C : Ct} {env : Env} {ρ : Ro} {ω : Om} {n : Nat}
open PySem (Expr)

local macro_rules | `(tactic| walk_at "cap") => `(tactic| first | exact trivial | exact ⟨⟨rfl, rfl, fun L => ⟨rfl, rfl, nofun⟩, by decide⟩, by walk_at "cap"⟩)
local macro_rules | `(tactic| walk_at "clo") => `(tactic| first | exact trivial | exact ⟨rfl, by walk_at "clo"⟩)
local macro_rules | `(tactic| walk_at "tgt") => `(tactic| first | exact trivial | exact ⟨⟨fun L => .inl rfl, rfl, rfl⟩, by walk_at "tgt"⟩ | exact ⟨⟨fun L => .inr ⟨rfl, rfl⟩, rfl, rfl⟩, by walk_at "tgt"⟩)
local macro_rules | `(tactic| walk_at "blk") => `(tactic| exact Blk.of rfl rfl (by decide) (by walk_at "clo") (by walk_at "cap") (by walk_at "cap") (by walk_at "tgt"))
local macro_rules | `(tactic| walk_at "sto") => `(tactic| first | exact .inl rfl | exact .inr ⟨rfl, rfl⟩)
local macro_rules | `(tactic| walk_at "stos") => `(tactic| first | exact List.forall_mem_nil _ | refine List.forall_mem_cons.mpr (And.intro (And.intro (by walk_at "sto") (by rfl)) (by walk_at "stos")))

def tsz (p : List Rat) : Nat → Nat
  | 0 => 0
  | s + 1 => if p.getD s 0 = 0 then tsz p s else s + 1
def trim (p : List Rat) : List Rat := p.take (tsz p p.length)
theorem tsz_le (p : List Rat) : ∀ n, tsz p n ≤ n
  | 0 => Nat.le_refl _
  | n + 1 => by unfold tsz; split; exact Nat.le_succ_of_le (tsz_le p n); exact Nat.le_refl _
theorem trim_len (p : List Rat) : (trim p).length ≤ p.length := by unfold trim; simp; omega
theorem getq {p : List Rat} {i : Nat} (h : i < p.length) : (p.map ratD)[i]? = some (ratD (p.getD i 0)) := by
  rw [List.getElem?_map, List.getElem?_eq_getElem h, List.getD_eq_getElem?_getD, List.getElem?_eq_getElem h]; rfl
theorem slc_take {α : Type} (xs : List α) {k : Nat} (h : k ≤ xs.length) : slc xs none (some (k : Int)) = xs.take k := by
  unfold slc
  have : clipAt xs.length (k : Int) = k := by unfold clipAt; split <;> omega
  simp [this]
theorem getD_mem {p : List Rat} {i : Nat} (h : i < p.length) : p.getD i 0 ∈ p := by
  rw [List.getD_eq_getElem?_getD, List.getElem?_eq_getElem h]; exact List.getElem_mem h
theorem SzL.get {m : Nat} {p : List Rat} (h : SzL m p) (h1 : 1 ≤ m) (i : Nat) : Sz m (p.getD i 0) := by
  by_cases hi : i < p.length
  · exact h _ (getD_mem hi)
  · rw [List.getD_eq_getElem?_getD, List.getElem?_eq_none (by omega)]; exact Sz.zero.mono h1
theorem SzL.mono {m k : Nat} {p : List Rat} (h : SzL m p) (l : m ≤ k) : SzL k p := fun q hq => (h q hq).mono l

theorem fn_qtrim (K : CtOk C) (p : List Rat) (hp : p.length ≤ 1000) : FnX C "qtrim" [ratsD p] (ratsD (trim p)) 1 := by
  refine FnX.intro K 18 "qtrim" rfl (hl := rfl) (hnd := by decide) (hk := by decide) (hbind := fun pm code doc vs h => by obtain ⟨a, rfl⟩ := len1 h; rfl) (hsc := ⟨rfl, rfl, rfl⟩) (hbody := ?_)
  intro pm code doc L ad
  refine StX.assign (.len K rfl (f1 := true) (.of (.name rfl)) (by simpa using hp)) (by walk_at "sto") rfl ?_
  refine StX.whileI (σ := Nat) (fun s => tsz p s = tsz p p.length ∧ s ≤ p.length) (fun s => [("size", .int s), ("row", ratsD p)]) (fun _ => []) (fun s => s)
    (fun s => decide ((s : Int) > 0) && decide ((p.getD (s - 1) 0).num = 0)) p.length ⟨rfl, Nat.le_refl _⟩ ?_ (.nil _) ?_ ?_ ?_
  · exact .cons (by rw [List.length_map]; rfl) (.cons rfl (.nil _))
  · intro s hs
    refine TrX.and (.cmp (.name rfl) .int (.gt rfl)) fun h => ?_
    have h0 : 0 < s := by simpa using h
    refine .cmp (.num (q := p.getD (s - 1) 0) ?_) .int (.eqi rfl)
    refine .item (f1 := true) (.of (.name rfl)) (.bin (.name rfl) .int .sub) (by omega) (by omega) ?_
    rw [show ((s : Int) - 1).toNat = s - 1 by omega]
    exact getq (by omega)
  · intro s hs ht
    rw [Bool.and_eq_true, decide_eq_true_eq, decide_eq_true_eq] at ht
    refine StX.aug rfl .int .sub (by walk_at "sto") rfl (StX.nil ⟨s - 1, ⟨?_, by omega⟩, by omega, ?_, .nil _⟩)
    · rw [← hs.1]
      obtain ⟨k, rfl⟩ : ∃ k, s = k + 1 := ⟨s - 1, by omega⟩
      have : p.getD k 0 = 0 := Rat.num_eq_zero.mp (by simpa using ht.2)
      rw [show k + 1 - 1 = k by omega, tsz, if_pos this]
    · exact .cons (by rw [show ((s - 1 : Nat) : Int) = (s : Int) - 1 by omega]; rfl) (.cons rfl (.nil _))
  · intro s hs ht
    refine StX.ret (d := ratsD (trim p)) (.ofF (.listOf K rfl (f1 := true) (EvL.ofF (.cast (.slice (f1 := true) (lo := none) (hi := some _) (a := none) (c := some (s : Int)) (.of (.name rfl)) trivial (by exact EvX.name rfl) (by simpa using hp)) ?_)) ?_)) rfl
    · rw [slc_take _ (by simpa using hs.2), ← List.map_take]
      congr 1
      unfold trim
      rw [← hs.1]
      congr 1
      obtain h | ⟨k, rfl⟩ : s = 0 ∨ ∃ k, s = k + 1 := by
        cases s with
        | zero => exact .inl rfl
        | succ k => exact .inr ⟨k, rfl⟩
      · subst h; rfl
      · rw [tsz, if_neg]
        intro q
        rw [show k + 1 - 1 = k by omega, q] at ht
        simp at ht
    · have := trim_len p
      rw [List.length_map]; omega

theorem fn_qdegree (K : CtOk C) (p : List Rat) (hp : p.length ≤ 1000) : FnX C "qdegree" [ratsD p] (.int ((p.length : Int) - 1)) 1 := by
  refine FnX.intro K 19 "qdegree" rfl (hl := rfl) (hnd := by decide) (hk := by decide) (hbind := fun pm code doc vs h => by obtain ⟨a, rfl⟩ := len1 h; rfl) (hsc := ⟨rfl, rfl, rfl⟩) (hbody := ?_)
  intro pm code doc L ad
  exact StX.ret (.bin (.cast (.len K rfl (f1 := true) (.of (.name rfl)) (by simpa using hp)) (by rw [List.length_map])) .int .sub) rfl
def lead (p : List Rat) : Rat := p.getD (p.length - 1) 0
theorem EvX.last {e p1 pos} {c : Nat} {p : List Rat} {f1 : Bool} (h : EvL C env ρ ω n f1 e (p.map ratD)) (hp : p.length ≤ 1000) (h0 : 0 < p.length) : EvX C env ρ ω n (.Subscript e (.UnaryOp .USub (.Constant (.int 1) c p1) pos) pos') (ratD (lead p)) := by
  refine .itemNeg h (.neg .int) (by decide) (by rw [List.length_map]; omega) (by simpa using hp) ?_
  rw [List.length_map, show (-1 + (p.length : Int)).toNat = p.length - 1 by omega]
  exact getq (by omega)
theorem fn_qlead (K : CtOk C) (p : List Rat) (hp : p.length ≤ 1000) : FnX C "qlead" [ratsD p] (ratD (lead p)) 1 := by
  refine FnX.intro K 20 "qlead" rfl (hl := rfl) (hnd := by decide) (hk := by decide) (hbind := fun pm code doc vs h => by obtain ⟨a, rfl⟩ := len1 h; rfl) (hsc := ⟨rfl, rfl, rfl⟩) (hbody := ?_)
  intro pm code doc L ad
  refine StX.ret (.ife (t := decide (0 < (p.length : Int))) (.cmp (.len K rfl (f1 := true) (.of (.name rfl)) (by simpa using hp)) .int (.gt (by simp))) (fun h => ?_) fun h => ?_) rfl
  · exact .last (f1 := true) (.of (.name rfl)) hp (by simpa using h)
  · have : p = [] := by simpa using h
    subst this
    exact .glob K K.r0 rfl
end Nn

-- part W5
namespace Nn
variable {C : Ct} {env : Env} {ρ : Ro} {ω : Om} {n : Nat}
open PySem (Expr)

local macro_rules | `(tactic| walk_at "cap") => `(tactic| first | exact trivial | exact ⟨⟨rfl, rfl, fun L => ⟨rfl, rfl, nofun⟩, by decide⟩, by walk_at "cap"⟩)
local macro_rules | `(tactic| walk_at "clo") => `(tactic| first | exact trivial | exact ⟨rfl, by walk_at "clo"⟩)
local macro_rules | `(tactic| walk_at "tgt") => `(tactic| first | exact trivial | exact ⟨⟨fun L => .inl rfl, rfl, rfl⟩, by walk_at "tgt"⟩ | exact ⟨⟨fun L => .inr ⟨rfl, rfl⟩, rfl, rfl⟩, by walk_at "tgt"⟩)
local macro_rules | `(tactic| walk_at "blk") => `(tactic| exact Blk.of rfl rfl (by decide) (by walk_at "clo") (by walk_at "cap") (by walk_at "cap") (by walk_at "tgt"))
local macro_rules | `(tactic| walk_at "sto") => `(tactic| first | exact .inl rfl | exact .inr ⟨rfl, rfl⟩)
local macro_rules | `(tactic| walk_at "stos") => `(tactic| first | exact List.forall_mem_nil _ | refine List.forall_mem_cons.mpr (And.intro (And.intro (by walk_at "sto") (by rfl)) (by walk_at "stos")))


theorem StX.swapF {e1 e2 k2 p elts k tpos pos rest x y d1 ds} {K : Res → Prop} (h1 : EvX C env ρ ω n e1 d1) (h2 : EvF C env ρ ω n e2 ds) (hx : Storable env x) (hxω : ω.lookup x = none) (hy : Storable env y) (hyω : ω.lookup y = none) (hxy : x ≠ y)
    (k' : StX C env ((x, d1) :: rm y ρ) ((y, ds) :: ω) n rest K) (hs : ∀ env, swapsWithSole [.Tuple elts k tpos] (.Tuple [e1, e2] k2 p) pos.line env = pure false := by intro; rfl)
    (hw : swappedStores [.Tuple elts k tpos] (.Tuple [e1, e2] k2 p) env = pure (some [x, y]) := by rfl) (hs1 : ∀ env, starEach [e1, e2] env = (false, eval e1 env) :: starEach [e2] env := by intro; rfl)
    (hs2 : ∀ env, starEach [e2] env = (false, eval e2 env) :: starEach [] env := by intro; rfl) : StX C env ρ ω n (.Assign [.Tuple elts k tpos] (.Tuple [e1, e2] k2 p) pos :: rest) K :=
  .seq1 (fun A s he b0 b G I => Assign_Tuple_swapped (wpAny_Tuple (wpAny_items_cons ((h1 A s he b0 b G I).any fun v1 s1 ⟨b1, x1, r1⟩ => wpAny_items_cons ((h2 A s1 he b0 b1 G (I.step x1)).any fun v2 s2 ⟨b2, x2, l, vs, m, e, g1, g2, g3, g4⟩ => wpAny_items_nil (by
    subst e
    refine ⟨by rw [sizeLine_eq]; simp, ?_⟩
    have I2 := (I.step x1).step x2
    have y3 : Step b2 s2 b2 { s2 with heap := s2.heap.push (tupO #[v1, .ref l] 0) } := .push x2.bh _ s2.toks
    have g5 : (s2.heap.push (tupO #[v1, .ref l] 0)).get? s2.heap.objs.size = some (tupO #[v1, .ref l] 0) := Heap.get?_push_size _ rfl
    refine wpAny_unpackItems_tuple (items := #[v1, .ref l]) G.1 ⟨_, g5, rfl, 0, rfl⟩ fun h' he' => ?_
    have y4 : Step b2 { s2 with heap := s2.heap.push (tupO #[v1, .ref l] 0) } b2 { s2 with heap := h' } := .grow y3.bh fun c o e => he' c o (fun q => by subst q; rw [get_size] at e; cases e) e
    have I4 := (I2.step y3).step y4
    have acts : ∀ ys : List Str, ActsAll env (ys.map fun n => bindName env n) ys := fun ys => by
      induction ys with
      | nil => exact .nil
      | cons y ys ih => exact .cons acts_bind ih
    refine asg_run (acts [y, x]) ?_
    show wpX C A (storeName env y (.ref l)) (fun _ s' => wpX C A (storeName env x v1) _ s') _
    obtain ⟨ad, O⟩ := I.own
    have xs := ((x1.trans x2).trans y3).trans y4
    refine store_own I4 hy hyω (y4.hh _ _ (y3.hh _ _ g3)) g4 g2 ((I.step x1).eh.none g1) ⟨ad, O.step xs, fun z dz e q => ?_⟩ fun h5 tk5 I5 => ?_
    · obtain ⟨_, ⟨vs', m', g, _⟩, _⟩ := O.at' z dz e
      rw [← q] at g1
      rw [x1.hh _ _ g] at g1; cases g1
    · refine store_base I5 hx (by rw [lookup_cons, if_neg hxy]; exact hxω) (r1.mono x2.bb) fun h6 tk6 I6 _ => ?_
      refine ⟨rfl, Sm.trans (Sm.trans x1.same x2.same) ⟨h6, tk6, rfl⟩, b2, I6⟩)) (hs2 _)) (hs1 _))) (hs env) hw) k'

def padd (a b : List Rat) : List Rat := trim ((List.range (max a.length b.length)).map fun i => a.getD i 0 + b.getD i 0)
def pneg (p : List Rat) : List Rat := p.map fun q => -q
def psub (a b : List Rat) : List Rat := padd a (pneg b)
def pscale (p : List Rat) (r : Rat) : List Rat := if r = 0 then [] else p.map fun q => q * r
def praise (p : List Rat) (k : Nat) : List Rat := if p = [] then [] else List.replicate k 0 ++ p

theorem SzL.sub {m : Nat} {p q : List Rat} (h : SzL m p) (k : ∀ x ∈ q, x ∈ p) : SzL m q := fun x hx => h x (k x hx)
theorem SzL.trim {m : Nat} {p : List Rat} (h : SzL m p) : SzL m (trim p) := h.sub fun x hx => List.mem_of_mem_take hx
theorem SzL.padd {m k : Nat} {a b : List Rat} (h : SzL m a) (h' : SzL k b) (h1 : 1 ≤ m) (h2 : 1 ≤ k) : SzL (m + k + 1) (padd a b) := by
  refine SzL.trim fun q hq => ?_
  obtain ⟨i, _, rfl⟩ := List.mem_map.mp hq
  exact (h.get h1 i).add (h'.get h2 i)
theorem SzL.pneg {m : Nat} {p : List Rat} (h : SzL m p) : SzL m (pneg p) := fun q hq => by
  obtain ⟨x, hx, rfl⟩ := List.mem_map.mp hq
  exact (h x hx).neg
theorem SzL.pscale {m k : Nat} {p : List Rat} {r : Rat} (h : SzL m p) (hr : Sz k r) : SzL (m + k) (pscale p r) := fun q hq => by
  unfold Nn.pscale at hq
  split at hq
  · simp at hq
  · obtain ⟨x, hx, rfl⟩ := List.mem_map.mp hq
    exact (h x hx).mul hr
theorem SzL.praise {m k : Nat} {p : List Rat} (h : SzL m p) (h1 : 1 ≤ m) : SzL m (praise p k) := fun q hq => by
  unfold Nn.praise at hq
  split at hq
  · simp at hq
  · rcases List.mem_append.mp hq with hq | hq
    · rw [List.eq_of_mem_replicate hq]; exact Sz.zero.mono h1
    · exact h q hq
theorem padd_len (a b : List Rat) : (padd a b).length ≤ max a.length b.length := by
  unfold padd
  refine Nat.le_trans (trim_len _) ?_
  simp
theorem pneg_len (a : List Rat) : (pneg a).length = a.length := by simp [pneg]
theorem psub_len (a b : List Rat) : (psub a b).length ≤ max a.length b.length := by
  unfold psub
  have := padd_len a (pneg b)
  rwa [pneg_len] at this
theorem pscale_len (a : List Rat) (r : Rat) : (pscale a r).length ≤ a.length := by
  unfold pscale; split <;> simp
theorem praise_len (a : List Rat) (k : Nat) : (praise a k).length ≤ k + a.length := by
  unfold praise; split <;> simp

theorem ItX.rangeN (K : CtOk C) {x p fp e pos} (k : Nat) {c : Int} (hx : env.kindOf "range" = some .globalImplicit) (h : EvX C env ρ ω n e (.int c)) (hk : k ≤ 1000) (hc : c = k)
    (hs : ∀ env, starEach [e] env = (false, eval e env) :: starEach [] env := by intro; rfl) : ItX C env ρ ω n true (.Name x p) [x] (.Call (.Name "range" fp) [e] [] pos) ((List.range k).map fun (i : Nat) => [PyData.int (i : Int)]) := by
  subst hc
  have := ItX.range1 (x := x) (p := p) (fp := fp) (pos := pos) K hx h (by omega) (by omega) hs
  simpa using this
theorem ItX.rangeM (K : CtOk C) {x p fp e e' pos} (a k : Nat) {c c' : Int} (hx : env.kindOf "range" = some .globalImplicit) (h : EvX C env ρ ω n e (.int c)) (h' : EvX C env ρ ω n e' (.int c')) (ha : a ≤ 1000) (hk : k ≤ 1000) (hc : c = a) (hc' : c' = (a : Int) + k)
    (hs : ∀ env, starEach [e, e'] env = (false, eval e env) :: starEach [e'] env := by intro; rfl) (hs' : ∀ env, starEach [e'] env = (false, eval e' env) :: starEach [] env := by intro; rfl) :
    ItX C env ρ ω n true (.Name x p) [x] (.Call (.Name "range" fp) [e, e'] [] pos) ((List.range k).map fun (i : Nat) => [PyData.int ((a : Int) + (i : Int))]) := by
  subst hc hc'
  have := ItX.range2 (x := x) (p := p) (fp := fp) (pos := pos) K hx h h' (by omega) (by omega) (by omega) (by omega) hs hs'
  rwa [show ((a : Int) + k - a).toNat = k by omega] at this

theorem fn_qadd (K : CtOk C) (a b : List Rat) {m k : Nat} (ha : a.length ≤ 1000) (hb : b.length ≤ 1000) (sa : SzL m a) (sb : SzL k b) (h1 : 1 ≤ m) (h2 : 1 ≤ k) (hB : m + k ≤ BB) : FnX C "qadd" [ratsD a, ratsD b] (ratsD (padd a b)) 4 := by
  refine FnX.intro K 21 "qadd" rfl (hl := rfl) (hnd := by decide) (hk := by decide) (hbind := fun pm code doc vs h => by obtain ⟨a, b, rfl⟩ := len2 h; rfl) (hsc := ⟨rfl, rfl, rfl⟩) (hbody := ?_)
  intro pm code doc L ad
  refine StX.assign (d := .int (max (a.length : Int) b.length)) (.cast (.max2 K rfl (.len K rfl (f1 := true) (.of (.name rfl)) (by simpa using ha)) (.len K rfl (f1 := true) (.of (.name rfl)) (by simpa using hb))) (by simp)) (by walk_at "sto") rfl ?_
  have hl : ((List.range (max a.length b.length)).map fun i => a.getD i 0 + b.getD i 0).length ≤ 1000 := by simp; omega
  refine StX.ret (.call K (fn_qtrim K ((List.range (max a.length b.length)).map fun i => a.getD i 0 + b.getD i 0) hl) rfl (.cons (.ofF (.comp (ρc := [("a", ratsD a), ("b", ratsD b)]) (ωc := []) (cl := [("b", L + 2), ("a", L + 1)]) (.rangeN K (max a.length b.length) rfl (.name rfl) (by omega) (by omega)) (by walk_at "blk") ?_ ?_)) .nil) (by decide)) rfl
  · intro L'
    rw [List.map_map]
    refine CR.map _ _ _ fun i hi => ⟨.nil, ?_⟩
    refine .call K (fn_radd K (sa.get h1 i) (sb.get h2 i) hB) rfl (.cons ?_ (.cons ?_ .nil)) (by decide)
    · refine .ife (t := decide ((i : Int) < a.length)) (.cmp (.name rfl) (.len K rfl (f1 := true) (.of (.name rfl)) (by simpa using ha)) (.lt (by simp))) (fun h => ?_) fun h => ?_
      · have h' : i < a.length := by simpa using h
        exact .item (f1 := true) (.of (.name rfl)) (.name rfl) (by omega) (by omega) (getq (by omega))
      · rw [List.getD_eq_getElem?_getD, List.getElem?_eq_none (by simpa using h)]
        exact .glob K K.r0 rfl
    · refine .ife (t := decide ((i : Int) < b.length)) (.cmp (.name rfl) (.len K rfl (f1 := true) (.of (.name rfl)) (by simpa using hb)) (.lt (by simp))) (fun h => ?_) fun h => ?_
      · have h' : i < b.length := by simpa using h
        exact .item (f1 := true) (.of (.name rfl)) (.name rfl) (by omega) (by omega) (getq (by omega))
      · rw [List.getD_eq_getElem?_getD, List.getElem?_eq_none (by simpa using h)]
        exact .glob K K.r0 rfl
  · simp; omega

theorem fn_qsub (K : CtOk C) (a b : List Rat) {m k : Nat} (ha : a.length ≤ 1000) (hb : b.length ≤ 1000) (sa : SzL m a) (sb : SzL k b) (h1 : 1 ≤ m) (h2 : 1 ≤ k) (hB : m + k ≤ BB) : FnX C "qsub" [ratsD a, ratsD b] (ratsD (psub a b)) 5 := by
  refine FnX.intro K 23 "qsub" rfl (hl := rfl) (hnd := by decide) (hk := by decide) (hbind := fun pm code doc vs h => by obtain ⟨a, b, rfl⟩ := len2 h; rfl) (hsc := ⟨rfl, rfl, rfl⟩) (hbody := ?_)
  intro pm code doc L ad
  exact StX.ret (.call K (fn_qadd K a (pneg b) ha (by rw [pneg_len]; exact hb) sa sb.pneg h1 h2 hB) rfl (.cons (.name rfl) (.cons (.call K (fn_qneg K b hb) rfl (.cons (.name rfl) .nil) (by decide)) .nil)) (by decide)) rfl

theorem fn_qraise (K : CtOk C) (p : List Rat) (k : Nat) (hp : p.length + k ≤ 1000) : FnX C "qraise" [ratsD p, .int k] (ratsD (praise p k)) 1 := by
  refine FnX.intro K 25 "qraise" rfl (hl := rfl) (hnd := by decide) (hk := by decide) (hbind := fun pm code doc vs h => by obtain ⟨a, b, rfl⟩ := len2 h; rfl) (hsc := ⟨rfl, rfl, rfl⟩) (hbody := ?_)
  intro pm code doc L ad
  refine StX.ret (.ife (t := decide ((0 : Int) < p.length)) (.cmp (.len K rfl (f1 := true) (.of (.name rfl)) (by simp; omega)) .int (.gt (by simp))) (fun h => ?_) fun h => ?_) rfl
  · have h0 : p ≠ [] := fun q => by subst q; simp at h
    refine .cast (.ofF (.cat (f1 := true) (f2 := true) (.ofF (.rep (f1 := true) (.ofF (.list (.cons (.glob K K.r0 rfl) .nil))) (.name rfl) (by omega) (by omega))) (.ofF (.listOf K rfl (f1 := true) (.of (.name rfl)) (by simp; omega))) (by simp; omega))) ?_
    show _ = PyData.list _
    rw [praise, if_neg h0]
    simp
  · have h0 : p = [] := by simpa using h
    subst h0
    exact .ofF (.list .nil)
end Nn

-- part W6
namespace Nn
variable {C : Ct} {env : Env} {ρ : Ro} {ω : Om} {n : Nat}
open PySem (Expr)

local macro_rules | `(tactic| walk_at "cap") => `(tactic| first | exact trivial | exact ⟨⟨rfl, rfl, fun L => ⟨rfl, rfl, nofun⟩, by decide⟩, by walk_at "cap"⟩)
local macro_rules | `(tactic| walk_at "clo") => `(tactic| first | exact trivial | exact ⟨rfl, by walk_at "clo"⟩)
local macro_rules | `(tactic| walk_at "tgt") => `(tactic| first | exact trivial | exact ⟨⟨fun L => .inl rfl, rfl, rfl⟩, by walk_at "tgt"⟩ | exact ⟨⟨fun L => .inr ⟨rfl, rfl⟩, rfl, rfl⟩, by walk_at "tgt"⟩)
local macro_rules | `(tactic| walk_at "blk") => `(tactic| exact Blk.of rfl rfl (by decide) (by walk_at "clo") (by walk_at "cap") (by walk_at "cap") (by walk_at "tgt"))
local macro_rules | `(tactic| walk_at "sto") => `(tactic| first | exact .inl rfl | exact .inr ⟨rfl, rfl⟩)
local macro_rules | `(tactic| walk_at "stos") => `(tactic| first | exact List.forall_mem_nil _ | refine List.forall_mem_cons.mpr (And.intro (And.intro (by walk_at "sto") (by rfl)) (by walk_at "stos")))


def dm (b : List Rat) : Nat → List Rat → List Rat → List Rat × List Rat
  | 0, rest, found => (found, rest)
  | k + 1, rest, found => if rest.length < b.length then (found, rest) else
      dm b k (psub rest.dropLast (praise (pscale b.dropLast (lead rest / lead b)) (rest.length - b.length))) (found.set (rest.length - b.length) (lead rest / lead b))
def dmod (a b : List Rat) : List Rat × List Rat := dm b (a.length + 1) a (List.replicate (a.length + 1 - b.length) 0)
def rb (m k : Nat) : Nat → Nat
  | 0 => m
  | t + 1 => 2 * rb m k t + 2 * k + 1
theorem rb_mono (m k : Nat) {t u : Nat} (h : t ≤ u) : rb m k t ≤ rb m k u := by
  induction h with
  | refl => exact Nat.le_refl _
  | step _ ih => rw [rb]; omega
theorem slc_dropLast {α : Type} (xs : List α) : slc xs none (some (-1)) = xs.dropLast := by
  unfold slc
  have : clipAt xs.length (-1) = xs.length - 1 := by unfold clipAt; split <;> omega
  simp [this, List.dropLast_eq_take]
theorem SzL.dropLast {m : Nat} {p : List Rat} (h : SzL m p) : SzL m p.dropLast := h.sub fun x hx => (List.dropLast_sublist _).subset hx
theorem SzL.lead {m : Nat} {p : List Rat} (h : SzL m p) (h1 : 1 ≤ m) : Sz m (lead p) := h.get h1 _
theorem dstep_len {rest b : List Rat} (hb : b ≠ []) (h : b.length ≤ rest.length) (q : Rat) :
    (psub rest.dropLast (praise (pscale b.dropLast q) (rest.length - b.length))).length + 1 ≤ rest.length := by
  have h0 : 0 < b.length := List.length_pos_iff.mpr hb
  have h1 := psub_len rest.dropLast (praise (pscale b.dropLast q) (rest.length - b.length))
  have h2 := praise_len (pscale b.dropLast q) (rest.length - b.length)
  have h3 := pscale_len b.dropLast q
  rw [List.length_dropLast] at h1 h3
  omega
theorem map_set_rat (l : List Rat) (i : Nat) (q : Rat) : (l.map ratD).set i (ratD q) = (l.set i q).map ratD := by
  rw [List.map_set]

theorem fn_qdivmod (K : CtOk C) (a b : List Rat) {m k : Nat} (ha : a.length ≤ 900) (hb : b.length ≤ 900) (sa : SzL m a) (sb : SzL k b) (h1 : 1 ≤ m) (h2 : 1 ≤ k) (hB : rb m k (a.length + 1 - b.length) ≤ BB) (hne : b ≠ []) (hl : lead b ≠ 0) :
    FnX C "qdivmod" [ratsD a, ratsD b] (.tuple [ratsD (trim (dmod a b).1), ratsD (dmod a b).2]) 6 := by
  refine FnX.intro K 26 "qdivmod" rfl (hl := rfl) (hnd := by decide) (hk := by decide) (hbind := fun pm code doc vs h => by obtain ⟨a, b, rfl⟩ := len2 h; rfl) (hsc := ⟨rfl, rfl, rfl⟩) (hbody := ?_)
  intro pm code doc L ad
  have h0 : 0 < b.length := List.length_pos_iff.mpr hne
  refine StX.iteT (t := false) (.cmp (.len K rfl (f1 := true) (.of (.name rfl)) (by simp; omega)) .int (.eqi (by simp [hne]))) (fun h => by cases h) fun _ => .nil ?_
  refine StX.swapF (x := "rest") (y := "found") (ds := List.replicate (a.length + 1 - b.length) (ratD 0)) (.ofF (.listOf K rfl (f1 := true) (.of (.name rfl)) (by simp; omega)))
    (.cast (.rep (f1 := true) (.ofF (.list (.cons (.glob K K.r0 rfl) .nil))) (.max2 K rfl .int (.bin (.bin (.len K rfl (f1 := true) (.of (.name rfl)) (by simp; omega)) (.len K rfl (f1 := true) (.of (.name rfl)) (by simp; omega)) .sub) .int .add)) (by simp; omega) (by omega))
      (by simp only [List.length_map]; congr 1; omega)) (by walk_at "sto") rfl (by walk_at "sto") rfl (by decide) ?_
  refine StX.whileI (σ := Nat × List Rat × List Rat) (fun x => dm b (a.length + 1 - x.1) x.2.1 x.2.2 = dmod a b ∧ x.2.1.length + x.1 ≤ a.length ∧ SzL (rb m k x.1) x.2.1 ∧ x.2.2.length = a.length + 1 - b.length)
    (fun x => [("rest", ratsD x.2.1), ("b", ratsD b)]) (fun x => [("found", x.2.2.map ratD)]) (fun x => x.2.1.length) (fun x => decide ((x.2.1.length : Int) ≥ b.length)) (0, a, List.replicate (a.length + 1 - b.length) 0)
    ⟨rfl, by simp, sa, by simp⟩ ?_ ?_ ?_ ?_ ?_
  · exact .cons rfl (.cons rfl (.nil _))
  · exact .cons (by rw [List.map_replicate]; rfl) (.nil _)
  · rintro ⟨t, rest, found⟩ ⟨_, hr, _⟩
    dsimp only at hr ⊢
    exact .cmp (.len K rfl (f1 := true) (.of (.name rfl)) (by simp; omega)) (.len K rfl (f1 := true) (.of (.name rfl)) (by simp; omega)) (.ge (by simp))
  · rintro ⟨t, rest, found⟩ ⟨hd, hr, hs, hf⟩ ht
    dsimp only at hd hr hs hf ht ⊢
    have hle : b.length ≤ rest.length := by simpa using ht
    have hB' : 2 * rb m k t + 2 * k + 1 ≤ BB := Nat.le_trans (rb_mono m k (t := t + 1) (by omega)) hB
    have hrb : 1 ≤ rb m k t := Nat.le_trans h1 (rb_mono m k (t := 0) (by omega))
    have hq : Sz (rb m k t + k) (lead rest / lead b) := (hs.lead hrb).div (sb.lead h2)
    refine StX.swap (xs := ["number", "power"]) (.tuple (.cons (.call K (fn_rdiv K (hs.lead hrb) (sb.lead h2) (by omega) hl) rfl (.cons (.last (f1 := true) (.of (.name rfl)) (by omega) (by omega)) (.cons (.last (f1 := true) (.of (.name rfl)) (by omega) (by omega)) .nil)) (by decide))
      (.cons (.bin (.len K rfl (f1 := true) (.of (.name rfl)) (by simp; omega)) (.len K rfl (f1 := true) (.of (.name rfl)) (by simp; omega)) .sub) .nil))) rfl (by walk_at "stos") ?_
    refine StX.setItem (d := ratD (lead rest / lead b)) (j := (rest.length : Int) - b.length) rfl (.name rfl) (.cast (.name rfl) (by simp)) (by omega) (by simp; omega) (by simp; omega) ?_
    rw [show ((rest.length : Int) - b.length).toNat = rest.length - b.length by omega, map_set_rat]
    have e1 : slc (rest.map ratD) none (some (-1)) = rest.dropLast.map ratD := by rw [slc_dropLast, List.map_dropLast]
    have e2 : slc (b.map ratD) none (some (-1)) = b.dropLast.map ratD := by rw [slc_dropLast, List.map_dropLast]
    have l1 := pscale_len b.dropLast (lead rest / lead b)
    have l2 := praise_len (pscale b.dropLast (lead rest / lead b)) (rest.length - b.length)
    rw [List.length_dropLast] at l1
    refine StX.assign (d := ratsD (psub rest.dropLast (praise (pscale b.dropLast (lead rest / lead b)) (rest.length - b.length)))) (.call K (fn_qsub K rest.dropLast (praise (pscale b.dropLast (lead rest / lead b)) (rest.length - b.length)) (m := rb m k t) (k := k + (rb m k t + k)) (by simp; omega) (by omega) hs.dropLast ((sb.dropLast.pscale hq).praise (by omega)) hrb (by omega) (by omega)) rfl
      (.cons (.cast (.ofF (.slice (f1 := true) (lo := none) (hi := some _) (a := none) (c := some (-1)) (.of (.name rfl)) trivial (by exact EvX.neg .int) (by simp; omega))) (by rw [e1]))
      (.cons (.call K (fn_qraise K (pscale b.dropLast (lead rest / lead b)) (rest.length - b.length) (by omega)) rfl (.cons (.call K (fn_qscale K b.dropLast (lead rest / lead b) (m := k) (k := rb m k t + k) (by simp; omega) sb.dropLast hq (by omega)) rfl
        (.cons (.cast (.ofF (.slice (f1 := true) (lo := none) (hi := some _) (a := none) (c := some (-1)) (.of (.name rfl)) trivial (by exact EvX.neg .int) (by simp; omega))) (by rw [e2])) (.cons (.name rfl) .nil)) (by decide))
        (.cons (.cast (.name rfl) (by simp; omega)) .nil)) (by decide)) .nil)) (by decide)) (by walk_at "sto") rfl ?_
    refine StX.assign (.name rfl) (by walk_at "sto") rfl (StX.nil ⟨(t + 1, psub rest.dropLast (praise (pscale b.dropLast (lead rest / lead b)) (rest.length - b.length)), found.set (rest.length - b.length) (lead rest / lead b)), ⟨?_, ?_, ?_, ?_⟩, ?_, ?_, ?_⟩)
    · dsimp only
      rw [← hd, show a.length + 1 - t = (a.length + 1 - (t + 1)) + 1 by omega, dm, if_neg (by omega)]
    · have := dstep_len hne hle (lead rest / lead b)
      dsimp only
      omega
    · refine (hs.dropLast.padd ((sb.dropLast.pscale hq).praise (k := rest.length - b.length) (by omega)).pneg hrb (by omega)).mono ?_
      dsimp only [rb]
      omega
    · dsimp only; rw [List.length_set]; exact hf
    · exact dstep_len hne hle (lead rest / lead b)
    · exact .cons rfl (.cons rfl (.nil _))
    · exact .cons rfl (.nil _)
  · rintro ⟨t, rest, found⟩ ⟨hd, hr, hs, hf⟩ ht
    dsimp only at hd hr hs hf ht ⊢
    have hlt : rest.length < b.length := by simpa using ht
    rw [show a.length + 1 - t = (a.length - t) + 1 by omega, dm, if_pos hlt] at hd
    rw [← hd]
    refine StX.freeze (x := "found") rfl ?_
    exact StX.ret (.tuple (.cons (.call K (fn_qtrim K found (by omega)) rfl (.cons (.name rfl) .nil) (by decide)) (.cons (.name rfl) .nil))) rfl
end Nn

-- part W7
namespace Nn
variable {C : Ct} {env : Env} {ρ : Ro} {ω : Om} {n : Nat}
open PySem (Expr)

local macro_rules | `(tactic| walk_at "cap") => `(tactic| first | exact trivial | exact ⟨⟨rfl, rfl, fun L => ⟨rfl, rfl, nofun⟩, by decide⟩, by walk_at "cap"⟩)
local macro_rules | `(tactic| walk_at "clo") => `(tactic| first | exact trivial | exact ⟨rfl, by walk_at "clo"⟩)
local macro_rules | `(tactic| walk_at "tgt") => `(tactic| first | exact trivial | exact ⟨⟨fun L => .inl rfl, rfl, rfl⟩, by walk_at "tgt"⟩ | exact ⟨⟨fun L => .inr ⟨rfl, rfl⟩, rfl, rfl⟩, by walk_at "tgt"⟩)
local macro_rules | `(tactic| walk_at "blk") => `(tactic| exact Blk.of rfl rfl (by decide) (by walk_at "clo") (by walk_at "cap") (by walk_at "cap") (by walk_at "tgt"))
local macro_rules | `(tactic| walk_at "sto") => `(tactic| first | exact .inl rfl | exact .inr ⟨rfl, rfl⟩)
local macro_rules | `(tactic| walk_at "stos") => `(tactic| first | exact List.forall_mem_nil _ | refine List.forall_mem_cons.mpr (And.intro (And.intro (by walk_at "sto") (by rfl)) (by walk_at "stos")))


def Tr (p : List Rat) : Prop := p ≠ [] → lead p ≠ 0
theorem lead_append (p : List Rat) (q : Rat) : lead (p ++ [q]) = q := by unfold lead; simp [List.getD]
theorem tsz_lead (p : List Rat) : ∀ n, tsz p n = 0 ∨ p.getD (tsz p n - 1) 0 ≠ 0
  | 0 => .inl rfl
  | n + 1 => by
    unfold tsz
    split
    · exact tsz_lead p n
    · rename_i h; exact .inr (by simpa using h)
theorem tsz_zero (p : List Rat) : ∀ n i, tsz p n ≤ i → i < n → p.getD i 0 = 0
  | 0, i, _, h => by omega
  | n + 1, i, h, k => by
    unfold tsz at h
    split at h
    · rename_i q
      rcases Nat.lt_or_ge i n with j | j
      · exact tsz_zero p n i h j
      · rw [show i = n by omega]; exact q
    · omega
theorem trim_getD (p : List Rat) (i : Nat) : (trim p).getD i 0 = p.getD i 0 := by
  unfold trim
  rw [List.getD_eq_getElem?_getD, List.getElem?_take]
  split
  · rw [List.getD_eq_getElem?_getD]
  · rename_i h
    rcases Nat.lt_or_ge i p.length with j | j
    · rw [tsz_zero p _ i (by omega) j]; rfl
    · rw [List.getD_eq_getElem?_getD, List.getElem?_eq_none j]
theorem trim_Tr (p : List Rat) : Tr (trim p) := fun h => by
  have h1 := tsz_le p p.length
  have hl : (trim p).length = tsz p p.length := by unfold trim; simp; omega
  have h0 : 0 < (trim p).length := List.length_pos_iff.mpr h
  unfold lead
  rw [trim_getD, hl]
  rcases tsz_lead p p.length with q | q
  · omega
  · exact q
theorem lead_scale {p : List Rat} {r : Rat} (h : p ≠ []) : lead (p.map fun q => q * r) = lead p * r := by
  have h0 : 0 < p.length := List.length_pos_iff.mpr h
  unfold lead
  rw [List.length_map, List.getD_eq_getElem?_getD, List.getElem?_map, List.getD_eq_getElem?_getD, List.getElem?_eq_getElem (by omega)]
  rfl
theorem pscale_Tr {p : List Rat} {r : Rat} (h : Tr p) : Tr (pscale p r) := fun k => by
  unfold pscale at k ⊢
  split at k
  · simp at k
  · rename_i h0
    rw [if_neg h0]
    have hp : p ≠ [] := fun q => by subst q; simp at k
    rw [lead_scale hp]
    intro q
    rcases Rat.mul_eq_zero.mp q with q | q
    · exact h hp q
    · exact h0 q
def monic (p : List Rat) : List Rat := if p = [] then [] else pscale p (lead p)⁻¹
theorem monic_Tr {p : List Rat} (h : Tr p) : Tr (monic p) := by
  unfold monic; split
  · exact fun k => absurd rfl k
  · exact pscale_Tr h
theorem monic_len (p : List Rat) : (monic p).length ≤ p.length := by
  unfold monic; split
  · simp
  · exact pscale_len _ _
theorem SzL.monic {m : Nat} {p : List Rat} (h : SzL m p) (h1 : 1 ≤ m) : SzL (2 * m) (monic p) := by
  unfold Nn.monic; split
  · intro q hq; simp at hq
  · exact (h.pscale ((h.lead h1).inv h1)).mono (by omega)

theorem dm_inv {b : List Rat} (hb : b ≠ []) : ∀ (f : Nat) (rest found : List Rat), rest.length < f → (dm b f rest found).2.length < b.length ∧ (Tr rest → Tr (dm b f rest found).2)
  | 0, _, _, h => by omega
  | f + 1, rest, found, h => by
    rw [dm]
    split
    · rename_i q; exact ⟨q, id⟩
    · rename_i q
      have := dstep_len (rest := rest) hb (by omega) (lead rest / lead b)
      obtain ⟨h1, h2⟩ := dm_inv hb f (psub rest.dropLast (praise (pscale b.dropLast (lead rest / lead b)) (rest.length - b.length))) (found.set (rest.length - b.length) (lead rest / lead b)) (by omega)
      exact ⟨h1, fun _ => h2 (trim_Tr _)⟩
theorem dm_sz {b : List Rat} (hb : b ≠ []) {m k A : Nat} (sb : SzL k b) (h1 : 1 ≤ m) (h2 : 1 ≤ k) : ∀ (f t : Nat) (rest found : List Rat), rest.length < f → SzL (rb m k t) rest → SzL (rb m k (A + 1 - b.length) + k) found → rest.length + t ≤ A →
    (t ≤ A + 1 - b.length) → SzL (rb m k (A + 1 - b.length)) (dm b f rest found).2 ∧ SzL (rb m k (A + 1 - b.length) + k) (dm b f rest found).1
  | 0, _, _, _, h, _, _, _, _ => by omega
  | f + 1, t, rest, found, h, hr, hf, hl, ht => by
    rw [dm]
    split
    · exact ⟨hr.mono (rb_mono m k ht), hf⟩
    · rename_i q
      have hrb : 1 ≤ rb m k t := Nat.le_trans h1 (rb_mono m k (t := 0) (by omega))
      have hq : Sz (rb m k t + k) (lead rest / lead b) := (hr.lead hrb).div (sb.lead h2)
      have := dstep_len (rest := rest) hb (by omega) (lead rest / lead b)
      refine dm_sz hb sb h1 h2 f (t + 1) _ _ (by omega) ?_ ?_ (by omega) (by omega)
      · refine (hr.dropLast.padd ((sb.dropLast.pscale hq).praise (k := rest.length - b.length) (by omega)).pneg hrb (by omega)).mono ?_
        rw [rb]; omega
      · intro x hx
        rcases List.mem_or_eq_of_mem_set hx with hx | hx
        · exact hf x hx
        · subst hx
          exact hq.mono (by have := rb_mono m k ht; omega)
theorem dmod_len {a b : List Rat} (hb : b ≠ []) : (dmod a b).2.length < b.length := (dm_inv hb _ _ _ (Nat.lt_succ_self _)).1
theorem dmod_Tr {a b : List Rat} (hb : b ≠ []) (h : Tr a) : Tr (dmod a b).2 := (dm_inv hb _ _ _ (Nat.lt_succ_self _)).2 h
theorem dmod_sz {a b : List Rat} (hb : b ≠ []) {m k : Nat} (sa : SzL m a) (sb : SzL k b) (h1 : 1 ≤ m) (h2 : 1 ≤ k) : SzL (rb m k (a.length + 1 - b.length)) (dmod a b).2 ∧ SzL (rb m k (a.length + 1 - b.length) + k) (dmod a b).1 :=
  dm_sz hb sb h1 h2 _ 0 _ _ (Nat.lt_succ_self _) sa (fun q hq => by rw [List.eq_of_mem_replicate hq]; exact Sz.zero.mono (by omega)) (by omega) (by omega)

theorem fn_qmonic (K : CtOk C) (p : List Rat) {m : Nat} (hp : p.length ≤ 900) (hm : SzL m p) (h1 : 1 ≤ m) (hB : 2 * m ≤ BB) (ht : Tr p) : FnX C "qmonic" [ratsD p] (ratsD (monic p)) 5 := by
  refine FnX.intro K 27 "qmonic" rfl (hl := rfl) (hnd := by decide) (hk := by decide) (hbind := fun pm code doc vs h => by obtain ⟨a, rfl⟩ := len1 h; rfl) (hsc := ⟨rfl, rfl, rfl⟩) (hbody := ?_)
  intro pm code doc L ad
  refine StX.ret (.ife (t := decide ((0 : Int) < p.length)) (.cmp (.len K rfl (f1 := true) (.of (.name rfl)) (by simp; omega)) .int (.gt (by simp))) (fun h => ?_) fun h => ?_) rfl
  · have h0 : p ≠ [] := fun q => by subst q; simp at h
    have hl : 0 < p.length := List.length_pos_iff.mpr h0
    rw [show monic p = pscale p (lead p)⁻¹ from if_neg h0]
    exact .call K (fn_qscale K p (lead p)⁻¹ (by omega) hm ((hm.lead h1).inv h1) (by omega)) rfl (.cons (.name rfl) (.cons (.call K (fn_rinv K (lead p) (ht h0)) rfl (.cons (.last (f1 := true) (.of (.name rfl)) (by omega) hl) .nil) (by decide)) .nil)) (by decide)
  · have h0 : p = [] := by simpa using h
    subst h0
    exact .ofF (.list .nil)

def pg : Nat → List Rat → List Rat → List Rat
  | 0, a, _ => monic a
  | k + 1, a, b => if b = [] then monic a else pg k b (monic (dmod a b).2)
def pgcd (a b : List Rat) : List Rat := pg (b.length + 1) a b
def Gb : Nat → Nat
  | 0 => 1281254
  | 1 => 21350
  | 2 => 758
  | 3 => 58
  | _ => 7
structure GI (a b : List Rat) : Prop where
  ta : Tr a
  tb : Tr b
  la : a.length ≤ 4
  lb : b.length ≤ 4
  sz : (SzL 7 a ∧ SzL 7 b) ∨ (b.length < a.length ∧ SzL (Gb a.length) a ∧ SzL (Gb b.length) b)
theorem Gb_pos : ∀ l, 7 ≤ Gb l
  | 0 => by decide
  | 1 => by decide
  | 2 => by decide
  | 3 => by decide
  | _ + 4 => by unfold Gb; exact Nat.le_refl _
theorem g1 : ∀ la ≤ 4, ∀ lb ≤ 4, ∀ l < lb, 2 * rb 7 7 (la + 1 - lb) ≤ Gb l := by decide
theorem g2 : ∀ la ≤ 4, ∀ lb < la, ∀ l < lb, 2 * rb (Gb la) (Gb lb) (la + 1 - lb) ≤ Gb l := by decide
theorem rb_pos {m k : Nat} (h : 1 ≤ m) (t : Nat) : 1 ≤ rb m k t := Nat.le_trans h (rb_mono m k (t := 0) (Nat.zero_le _))
theorem GI.step {a b : List Rat} (h : GI a b) (hb : b ≠ []) : ∃ m k, SzL m a ∧ SzL k b ∧ 1 ≤ m ∧ 1 ≤ k ∧ 2 * rb m k (a.length + 1 - b.length) ≤ 1281254 ∧ GI b (monic (dmod a b).2) := by
  have hl := dmod_len (a := a) hb
  have hm := monic_len (dmod a b).2
  have hlb := h.lb
  have hla := h.la
  have hG : ∀ l, Gb l ≤ 1281254 := fun l => by
    match l with
    | 0 => decide
    | 1 => decide
    | 2 => decide
    | 3 => decide
    | l + 4 => exact (by decide : 7 ≤ 1281254)
  rcases h.sz with ⟨s1, s2⟩ | ⟨s0, s1, s2⟩
  · refine ⟨7, 7, s1, s2, by omega, by omega, Nat.le_trans (g1 _ h.la _ h.lb _ (by omega : (dmod a b).2.length < b.length)) (hG _), h.tb, monic_Tr (dmod_Tr hb h.ta), h.lb, by omega, .inr ⟨by omega, s2.mono (Gb_pos _), ?_⟩⟩
    exact ((dmod_sz hb s1 s2 (by omega) (by omega)).1.monic (rb_pos (by omega) _)).mono (g1 _ h.la _ h.lb _ (by omega))
  · have p1 := Gb_pos a.length
    have p2 := Gb_pos b.length
    refine ⟨_, _, s1, s2, by omega, by omega, Nat.le_trans (g2 _ h.la _ s0 _ (by omega : (dmod a b).2.length < b.length)) (hG _), h.tb, monic_Tr (dmod_Tr hb h.ta), h.lb, by omega, .inr ⟨by omega, s2, ?_⟩⟩
    exact ((dmod_sz hb s1 s2 (by omega) (by omega)).1.monic (rb_pos (by omega) _)).mono (g2 _ h.la _ s0 _ (by omega))

theorem GI.szA {a b : List Rat} (h : GI a b) : SzL (Gb a.length) a := by
  rcases h.sz with ⟨s1, _⟩ | ⟨_, s1, _⟩
  · exact s1.mono (Gb_pos _)
  · exact s1
theorem Gb_le (l : Nat) : Gb l ≤ 1281254 := by
  match l with
  | 0 => decide
  | 1 => decide
  | 2 => decide
  | 3 => decide
  | l + 4 => exact (by decide : 7 ≤ 1281254)

theorem fn_qgcd (K : CtOk C) (a b : List Rat) (hG : GI a b) : FnX C "qgcd" [ratsD a, ratsD b] (ratsD (pgcd a b)) 7 := by
  refine FnX.intro K 28 "qgcd" rfl (hl := rfl) (hnd := by decide) (hk := by decide) (hbind := fun pm code doc vs h => by obtain ⟨a, b, rfl⟩ := len2 h; rfl) (hsc := ⟨rfl, rfl, rfl⟩) (hbody := ?_)
  intro pm code doc L ad
  refine StX.whileI (σ := Nat × List Rat × List Rat) (fun x => pg x.1 x.2.1 x.2.2 = pgcd a b ∧ x.2.2.length < x.1 ∧ GI x.2.1 x.2.2) (fun x => [("a", ratsD x.2.1), ("b", ratsD x.2.2)]) (fun x => []) (fun x => x.1) (fun x => decide ((0 : Int) < x.2.2.length)) (b.length + 1, a, b)
    ⟨rfl, by simp, hG⟩ ?_ (.nil _) ?_ ?_ ?_
  · exact .cons rfl (.cons rfl (.nil _))
  · rintro ⟨k, x, y⟩ ⟨_, _, h⟩
    dsimp only at h ⊢
    exact .cmp (.len K rfl (f1 := true) (.of (.name rfl)) (by have := h.lb; simp; omega)) .int (.gt (by simp))
  · rintro ⟨k, x, y⟩ ⟨h1, h2, h⟩ ht
    dsimp only at h1 h2 h ht ⊢
    have h0 : y ≠ [] := fun q => by subst q; simp at ht
    obtain ⟨m, k', s1, s2, m1, k1, hB, hn⟩ := h.step h0
    have := h.la
    have := h.lb
    have hl := dmod_len (a := x) h0
    have hml := monic_len (dmod x y).2
    refine StX.swap (xs := ["a", "b"]) (.tuple (.cons (.name rfl) (.cons (.call K (fn_qmonic K (dmod x y).2 (by omega) (dmod_sz h0 s1 s2 m1 k1).1 (rb_pos m1 _) (by unfold BB; omega) (dmod_Tr h0 h.ta)) rfl (.cons
      (.itemT (k := 1) (.call K (fn_qdivmod K x y (by omega) (by omega) s1 s2 m1 k1 (by unfold BB; omega) h0 (h.tb h0)) rfl (.cons (.name rfl) (.cons (.name rfl) .nil)) (by decide)) .int (by decide) (by decide) rfl) .nil) (by decide)) .nil))) rfl (by walk_at "stos") ?_
    refine StX.nil ⟨(k - 1, y, monic (dmod x y).2), ⟨?_, by dsimp only; omega, hn⟩, by dsimp only; omega, .cons rfl (.cons rfl (.nil _)), .nil _⟩
    dsimp only
    obtain ⟨j, rfl⟩ : ∃ j, k = j + 1 := ⟨k - 1, by omega⟩
    rw [pg, if_neg h0] at h1
    exact h1
  · rintro ⟨k, x, y⟩ ⟨h1, h2, h⟩ ht
    dsimp only at h1 h2 h ht ⊢
    have h0 : y = [] := by simpa using ht
    subst h0
    have e : pgcd a b = monic x := by
      rw [← h1]
      cases k with
      | zero => rfl
      | succ k => rw [pg, if_pos rfl]
    rw [e]
    have := h.la
    have := Gb_le x.length
    exact StX.ret (.call K (fn_qmonic K x (by omega) h.szA (by have := Gb_pos x.length; omega) (by unfold BB; omega) h.ta) rfl (.cons (.name rfl) .nil) (by decide)) rfl
end Nn

-- part W8
namespace Nn
variable {C : Ct} {env : Env} {ρ : Ro} {ω : Om} {n : Nat}
open PySem (Expr)

local macro_rules | `(tactic| walk_at "cap") => `(tactic| first | exact trivial | exact ⟨⟨rfl, rfl, fun L => ⟨rfl, rfl, nofun⟩, by decide⟩, by walk_at "cap"⟩)
local macro_rules | `(tactic| walk_at "clo") => `(tactic| first | exact trivial | exact ⟨rfl, by walk_at "clo"⟩)
local macro_rules | `(tactic| walk_at "tgt") => `(tactic| first | exact trivial | exact ⟨⟨fun L => .inl rfl, rfl, rfl⟩, by walk_at "tgt"⟩ | exact ⟨⟨fun L => .inr ⟨rfl, rfl⟩, rfl, rfl⟩, by walk_at "tgt"⟩)
local macro_rules | `(tactic| walk_at "blk") => `(tactic| exact Blk.of rfl rfl (by decide) (by walk_at "clo") (by walk_at "cap") (by walk_at "cap") (by walk_at "tgt"))
local macro_rules | `(tactic| walk_at "sto") => `(tactic| first | exact .inl rfl | exact .inr ⟨rfl, rfl⟩)
local macro_rules | `(tactic| walk_at "stos") => `(tactic| first | exact List.forall_mem_nil _ | refine List.forall_mem_cons.mpr (And.intro (And.intro (by walk_at "sto") (by rfl)) (by walk_at "stos")))


theorem pg_inv : ∀ (k : Nat) (a b : List Rat), GI a b → b.length < k → Tr (pg k a b) ∧ (2 ≤ (pg k a b).length → SzL 1516 (pg k a b)) ∧ (pg k a b).length ≤ 4
  | 0, _, _, _, h => by omega
  | k + 1, a, b, g, h => by
    rw [pg]
    split
    · have hl := monic_len a
      refine ⟨monic_Tr g.ta, fun h2 => ?_, by have := g.la; omega⟩
      refine (g.szA.monic (by have := Gb_pos a.length; omega)).mono ?_
      have : Gb a.length ≤ 758 := by
        obtain ⟨j, hj⟩ : ∃ j, a.length = j + 2 := ⟨a.length - 2, by omega⟩
        rw [hj]
        match j with
        | 0 => decide
        | 1 => decide
        | j + 2 => exact (by decide : 7 ≤ 758)
      omega
    · rename_i h0
      obtain ⟨_, _, _, _, _, _, _, hn⟩ := g.step h0
      have hl := dmod_len (a := a) h0
      have hml := monic_len (dmod a b).2
      exact pg_inv k _ _ hn (by omega)
theorem trim_ne {p : List Rat} {i : Nat} (h : p.getD i 0 ≠ 0) : trim p ≠ [] := fun q => by
  rw [← trim_getD, q] at h
  exact h rfl

def fred (top bottom : List Rat) : List Rat × List Rat :=
  if 1 < (pgcd top bottom).length then (trim (dmod top (pgcd top bottom)).1, trim (dmod bottom (pgcd top bottom)).1) else (top, bottom)
def fmk (top bottom : List Rat) : List Rat × List Rat :=
  if top = [] then ([], [1]) else (pscale (fred top bottom).1 (lead (fred top bottom).2)⁻¹, pscale (fred top bottom).2 (lead (fred top bottom).2)⁻¹)

theorem shaped_int (i : Int) : SeqAt.shaped (.int i) = true := by simp [SeqAt.shaped, PyData.canLay0, PyData.depth]
theorem shaped_bool (i : Bool) : SeqAt.shaped (.bool i) = true := by simp [SeqAt.shaped, PyData.canLay0, PyData.depth]
theorem shaped_ratD (q : Rat) : SeqAt.shaped (ratD q) = true := by simp [ratD, SeqAt.shaped, PyData.canLay0, PyData.canLayAll0, PyData.depth, PyData.depthAll]
theorem shaped_all : ∀ (ds : List PyData), (∀ d ∈ ds, d.canLay0 = true ∧ d.depth ≤ 60) → PyData.canLayAll0 ds = true ∧ PyData.depthAll ds ≤ 60
  | [], _ => by simp [PyData.canLayAll0, PyData.depthAll]
  | d :: ds, h => by
    obtain ⟨h1, h2⟩ := shaped_all ds fun x hx => h x (.tail _ hx)
    obtain ⟨h3, h4⟩ := h d (.head _)
    simp only [PyData.canLayAll0, PyData.depthAll, h1, h3]
    exact ⟨rfl, by omega⟩
theorem shaped_ratsD (p : List Rat) : SeqAt.shaped (ratsD p) = true := by
  obtain ⟨h1, h2⟩ := shaped_all (p.map ratD) fun d hd => by
    obtain ⟨q, _, rfl⟩ := List.mem_map.mp hd
    simp [ratD, PyData.canLay0, PyData.canLayAll0, PyData.depth, PyData.depthAll]
  simp only [SeqAt.shaped, PyData.canLay0, PyData.depth, h1, Bool.true_and]
  exact decide_eq_true (by omega)
theorem shaped_ints (p : List Int) : SeqAt.shaped (.list (p.map .int)) = true := by
  obtain ⟨h1, h2⟩ := shaped_all (p.map .int) fun d hd => by
    obtain ⟨q, _, rfl⟩ := List.mem_map.mp hd
    simp [PyData.canLay0, PyData.depth]
  simp only [SeqAt.shaped, PyData.canLay0, PyData.depth, h1, Bool.true_and]
  exact decide_eq_true (by omega)
theorem shaped_nil : SeqAt.shaped (.list []) = true := shaped_ints []
theorem eqv_ratD (p q : Rat) : (ratD p).eqv (ratD q) = decide (p = q) := by
  have : p = q ↔ p.num = q.num ∧ p.den = q.den := ⟨fun h => by subst h; exact ⟨rfl, rfl⟩, fun h => Rat.ext h.1 h.2⟩
  rw [Bool.eq_iff_iff]
  simp only [ratD, PyData.eqv, PyData.eqvAll, this, Bool.and_true, Bool.and_eq_true, beq_iff_eq, decide_eq_true_eq]
  omega
theorem eqvAll_map {α : Type} [DecidableEq α] (f : α → PyData) (hf : ∀ x y, (f x).eqv (f y) = decide (x = y)) : ∀ xs ys : List α, PyData.eqvAll (xs.map f) (ys.map f) = decide (xs = ys)
  | [], [] => by simp [PyData.eqvAll]
  | [], _ :: _ => by simp [PyData.eqvAll]
  | _ :: _, [] => by simp [PyData.eqvAll]
  | x :: xs, y :: ys => by
    rw [Bool.eq_iff_iff]
    simp [PyData.eqvAll, hf, eqvAll_map f hf xs ys]
theorem eqv_ratsD (p q : List Rat) : (ratsD p).eqv (ratsD q) = decide (p = q) := by
  show PyData.eqvAll _ _ = _
  exact eqvAll_map ratD eqv_ratD p q
theorem eqv_ints (p q : List Int) : PyData.eqv (.list (p.map .int)) (.list (q.map .int)) = decide (p = q) := by
  show PyData.eqvAll _ _ = _
  exact eqvAll_map .int (fun x y => by rw [Bool.eq_iff_iff]; simp [PyData.eqv]) p q
theorem CmpX.eqr {p q : Rat} {t : Bool} (ht : t = decide (p = q)) : CmpX C .Eq n (ratD p) (ratD q) t := .eqd (shaped_ratD p) (shaped_ratD q) (by rw [eqv_ratD, ht])
theorem CmpX.ner {p q : Rat} {t : Bool} (ht : t = decide (p ≠ q)) : CmpX C .NotEq n (ratD p) (ratD q) t := .ned (shaped_ratD p) (shaped_ratD q) (by rw [eqv_ratD, ht]; simp)
theorem CmpX.eqrs {p q : List Rat} {t : Bool} (ht : t = decide (p = q)) : CmpX C .Eq n (ratsD p) (ratsD q) t := .eqd (shaped_ratsD p) (shaped_ratsD q) (by rw [eqv_ratsD, ht])

theorem fn_fmake (K : CtOk C) (top bottom : List Rat) (hG : GI top bottom) (s1 : SzL 7 top) (s2 : SzL 7 bottom) (hb : bottom ≠ []) (hne : (fred top bottom).2 ≠ []) :
    FnX C "fmake" [ratsD top, ratsD bottom] (.tuple [ratsD (fmk top bottom).1, ratsD (fmk top bottom).2]) 8 := by
  refine FnX.intro K 31 "fmake" rfl (hl := rfl) (hnd := by decide) (hk := by decide) (hbind := fun pm code doc vs h => by obtain ⟨a, b, rfl⟩ := len2 h; rfl) (hsc := ⟨rfl, rfl, rfl⟩) (hbody := ?_)
  intro pm code doc L ad
  refine StX.iteT (t := false) (.cmp (.name rfl) (d2 := ratsD []) (.ofF (.list .nil)) (.eqrs (by simp [hb]))) (fun h => by cases h) fun _ => .nil ?_
  refine StX.iteT (t := decide (top = [])) (.cmp (.name rfl) (d2 := ratsD []) (.ofF (.list .nil)) (.eqrs rfl)) (fun h => ?_) fun h => .nil ?_
  · have h0 : top = [] := by simpa using h
    refine StX.ret (.glob K K.f0 rfl) ?_
    rw [fmk, if_pos h0]; rfl
  have h0 : top ≠ [] := by simpa using h
  have lt := hG.la
  have lb := hG.lb
  obtain ⟨p1, p2, p3⟩ := pg_inv (bottom.length + 1) top bottom hG (Nat.lt_succ_self _)
  change Tr (pgcd top bottom) at p1
  change 2 ≤ (pgcd top bottom).length → SzL 1516 (pgcd top bottom) at p2
  change (pgcd top bottom).length ≤ 4 at p3
  refine StX.assign (.call K (fn_qgcd K top bottom hG) rfl (.cons (.name rfl) (.cons (.name rfl) .nil)) (by decide)) (by walk_at "sto") rfl ?_
  -- the end
  have fin : ∀ (t b : List Rat) (ρ : Ro), fred top bottom = (t, b) → ρ.lookup ("top" : Str) = some (ratsD t) → ρ.lookup ("bottom" : Str) = some (ratsD b) → t.length ≤ 900 → b.length ≤ 900 → SzL 22803 t → SzL 22803 b → Tr b → StX C (fenv 31 pm code doc L ad) ρ [] 7 ((fdAt 31).body.drop 4) (fun res => res = .ret (.tuple [ratsD (fmk top bottom).1, ratsD (fmk top bottom).2])) := by
    intro t b ρ e r1 r2 l1 l2 z1 z2 hT
    have hbn : b ≠ [] := by rw [e] at hne; exact hne
    refine StX.assign (.call K (fn_rinv K (lead b) (hT hbn)) rfl (.cons (.call K (fn_qlead K b (by omega)) rfl (.cons (.name r2) .nil) (by decide)) .nil) (by decide)) (by walk_at "sto") rfl ?_
    have hi : Sz 22803 (lead b)⁻¹ := (z2.lead (by decide)).inv (by decide)
    refine StX.ret (.tuple (.cons (.call K (fn_qscale K t (lead b)⁻¹ (by omega) z1 hi (by decide)) rfl (.cons (.name (by rw [lookup_cons, if_neg (by decide)]; exact r1)) (.cons (.name rfl) .nil)) (by decide))
      (.cons (.call K (fn_qscale K b (lead b)⁻¹ (by omega) z2 hi (by decide)) rfl (.cons (.name (by rw [lookup_cons, if_neg (by decide)]; exact r2)) (.cons (.name rfl) .nil)) (by decide)) .nil))) ?_
    rw [fmk, if_neg h0, e]; rfl
  refine StX.iteT (t := decide (1 < (pgcd top bottom).length)) (.cmp (.call K (fn_qdegree K (pgcd top bottom) (by omega)) rfl (.cons (.name rfl) .nil) (by decide)) .int (.gt (by rw [Bool.eq_iff_iff]; simp; omega))) (fun h => ?_) fun h => .nil ?_
  · have h2 : 1 < (pgcd top bottom).length := by simpa using h
    have hc : pgcd top bottom ≠ [] := fun q => by rw [q] at h2; simp at h2
    have d1 := dmod_sz hc s1 (p2 h2) (by decide) (by decide)
    have d2 := dmod_sz hc s2 (p2 h2) (by decide) (by decide)
    have m1 : rb 7 1516 (top.length + 1 - (pgcd top bottom).length) ≤ 21287 := Nat.le_trans (rb_mono _ _ (u := 3) (by omega)) (by decide)
    have m2 : rb 7 1516 (bottom.length + 1 - (pgcd top bottom).length) ≤ 21287 := Nat.le_trans (rb_mono _ _ (u := 3) (by omega)) (by decide)
    have len1 : ∀ (f : Nat) (b rest found : List Rat), (dm b f rest found).1.length = found.length := fun f => by
      induction f with
      | zero => intro b rest found; rfl
      | succ f ih =>
        intro b rest found
        rw [dm]
        split
        · rfl
        · rw [ih, List.length_set]
    have k1 : (dmod top (pgcd top bottom)).1.length ≤ 900 := by unfold dmod; rw [len1, List.length_replicate]; omega
    have k2 : (dmod bottom (pgcd top bottom)).1.length ≤ 900 := by unfold dmod; rw [len1, List.length_replicate]; omega
    refine StX.swap (xs := ["top", "bottom"]) (.tuple (.cons (.itemT (k := 0) (.call K (fn_qdivmod K top (pgcd top bottom) (by omega) (by omega) s1 (p2 h2) (by decide) (by decide) (by unfold BB; omega) hc (p1 hc)) rfl (.cons (.name rfl) (.cons (.name rfl) .nil)) (by decide)) .int (by decide) (by decide) rfl)
      (.cons (.itemT (k := 0) (.call K (fn_qdivmod K bottom (pgcd top bottom) (by omega) (by omega) s2 (p2 h2) (by decide) (by decide) (by unfold BB; omega) hc (p1 hc)) rfl (.cons (.name rfl) (.cons (.name rfl) .nil)) (by decide)) .int (by decide) (by decide) rfl) .nil))) rfl (by walk_at "stos") (.nil ?_)
    refine fin (trim (dmod top (pgcd top bottom)).1) (trim (dmod bottom (pgcd top bottom)).1) _ (by rw [fred, if_pos h2]) rfl rfl (by have := trim_len (dmod top (pgcd top bottom)).1; omega) (by have := trim_len (dmod bottom (pgcd top bottom)).1; omega) ?_ ?_ (trim_Tr _)
    · exact d1.2.trim.mono (by omega)
    · exact d2.2.trim.mono (by omega)
  · have h2 : ¬ 1 < (pgcd top bottom).length := by simpa using h
    exact fin top bottom _ (by rw [fred, if_neg h2]) rfl rfl (by omega) (by omega) (s1.mono (by decide)) (s2.mono (by decide)) hG.tb
end Nn

-- part W9
namespace Nn
variable {C : Ct} {env : Env} {ρ : Ro} {ω : Om} {n : Nat}
open PySem (Expr)

local macro_rules | `(tactic| walk_at "cap") => `(tactic| first | exact trivial | exact ⟨⟨rfl, rfl, fun L => ⟨rfl, rfl, nofun⟩, by decide⟩, by walk_at "cap"⟩)
local macro_rules | `(tactic| walk_at "clo") => `(tactic| first | exact trivial | exact ⟨rfl, by walk_at "clo"⟩)
local macro_rules | `(tactic| walk_at "tgt") => `(tactic| first | exact trivial | exact ⟨⟨fun L => .inl rfl, rfl, rfl⟩, by walk_at "tgt"⟩ | exact ⟨⟨fun L => .inr ⟨rfl, rfl⟩, rfl, rfl⟩, by walk_at "tgt"⟩)
local macro_rules | `(tactic| walk_at "blk") => `(tactic| exact Blk.of rfl rfl (by decide) (by walk_at "clo") (by walk_at "cap") (by walk_at "cap") (by walk_at "tgt"))
local macro_rules | `(tactic| walk_at "sto") => `(tactic| first | exact .inl rfl | exact .inr ⟨rfl, rfl⟩)
local macro_rules | `(tactic| walk_at "stos") => `(tactic| first | exact List.forall_mem_nil _ | refine List.forall_mem_cons.mpr (And.intro (And.intro (by walk_at "sto") (by rfl)) (by walk_at "stos")))


abbrev intsD (xs : List Int) : PyData := .list (xs.map .int)
abbrev matD (m : List (List Int)) : PyData := .list (m.map intsD)
theorem geti {p : List Int} {i : Nat} (h : i < p.length) : (p.map PyData.int)[i]? = some (.int (p.getD i 0)) := by
  rw [List.getElem?_map, List.getElem?_eq_getElem h, List.getD_eq_getElem?_getD, List.getElem?_eq_getElem h]; rfl
theorem getm {p : List (List Int)} {i : Nat} (h : i < p.length) : (p.map intsD)[i]? = some (intsD (p.getD i [])) := by
  rw [List.getElem?_map, List.getElem?_eq_getElem h, List.getD_eq_getElem?_getD, List.getElem?_eq_getElem h]; rfl
theorem mapIdx_range {α β : Type} (xs : List α) (d0 : α) (f : Nat → α → β) : xs.mapIdx f = (List.range xs.length).map fun i => f i (xs.getD i d0) := by
  apply List.ext_getElem
  · simp
  · intro i h1 h2
    simp at h1
    simp [h1]
theorem ItX.enumN (K : CtOk C) {α : Type} {fz elts k tp xs fp e pos} (ys : List α) (d0 : α) (g : α → PyData) (hx : env.kindOf "enumerate" = some .globalImplicit) (h : EvL C env ρ ω n fz e (ys.map g)) (hn : NamesAre elts xs) (hl : xs.length = 2)
    (hs : ∀ env, starEach [e] env = (false, eval e env) :: starEach [] env := by intro; rfl) : ItX C env ρ ω n fz (.Tuple elts k tp) xs (.Call (.Name "enumerate" fp) [e] [] pos) ((List.range ys.length).map fun (i : Nat) => [PyData.int (i : Int), g (ys.getD i d0)]) := by
  have := ItX.enum (k := k) (tp := tp) (fp := fp) (pos := pos) K hx h hn hl hs
  have e : (ys.map g).mapIdx (fun i d => [PyData.int (i : Int), d]) = (List.range ys.length).map fun (i : Nat) => [PyData.int (i : Int), g (ys.getD i d0)] := by
    apply List.ext_getElem
    · simp
    · intro i h1 h2
      simp at h1
      simp [h1]
  rwa [e] at this

theorem ItX.rangeT (K : CtOk C) {x p fp e pos} (k : Nat) {c : Int} (hx : env.kindOf "range" = some .globalImplicit) (h : EvX C env ρ ω n e (.int c)) (hk : k ≤ 1000) (hc : c.toNat = k) (hc' : -1000 ≤ c)
    (hs : ∀ env, starEach [e] env = (false, eval e env) :: starEach [] env := by intro; rfl) : ItX C env ρ ω n true (.Name x p) [x] (.Call (.Name "range" fp) [e] [] pos) ((List.range k).map fun (i : Nat) => [PyData.int (i : Int)]) := by
  subst hc
  exact ItX.range1 (x := x) (p := p) (fp := fp) (pos := pos) K hx h (by omega) (by omega) hs

/-- an owned list is read by a call that gives a number back -/
theorem EvX.thaw {x : Str} {ds : List PyData} {e : Expr} {i : Int} (hx : ω.lookup x = some ds) (h : EvX C env ((x, .list ds) :: ρ) (ω.filter fun p => p.1 != x) n e (.int i)) : EvX C env ρ ω n e (.int i) := fun A s he b0 b G I => by
  obtain ⟨ad, O⟩ := I.own
  obtain ⟨_, ⟨vs, k, g1, g2⟩, g3, g4⟩ := O.at' x ds hx
  obtain ⟨b', I'⟩ := I.freeze hx (lookup_erase x ω)
  exact (h A s he b0 b' G I').any fun v s1 ⟨b1, x1, r⟩ => by
    cases r with | int _ t => ?_
    exact ⟨b, ⟨x1.same, x1.hh, .refl _, I.bh.trans x1.hh, fun a o e => .inl e⟩, .int _ _⟩

def unitM (k : Nat) : List (List Int) := (List.range k).map fun r => (List.range k).map fun c => if r = c then 1 else 0
def mulM (a b : List (List Int)) : List (List Int) := a.map fun row => (List.range (b.getD 0 []).length).map fun c => ((List.range b.length).map fun i => row.getD i 0 * (b.getD i []).getD c 0).sum

theorem fn_unit (K : CtOk C) (k : Nat) (hk : k ≤ 900) : FnX C "unit_rows" [.int k] (matD (unitM k)) 1 := by
  refine FnX.intro K 3 "unit_rows" rfl (hl := rfl) (hnd := by decide) (hk := by decide) (hbind := fun pm code doc vs h => by obtain ⟨a, rfl⟩ := len1 h; rfl) (hsc := ⟨rfl, rfl, rfl⟩) (hbody := ?_)
  intro pm code doc L ad
  refine StX.ret (.ofF (.comp (ρc := [("n", .int k)]) (ωc := []) (cl := [("n", L + 1)]) (.rangeN K k rfl (.name rfl) (by omega) rfl) (by walk_at "blk") ?_ (by simp; omega))) rfl
  intro L1
  rw [unitM, List.map_map]
  refine CR.map _ _ _ fun r hr => ⟨.nil, ?_⟩
  refine .cast (.ofF (.comp (ρc := [("row", .int r)]) (ωc := []) (cl := [("row", L1 + 1)]) (ds := (List.range k).map fun c => .int (if r = c then 1 else 0)) (.rangeN K k rfl (.name rfl) (by omega) rfl) (by walk_at "blk") ?_ (by simp; omega))) (by simp [intsD])
  intro L2
  refine CR.map _ _ _ fun c hc => ⟨.nil, ?_⟩
  refine .ife (t := decide (r = c)) (.cmp (.name rfl) (.name rfl) (.eqi (by rw [Bool.eq_iff_iff]; simp; omega))) (fun h => ?_) fun h => ?_
  · rw [if_pos (by simpa using h)]; exact .int
  · rw [if_neg (by simpa using h)]; exact .int

def IOk (m : Nat) (xs : List Int) : Prop := ∀ x ∈ xs, x.natAbs < 2 ^ m
theorem IOk.get {m : Nat} {xs : List Int} (h : IOk m xs) (i : Nat) : (xs.getD i 0).natAbs < 2 ^ m := by
  by_cases hi : i < xs.length
  · rw [List.getD_eq_getElem?_getD, List.getElem?_eq_getElem hi]; exact h _ (List.getElem_mem hi)
  · rw [List.getD_eq_getElem?_getD, List.getElem?_eq_none (by omega)]; simp [Nat.two_pow_pos]
theorem IOk.mono {m k : Nat} {xs : List Int} (h : IOk m xs) (l : m ≤ k) : IOk k xs := fun x hx => Nat.lt_of_lt_of_le (h x hx) (Nat.pow_le_pow_right (by omega) l)
def MOk (w m : Nat) (a : List (List Int)) : Prop := a.length = w ∧ ∀ row ∈ a, row.length = w ∧ IOk m row
theorem MOk.get {w m : Nat} {a : List (List Int)} (h : MOk w m a) {i : Nat} (hi : i < w) : (a.getD i []).length = w ∧ IOk m (a.getD i []) := by
  rw [List.getD_eq_getElem?_getD, List.getElem?_eq_getElem (by rw [h.1]; exact hi)]
  exact h.2 _ (List.getElem_mem _)
theorem sum_lt {m : Nat} : ∀ {xs : List Int}, IOk m xs → xs.sum.natAbs ≤ xs.length * 2 ^ m
  | [], _ => by simp
  | x :: xs, h => by
    have h1 := sum_lt (m := m) (xs := xs) fun y hy => h y (.tail _ hy)
    have h2 := h x (.head _)
    rw [List.sum_cons, List.length_cons, Nat.add_mul]
    omega
theorem sum_IOk {m : Nat} {xs : List Int} (h : IOk m xs) (hl : xs.length ≤ 3) : xs.sum.natAbs < 2 ^ (m + 2) := by
  have := sum_lt h
  have h2 : xs.length * 2 ^ m ≤ 3 * 2 ^ m := Nat.mul_le_mul_right _ hl
  have h3 : 0 < 2 ^ m := Nat.two_pow_pos m
  rw [Nat.pow_add]
  omega
theorem MOk.mul {w m k : Nat} {a b : List (List Int)} (ha : MOk w m a) (hb : MOk w k b) (h0 : 0 < w) (hw : w ≤ 3) : MOk w (m + k + 2) (mulM a b) := by
  refine ⟨by simp [mulM, ha.1], fun row hr => ?_⟩
  obtain ⟨r, h1, rfl⟩ := List.mem_map.mp hr
  refine ⟨by simpa using (hb.get h0).1, fun x hx => ?_⟩
  obtain ⟨c, h2, rfl⟩ := List.mem_map.mp hx
  refine sum_IOk (fun y hy => ?_) (by simp [hb.1]; exact hw)
  obtain ⟨i, h3, rfl⟩ := List.mem_map.mp hy
  exact mul_lt2 ((ha.2 r h1).2.get i) ((hb.get (by simpa [hb.1] using h3)).2.get c)
theorem mem_range' {k i : Nat} (h : i ∈ List.range k) : i < k := by simpa using h

theorem fn_whole (K : CtOk C) {w m k : Nat} (a b : List (List Int)) (ha : MOk w m a) (hb : MOk w k b) (h0 : 0 < w) (hw : w ≤ 3) (hB : m + k ≤ BB) : FnX C "whole_mul" [matD a, matD b] (matD (mulM a b)) 1 := by
  refine FnX.intro K 4 "whole_mul" rfl (hl := rfl) (hnd := by decide) (hk := by decide) (hbind := fun pm code doc vs h => by obtain ⟨a, b, rfl⟩ := len2 h; rfl) (hsc := ⟨rfl, rfl, rfl⟩) (hbody := ?_)
  intro pm code doc L ad
  have hb0 : 0 < b.length := by rw [hb.1]; exact h0
  have hbw := hb.1
  have haw := ha.1
  have hw0 : (b.getD 0 []).length = w := (hb.get h0).1
  refine StX.assign (d := .int (b.getD 0 []).length) (.ife (t := true) (.cmp (.len K rfl (f1 := true) (.of (.name rfl)) (by simp; omega)) .int (.gt (by simp; omega))) (fun _ => .cast (.len K rfl (f1 := true) (ds := (b.getD 0 []).map .int) (.of (.item (f1 := true) (k := 0) (.of (.name rfl)) .int (by decide) (by decide) (getm hb0))) (by rw [List.length_map]; omega)) (by rw [List.length_map])) (fun h => by cases h)) (by walk_at "sto") rfl ?_
  refine StX.ret (.ofF (.comp (ρc := [("b", matD b), ("width", .int (b.getD 0 []).length)]) (ωc := []) (.list (fz := true) (.of (.name rfl))) (by walk_at "blk") ?_ (by simp; omega))) rfl
  intro L1
  rw [mulM, List.map_map, List.map_map]
  refine CR.map _ _ _ fun row hr => ⟨.nil, ?_⟩
  refine .cast (.ofF (.comp (ρc := [("b", matD b), ("row", intsD row)]) (ωc := []) (ds := (List.range (b.getD 0 []).length).map fun c => .int ((List.range b.length).map fun i => row.getD i 0 * (b.getD i []).getD c 0).sum) (.rangeN K (b.getD 0 []).length rfl (.name rfl) (by omega) rfl) (by walk_at "blk") ?_ (by rw [List.length_map, List.length_range]; omega))) (by simp [intsD])
  intro L2
  refine CR.map _ _ _ fun c hc => ⟨.nil, ?_⟩
  have hc' := mem_range' hc
  refine .sum K rfl (f1 := true) (.ofF (.cast (.comp (ρc := [("b", matD b), ("row", intsD row), ("column", .int c)]) (ωc := []) (ds := (List.range b.length).map fun i => .int (row.getD i 0 * (b.getD i []).getD c 0)) (.rangeN K b.length rfl (.len K rfl (f1 := true) (.of (.name rfl)) (by simp; omega)) (by omega) (by simp)) (by walk_at "blk") ?_ (by simp; omega)) (by rw [List.map_map]; rfl)))
  intro L3
  refine CR.map _ _ _ fun i hi => ⟨.nil, ?_⟩
  have hi' := mem_range' hi
  have hri := ha.2 row hr
  refine .bin (.item (f1 := true) (.of (.name rfl)) (.name rfl) (by omega) (by omega) (geti (by omega))) (.item (f1 := true) (ds := (b.getD i []).map .int) (.of (.item (f1 := true) (.of (.name rfl)) (.name rfl) (by omega) (by omega) (getm (by omega)))) (.name rfl) (by omega) (by omega) (geti (by have := (hb.get (i := i) (by omega)).1; omega))) (.mul ?_)
  exact mulOk (hri.2.get i) ((hb.get (by omega)).2.get c) hB
end Nn

-- part W10
namespace Nn
variable {C : Ct} {env : Env} {ρ : Ro} {ω : Om} {n : Nat}
open PySem (Expr)

local macro_rules | `(tactic| walk_at "cap") => `(tactic| first | exact trivial | exact ⟨⟨rfl, rfl, fun L => ⟨rfl, rfl, nofun⟩, by decide⟩, by walk_at "cap"⟩)
local macro_rules | `(tactic| walk_at "clo") => `(tactic| first | exact trivial | exact ⟨rfl, by walk_at "clo"⟩)
local macro_rules | `(tactic| walk_at "tgt") => `(tactic| first | exact trivial | exact ⟨⟨fun L => .inl rfl, rfl, rfl⟩, by walk_at "tgt"⟩ | exact ⟨⟨fun L => .inr ⟨rfl, rfl⟩, rfl, rfl⟩, by walk_at "tgt"⟩)
local macro_rules | `(tactic| walk_at "blk") => `(tactic| exact Blk.of rfl rfl (by decide) (by walk_at "clo") (by walk_at "cap") (by walk_at "cap") (by walk_at "tgt"))
local macro_rules | `(tactic| walk_at "sto") => `(tactic| first | exact .inl rfl | exact .inr ⟨rfl, rfl⟩)
local macro_rules | `(tactic| walk_at "stos") => `(tactic| first | exact List.forall_mem_nil _ | refine List.forall_mem_cons.mpr (And.intro (And.intro (by walk_at "sto") (by rfl)) (by walk_at "stos")))


def nextN (steps row : List Int) : Int := ((List.range steps.length).map fun i => steps.getD i 0 * row.getD (row.length - 1 - i) 0).sum
def lrow (steps first : List Int) : Nat → List Int
  | 0 => first
  | t + 1 => lrow steps first t ++ [nextN steps (lrow steps first t)]
theorem lrow_len (steps first : List Int) : ∀ t, (lrow steps first t).length = first.length + t
  | 0 => rfl
  | t + 1 => by rw [lrow, List.length_append, lrow_len steps first t]; rfl
theorem nextN_ok {m : Nat} {steps row : List Int} (h1 : IOk 2 steps) (h2 : IOk m row) (hl : steps.length ≤ 3) : (nextN steps row).natAbs < 2 ^ (m + 4) := by
  have := sum_IOk (m := 2 + m) (xs := (List.range steps.length).map fun i => steps.getD i 0 * row.getD (row.length - 1 - i) 0) (fun y hy => by
    obtain ⟨i, _, rfl⟩ := List.mem_map.mp hy
    exact mul_lt2 (h1.get i) (h2.get _)) (by simpa using hl)
  rw [show m + 4 = 2 + m + 2 by omega]
  exact this
theorem lrow_ok {steps first : List Int} (h1 : IOk 2 steps) (h2 : IOk 3 first) (hl : steps.length ≤ 3) : ∀ t, IOk (3 + 4 * t) (lrow steps first t)
  | 0 => h2
  | t + 1 => fun x hx => by
    have ih := lrow_ok h1 h2 hl t
    rw [lrow] at hx
    rcases List.mem_append.mp hx with hx | hx
    · exact (ih.mono (by omega)) x hx
    · rw [List.mem_singleton.mp hx]
      exact Nat.lt_of_lt_of_le (nextN_ok h1 ih hl) (Nat.pow_le_pow_right (by omega) (by omega))
theorem range_item {α : Type} {k i : Nat} {f : Nat → α} {item : α} (h : ((List.range k).map f)[i]? = some item) : i < k ∧ item = f i := by
  rw [List.getElem?_map, Option.map_eq_some_iff] at h
  obtain ⟨j, h1, h2⟩ := h
  obtain ⟨h3, h4⟩ := List.getElem?_eq_some_iff.mp h1
  simp at h3 h4
  subst h4
  exact ⟨h3, h2.symm⟩

theorem fn_next (K : CtOk C) (steps row : List Int) {m : Nat} (h1 : IOk 2 steps) (h2 : IOk m row) (hl : steps.length ≤ 3) (hr : steps.length ≤ row.length) (hr' : row.length ≤ 900) (hB : m + 2 ≤ BB) : FnX C "next_number" [intsD steps, intsD row] (.int (nextN steps row)) 1 := by
  refine FnX.intro K 33 "next_number" rfl (hl := rfl) (hnd := by decide) (hk := by decide) (hbind := fun pm code doc vs h => by obtain ⟨a, b, rfl⟩ := len2 h; rfl) (hsc := ⟨rfl, rfl, rfl⟩) (hbody := ?_)
  intro pm code doc L ad
  refine StX.ret (.sum K rfl (f1 := true) (.ofF (.cast (.comp (ρc := [("row", intsD row)]) (ωc := []) (ds := (List.range steps.length).map fun i => .int (steps.getD i 0 * row.getD (row.length - 1 - i) 0)) (.enumN K steps 0 .int (fz := true) rfl (.of (.name rfl)) (.cons (.cons .nil)) rfl) (by walk_at "blk") ?_ (by simp; omega)) (by rw [List.map_map]; rfl)))) rfl
  intro L1
  refine CR.map _ _ _ fun i hi => ⟨.nil, ?_⟩
  have hi' := mem_range' hi
  refine .bin (.name rfl) (.item (f1 := true) (k := (row.length : Int) - 1 - i) (.of (.name rfl)) (.bin (.bin (.lenM K rfl (f1 := true) (.of (.name rfl)) (by omega)) .int .sub) (.name rfl) .sub) (by omega) (by omega) ?_) (.mul (mulOk (h1.get i) (h2.get _) (by omega)))
  rw [show ((row.length : Int) - 1 - i).toNat = row.length - 1 - i by omega]
  exact geti (by omega)

theorem fn_recrow (K : CtOk C) (steps first : List Int) (many : Nat) (h1 : IOk 2 steps) (h2 : IOk 3 first) (hl : steps.length ≤ 3) (hf : first.length = steps.length) (hm : first.length ≤ many) (hm' : many ≤ 10) :
    FnX C "recurrence_row" [intsD steps, intsD first, .int many] (intsD (lrow steps first (many - first.length))) 2 := by
  refine FnX.intro K 34 "recurrence_row" rfl (hl := rfl) (hnd := by decide) (hk := by decide) (hbind := fun pm code doc vs h => by obtain ⟨a, b, c, rfl⟩ := len3 h; rfl) (hsc := ⟨rfl, rfl, rfl⟩) (hbody := ?_)
  intro pm code doc L ad
  refine StX.iteT (t := false) (.cmp (.len K rfl (f1 := true) (.of (.name rfl)) (by rw [List.length_map]; omega)) (.len K rfl (f1 := true) (.of (.name rfl)) (by rw [List.length_map]; omega)) (.nei (by simp [hf]))) (fun h => by cases h) fun _ => .nil ?_
  refine StX.assignF (.listOf K rfl (f1 := true) (.of (.name rfl)) (by rw [List.length_map]; omega)) (by walk_at "sto") rfl ?_
  refine StX.whileI (σ := Nat) (fun t => t ≤ many - first.length) (fun _ => [("steps", intsD steps), ("many", .int many)]) (fun t => [("found", (lrow steps first t).map .int)]) (fun t => many - t) (fun t => decide ((first.length : Int) + t < many)) 0 (Nat.zero_le _) ?_ ?_ ?_ ?_ ?_
  · exact .cons rfl (.cons rfl (.nil _))
  · exact .cons rfl (.nil _)
  · intro t ht
    have := lrow_len steps first t
    exact .cmp (.len K rfl (f1 := false) (.own rfl) (by rw [List.length_map]; omega)) (.name rfl) (.lt (by rw [List.length_map, this]; simp))
  · intro t ht htt
    have hlt : first.length + t < many := by have h := htt; simp at h; omega
    have hlen := lrow_len steps first t
    refine StX.append (x := "found") rfl (EvX.thaw (x := "found") rfl (.call K (fn_next K steps (lrow steps first t) h1 (lrow_ok h1 h2 hl t) hl (by omega) (by omega) (by unfold BB; omega)) rfl (.cons (.name rfl) (.cons (.name rfl) .nil)) (by decide))) (by rw [List.length_map]; omega) ?_
    exact StX.nil ⟨t + 1, by omega, by omega, .cons rfl (.cons rfl (.nil _)), .cons (by rw [lrow, List.map_append]; rfl) (.nil _)⟩
  · intro t ht htt
    have hle : many ≤ first.length + t := by
      have h := htt
      simp at h
      omega
    have ht' : t = many - first.length := by omega
    subst ht'
    have hlen := lrow_len steps first (many - first.length)
    refine StX.ret (.ofF (.cast (.slice (f1 := false) (lo := none) (hi := some _) (a := none) (c := some (many : Int)) (.own rfl) trivial (by exact EvX.name rfl) (by rw [List.length_map]; omega)) ?_)) rfl
    rw [slc_take _ (by rw [List.length_map]; omega), List.take_of_length_le (by rw [List.length_map]; omega)]

theorem fn_lawrow (K : CtOk C) (steps first : List Int) (many : Nat) (h1 : IOk 2 steps) (h2 : IOk 3 first) (hl : steps.length ≤ 3) (hf : first.length = steps.length) (hm : first.length ≤ many) (hm' : many ≤ 10) :
    FnX C "_law_row" [intsD steps, intsD first, .int many] (intsD (lrow steps first (many - first.length))) 2 := by
  refine FnX.intro K 47 "_law_row" rfl (hl := rfl) (hnd := by decide) (hk := by decide) (hbind := fun pm code doc vs h => by obtain ⟨a, b, c, rfl⟩ := len3 h; rfl) (hsc := ⟨rfl, rfl, rfl⟩) (hbody := ?_)
  intro pm code doc L ad
  refine StX.assignF (.listOf K rfl (f1 := true) (.of (.name rfl)) (by rw [List.length_map]; omega)) (by walk_at "sto") rfl ?_
  refine StX.for (.rangeM K first.length (many - first.length) rfl (.len K rfl (f1 := true) (.of (.name rfl)) (by rw [List.length_map]; omega)) (.name rfl) (by omega) (by omega) (by rw [List.length_map]) (by omega)) (fun i => True) (fun _ => [("steps", intsD steps), ("many", .int many)]) (fun t => [("found", (lrow steps first t).map .int)]) trivial ?_ ?_ ?_ ?_ ?_
  · exact .cons rfl (.cons rfl (.nil _))
  · exact .cons rfl (.nil _)
  · intro i; walk_at "stos"
  · intro t item hit _
    obtain ⟨ht, rfl⟩ := range_item hit
    have hlen := lrow_len steps first t
    refine StX.append (x := "found") rfl (d := .int (nextN steps (lrow steps first t))) ?_ (by rw [List.length_map]; omega) ?_
    · refine .sum K rfl (f1 := true) (.ofF (.cast (.comp (ρc := [("steps", intsD steps), ("n", .int ((first.length : Int) + t))]) (ωc := [("found", (lrow steps first t).map .int)]) (ds := (List.range steps.length).map fun i => .int (steps.getD i 0 * (lrow steps first t).getD ((lrow steps first t).length - 1 - i) 0)) (.rangeN K steps.length rfl (.len K rfl (f1 := true) (.of (.name rfl)) (by rw [List.length_map]; omega)) (by omega) (by rw [List.length_map])) (by walk_at "blk") ?_ (by simp; omega)) (by rw [List.map_map]; rfl)))
      intro L1
      refine CR.map _ _ _ fun i hi => ⟨.nil, ?_⟩
      have hi' := mem_range' hi
      refine .bin (.item (f1 := true) (.of (.name rfl)) (.name rfl) (by omega) (by omega) (geti (by omega))) (.item (f1 := false) (k := (first.length : Int) + t - 1 - i) (.own rfl) (.bin (.bin (.name rfl) .int .sub) (.name rfl) .sub) (by omega) (by omega) ?_) (.mul (mulOk (h1.get i) ((lrow_ok h1 h2 hl t).get _) (by unfold BB; omega)))
      rw [show ((first.length : Int) + t - 1 - i).toNat = (lrow steps first t).length - 1 - i by omega]
      exact geti (by omega)
    · exact StX.nil ⟨trivial, .cons rfl (.cons rfl (.nil _)), .cons (by rw [lrow, List.map_append]; rfl) (.nil _)⟩
  · intro _
    rw [List.length_map, List.length_range]
    have hlen := lrow_len steps first (many - first.length)
    refine StX.ret (.ofF (.cast (.slice (f1 := false) (lo := none) (hi := some _) (a := none) (c := some (many : Int)) (.own rfl) trivial (by exact EvX.name rfl) (by rw [List.length_map]; omega)) ?_)) rfl
    rw [slc_take _ (by rw [List.length_map]; omega), List.take_of_length_le (by rw [List.length_map]; omega)]

def stepM (steps : List Int) : List (List Int) := steps :: (List.range (steps.length - 1)).map fun a => (List.range steps.length).map fun s => if s = a then 1 else 0
theorem fn_stepM (K : CtOk C) (steps : List Int) (hl : steps.length ≤ 3) : FnX C "step_matrix" [intsD steps] (matD (stepM steps)) 1 := by
  refine FnX.intro K 35 "step_matrix" rfl (hl := rfl) (hnd := by decide) (hk := by decide) (hbind := fun pm code doc vs h => by obtain ⟨a, rfl⟩ := len1 h; rfl) (hsc := ⟨rfl, rfl, rfl⟩) (hbody := ?_)
  intro pm code doc L ad
  refine StX.assign (.len K rfl (f1 := true) (.of (.name rfl)) (by rw [List.length_map]; omega)) (by walk_at "sto") rfl ?_
  refine StX.assignF (.list (.cons (.ofF (.listOf K rfl (f1 := true) (.of (.name rfl)) (by rw [List.length_map]; omega))) .nil)) (by walk_at "sto") rfl ?_
  obtain ⟨g, hg⟩ : ∃ g : Nat → List Int, g = fun a => (List.range steps.length).map fun s => if s = a then 1 else 0 := ⟨_, rfl⟩
  refine StX.for (.rangeT K (steps.length - 1) rfl (.bin (.cast (.name rfl) (by rw [List.length_map])) .int .sub) (by omega) (by omega) (by omega)) (fun i => True) (fun _ => [("size", .int steps.length)]) (fun t => [("found", (steps :: (List.range t).map g).map intsD)]) trivial ?_ ?_ ?_ ?_ ?_
  · exact .cons (by rw [List.length_map]; rfl) (.nil _)
  · exact .cons rfl (.nil _)
  · intro i; walk_at "stos"
  · intro t item hi _
    obtain ⟨ht, rfl⟩ := range_item hi
    refine StX.append (x := "found") rfl (d := intsD (g t)) ?_ (by simp; omega) ?_
    · refine .cast (.ofF (.comp (ρc := [("at", .int t)]) (ωc := []) (ds := (List.range steps.length).map fun s => .int (if s = t then 1 else 0)) (.rangeN K steps.length rfl (.name rfl) (by omega) rfl) (by walk_at "blk") ?_ (by simp; omega))) (by rw [hg]; simp [intsD])
      intro L1
      refine CR.map _ _ _ fun s hs => ⟨.nil, ?_⟩
      refine .ife (t := decide (s = t)) (.cmp (.name rfl) (.name rfl) (.eqi (by rw [Bool.eq_iff_iff]; simp; omega))) (fun h => ?_) fun h => ?_
      · rw [if_pos (by simpa using h)]; exact .int
      · rw [if_neg (by simpa using h)]; exact .int
    · refine StX.nil ⟨trivial, .cons rfl (.nil _), .cons ?_ (.nil _)⟩
      rw [List.range_succ]
      simp [lookup_cons]
  · intro _
    rw [List.length_map, List.length_range]
    refine StX.freeze (x := "found") rfl ?_
    refine StX.ret (.name rfl) ?_
    rw [stepM, hg]
end Nn

-- part W11
namespace Nn
variable {C : Ct} {env : Env} {ρ : Ro} {ω : Om} {n : Nat}
open PySem (Expr)

local macro_rules | `(tactic| walk_at "cap") => `(tactic| first | exact trivial | exact ⟨⟨rfl, rfl, fun L => ⟨rfl, rfl, nofun⟩, by decide⟩, by walk_at "cap"⟩)
local macro_rules | `(tactic| walk_at "clo") => `(tactic| first | exact trivial | exact ⟨rfl, by walk_at "clo"⟩)
local macro_rules | `(tactic| walk_at "tgt") => `(tactic| first | exact trivial | exact ⟨⟨fun L => .inl rfl, rfl, rfl⟩, by walk_at "tgt"⟩ | exact ⟨⟨fun L => .inr ⟨rfl, rfl⟩, rfl, rfl⟩, by walk_at "tgt"⟩)
local macro_rules | `(tactic| walk_at "blk") => `(tactic| exact Blk.of rfl rfl (by decide) (by walk_at "clo") (by walk_at "cap") (by walk_at "cap") (by walk_at "tgt"))
local macro_rules | `(tactic| walk_at "sto") => `(tactic| first | exact .inl rfl | exact .inr ⟨rfl, rfl⟩)
local macro_rules | `(tactic| walk_at "stos") => `(tactic| first | exact List.forall_mem_nil _ | refine List.forall_mem_cons.mpr (And.intro (And.intro (by walk_at "sto") (by rfl)) (by walk_at "stos")))


abbrev MT := List (List Int)
def mrStep (x : Nat × MT × MT) : Nat × MT × MT := (x.1 / 2, if x.1 % 2 = 1 then mulM x.2.1 x.2.2 else x.2.1, if 0 < x.1 / 2 then mulM x.2.2 x.2.2 else x.2.2)
def mrIt : Nat → Nat × MT × MT → Nat × MT × MT
  | 0, x => x
  | k + 1, x => if x.1 = 0 then x else mrIt k (mrStep x)
def mraise (a : MT) (k : Nat) : MT := (mrIt 4 (k, unitM a.length, a)).2.1
def bS : Nat → Nat
  | 0 => 2
  | j + 1 => 2 * bS j + 2
def bF : Nat → Nat
  | 0 => 1
  | j + 1 => bF j + bS j + 2
theorem MOk.mono {w m k : Nat} {a : MT} (h : MOk w m a) (l : m ≤ k) : MOk w k a := ⟨h.1, fun r hr => ⟨(h.2 r hr).1, (h.2 r hr).2.mono l⟩⟩
theorem unit_ok (w : Nat) : MOk w 1 (unitM w) := by
  refine ⟨by simp [unitM], fun r hr => ?_⟩
  obtain ⟨i, _, rfl⟩ := List.mem_map.mp hr
  refine ⟨by simp, fun x hx => ?_⟩
  obtain ⟨c, _, rfl⟩ := List.mem_map.mp hx
  split <;> decide
theorem stepM_ok {steps : List Int} (h : IOk 2 steps) (h0 : 0 < steps.length) : MOk steps.length 2 (stepM steps) := by
  refine ⟨by simp [stepM]; omega, fun r hr => ?_⟩
  rcases List.mem_cons.mp hr with hr | hr
  · subst hr; exact ⟨rfl, h⟩
  · obtain ⟨i, _, rfl⟩ := List.mem_map.mp hr
    refine ⟨by simp, fun x hx => ?_⟩
    obtain ⟨c, _, rfl⟩ := List.mem_map.mp hx
    split <;> decide
theorem mrIt_zero {k : Nat} {x : Nat × MT × MT} (h : x.1 = 0) : mrIt k x = x := by
  cases k with
  | zero => rfl
  | succ k => rw [mrIt, if_pos h]
structure MI (w j : Nat) (x : Nat × MT × MT) : Prop where
  le : j ≤ 4
  lt : x.1 < 2 ^ (4 - j)
  f : MOk w (bF j) x.2.1
  s : MOk w (bS j) x.2.2
theorem MI.step {w j : Nat} {x : Nat × MT × MT} (h : MI w j x) (h0 : 0 < w) (hw : w ≤ 3) (hx : x.1 ≠ 0) : MI w (j + 1) (mrStep x) := by
  have hj : j < 4 := by
    rcases Nat.lt_or_ge j 4 with q | q
    · exact q
    · have := h.lt
      have e : 4 - j = 0 := by omega
      rw [e] at this
      simp at this
      exact absurd this hx
  refine ⟨hj, ?_, ?_, ?_⟩
  · have := h.lt
    rw [show 4 - j = (4 - (j + 1)) + 1 by omega, Nat.pow_succ] at this
    show x.1 / 2 < _
    omega
  · show MOk w _ (if _ then _ else _)
    split
    · exact h.f.mul h.s h0 hw
    · exact h.f.mono (by rw [bF]; omega)
  · show MOk w _ (if _ then _ else _)
    split
    · exact (h.s.mul h.s h0 hw).mono (by rw [bS]; omega)
    · exact h.s.mono (by rw [bS]; omega)
theorem MI.run {w : Nat} (h0 : 0 < w) (hw : w ≤ 3) : ∀ (k j : Nat) (x : Nat × MT × MT), MI w j x → j + k = 4 → ∃ i, MI w i (mrIt k x) ∧ (mrIt k x).1 = 0
  | 0, j, x, h, e => ⟨j, h, by have := h.lt; rw [show 4 - j = 0 by omega] at this; show x.1 = 0; omega⟩
  | k + 1, j, x, h, e => by
    rw [mrIt]
    split
    · rename_i q; exact ⟨j, h, q⟩
    · rename_i q; exact MI.run h0 hw k (j + 1) _ (h.step h0 hw q) (by omega)
theorem bS_le : ∀ j ≤ 4, bS j ≤ 62 := by decide
theorem bF_le : ∀ j ≤ 4, bF j ≤ 62 := by decide

theorem fn_mraise (K : CtOk C) (a : MT) (k : Nat) {w : Nat} (ha : MOk w 2 a) (h0 : 0 < w) (hw : w ≤ 3) (hk : k < 16) : FnX C "matrix_raised" [matD a, .int k] (matD (mraise a k)) 2 := by
  refine FnX.intro K 36 "matrix_raised" rfl (hl := rfl) (hnd := by decide) (hk := by decide) (hbind := fun pm code doc vs h => by obtain ⟨a, b, rfl⟩ := len2 h; rfl) (hsc := ⟨rfl, rfl, rfl⟩) (hbody := ?_)
  intro pm code doc L ad
  have hlen := ha.1
  refine StX.swap (xs := ["found", "square"]) (.tuple (.cons (.call K (fn_unit K a.length (by omega)) rfl (.cons (.lenM K rfl (f1 := true) (.of (.name rfl)) (by omega)) .nil) (by decide)) (.cons (.name rfl) .nil))) rfl (by walk_at "stos") ?_
  refine StX.whileI (σ := Nat × Nat × MT × MT) (fun y => mrIt (4 - y.1) y.2 = mrIt 4 (k, unitM a.length, a) ∧ MI w y.1 y.2) (fun y => [("n", .int y.2.1), ("found", matD y.2.2.1), ("square", matD y.2.2.2)]) (fun _ => []) (fun y => 4 - y.1) (fun y => decide ((0 : Int) < y.2.1)) (0, k, unitM a.length, a)
    ⟨rfl, Nat.zero_le _, hk, by rw [hlen]; exact unit_ok w, ha⟩ ?_ (.nil _) ?_ ?_ ?_
  · exact .cons rfl (.cons rfl (.cons rfl (.nil _)))
  · rintro ⟨j, n, f, s⟩ _
    exact .cmp (.name rfl) .int (.gt rfl)
  · rintro ⟨j, n, f, s⟩ ⟨h1, h2⟩ ht
    have hn : n ≠ 0 := by
      have h := ht
      simp at h
      omega
    have h3 := h2.step h0 hw hn
    have b1 := bS_le j h2.le
    have b2 := bF_le j h2.le
    have hf : MOk w (bF j) f := h2.f
    have hs : MOk w (bS j) s := h2.s
    have hlt : n < 2 ^ (4 - j) := h2.lt
    have hn16 : n < 16 := Nat.lt_of_lt_of_le hlt (Nat.pow_le_pow_right (n := 2) (i := 4 - j) (j := 4) (by omega) (by omega))
    have e2 : ((n : Int).fdiv 2) = ((n / 2 : Nat) : Int) := by rw [Int.fdiv_eq_ediv_of_nonneg _ (by omega)]; omega
    -- after the first test
    have fin : ∀ (f' : MT) (ρ : Ro), f' = (if n % 2 = 1 then mulM f s else f) → ρ.lookup ("n" : Str) = some (.int n) → ρ.lookup ("found" : Str) = some (matD f') → ρ.lookup ("square" : Str) = some (matD s) →
        StX C (fenv 36 pm code doc L ad) ρ [] 1 (match (fdAt 36).body with | [_, .While _ body _ _, _] => body.drop 1 | _ => []) (fun r => match r with
          | .next ρ' ω' => ∃ y : Nat × Nat × MT × MT, (mrIt (4 - y.1) y.2 = mrIt 4 (k, unitM a.length, a) ∧ MI w y.1 y.2) ∧ 4 - y.1 < 4 - j ∧ SubL [(("n" : Str), PyData.int y.2.1), ("found", matD y.2.2.1), ("square", matD y.2.2.2)] ρ' ∧ SubL [] ω'
          | .cont ρ' ω' => ∃ y : Nat × Nat × MT × MT, (mrIt (4 - y.1) y.2 = mrIt 4 (k, unitM a.length, a) ∧ MI w y.1 y.2) ∧ 4 - y.1 < 4 - j ∧ SubL [(("n" : Str), PyData.int y.2.1), ("found", matD y.2.2.1), ("square", matD y.2.2.2)] ρ' ∧ SubL [] ω'
          | .ret d => (fun res => res = Res.ret (matD (mraise a k))) (.ret d)) := by
      intro f' ρ hf' r1 r2 r3
      refine StX.assign (d := .int ((n / 2 : Nat) : Int)) (.cast (.bin (.name r1) .int (.floordiv K (by decide))) (by rw [e2])) (by walk_at "sto") rfl ?_
      have q1 : ∀ {d : PyData} {ρ : Ro}, ρ.lookup ("square" : Str) = some (matD s) → List.lookup ("square" : Str) (("n", d) :: ρ) = some (matD s) := fun h => by rw [lookup_cons, if_neg (by decide)]; exact h
      refine StX.assign (d := matD (if 0 < n / 2 then mulM s s else s)) (.ife (t := decide ((0 : Int) < ((n / 2 : Nat) : Int))) (.cmp (.name rfl) .int (.gt rfl)) (fun h => ?_) fun h => ?_) (by walk_at "sto") rfl ?_
      · rw [if_pos (by have q := of_decide_eq_true h; omega)]
        exact .call K (fn_whole K s s hs hs h0 hw (by unfold BB; omega)) rfl (.cons (.name (q1 r3)) (.cons (.name (q1 r3)) .nil)) (by decide)
      · rw [if_neg (by have q := of_decide_eq_false h; omega)]
        exact .name (q1 r3)
      · refine StX.nil ⟨(j + 1, mrStep (n, f, s)), ⟨?_, h3⟩, ?_, ?_, .nil _⟩
        · dsimp only
          rw [← h1]
          have hj := h3.le
          dsimp only
          rw [show 4 - j = (4 - (j + 1)) + 1 by omega]
          conv => rhs; rw [mrIt, if_neg hn]
        · have hj := h3.le
          dsimp only
          omega
        · refine .cons rfl (.cons ?_ (.cons rfl (.nil _)))
          rw [lookup_cons, if_neg (by decide), lookup_cons, if_neg (by decide), r2, hf']
          rfl
    refine StX.iteT (t := decide (((n % 2 : Nat) : Int) = 1)) (.cmp (.cast (.bin (.name rfl) .int (.mod (by decide))) (by rw [Int.fmod_eq_emod_of_nonneg _ (by omega)]; rfl)) .int (.eqi rfl)) (fun h => ?_) fun h => .nil ?_
    · have h' : n % 2 = 1 := by
        have q := h
        simp at q
        omega
      refine StX.assign (.call K (fn_whole K f s hf hs h0 hw (by unfold BB; omega)) rfl (.cons (.name rfl) (.cons (.name rfl) .nil)) (by decide)) (by walk_at "sto") rfl (.nil ?_)
      exact fin _ _ (by rw [if_pos h']) rfl rfl rfl
    · have h' : ¬ n % 2 = 1 := by
        have q := h
        simp at q
        omega
      exact fin _ _ (by rw [if_neg h']) rfl rfl rfl
  · rintro ⟨j, n, f, s⟩ ⟨h1, h2⟩ ht
    have hn : n = 0 := by
      have h := ht
      simp at h
      omega
    subst hn
    rw [mrIt_zero rfl] at h1
    refine StX.ret (.name rfl) ?_
    rw [mraise, ← h1]

def numAt (steps first : List Int) (k : Nat) : Int :=
  if k < steps.length then first.getD k 0 else if steps.length = 0 then 0 else ((((mraise (stepM steps) (k - steps.length + 1)).getD 0 []).zip first.reverse).map fun p => p.1 * p.2).sum
theorem fn_numat (K : CtOk C) (steps first : List Int) (k : Nat) (h1 : IOk 2 steps) (h2 : IOk 3 first) (hl : steps.length ≤ 3) (hf : first.length = steps.length) (hk : k ≤ 9) :
    FnX C "number_at" [intsD steps, intsD first, .int k] (.int (numAt steps first k)) 3 := by
  refine FnX.intro K 37 "number_at" rfl (hl := rfl) (hnd := by decide) (hk := by decide) (hbind := fun pm code doc vs h => by obtain ⟨a, b, c, rfl⟩ := len3 h; rfl) (hsc := ⟨rfl, rfl, rfl⟩) (hbody := ?_)
  intro pm code doc L ad
  refine StX.iteT (t := decide (k < steps.length)) (.cmp (.name rfl) (.lenM K rfl (f1 := true) (.of (.name rfl)) (by omega)) (.lt (by rw [Bool.eq_iff_iff]; simp))) (fun h => ?_) fun h => .nil ?_
  · have h' : k < steps.length := by simpa using h
    refine StX.ret (.item (f1 := true) (.of (.name rfl)) (.name rfl) (by omega) (by omega) (geti (by omega))) ?_
    rw [numAt, if_pos h']; rfl
  have hk' : ¬ k < steps.length := by simpa using h
  refine StX.iteT (t := decide (steps.length = 0)) (.cmp (.lenM K rfl (f1 := true) (.of (.name rfl)) (by omega)) .int (.eqi (by rw [Bool.eq_iff_iff]; simp))) (fun h => ?_) fun h => .nil ?_
  · have h' : steps.length = 0 := by simpa using h
    refine StX.ret .int ?_
    rw [numAt, if_neg hk', if_pos h']
  have h0 : 0 < steps.length := by
    have q := h
    simp at q
    exact List.length_pos_iff.mpr q
  have hM := stepM_ok h1 h0
  have hlM : (stepM steps).length = steps.length := hM.1
  obtain ⟨i, hi, _⟩ := MI.run h0 hl 4 0 (k - steps.length + 1, unitM (stepM steps).length, stepM steps) ⟨Nat.zero_le _, by dsimp only; omega, by rw [hlM]; exact unit_ok _, hM⟩ rfl
  have hr : MOk steps.length 62 (mraise (stepM steps) (k - steps.length + 1)) := hi.f.mono (bF_le i hi.le)
  have hrl := hr.1
  have hr0 := hr.get h0
  refine StX.assign (.call K (fn_mraise K (stepM steps) (k - steps.length + 1) hM h0 hl (by omega)) rfl (.cons (.call K (fn_stepM K steps hl) rfl (.cons (.name rfl) .nil) (by decide)) (.cons (.cast (.bin (.bin (.name rfl) (.lenM K rfl (f1 := true) (.of (.name rfl)) (by omega)) .sub) .int .add) (by congr 1; omega)) .nil)) (by decide)) (by walk_at "sto") rfl ?_
  refine StX.ret (.sum K rfl (f1 := true) (.ofF (.cast (.comp (fz := false) (names := ["number", "one"]) (its := (((mraise (stepM steps) (k - steps.length + 1)).getD 0 []).zip first.reverse).map fun p => [.int p.1, .int p.2]) (ρc := []) (ωc := []) (ds := (((mraise (stepM steps) (k - steps.length + 1)).getD 0 []).zip first.reverse).map fun p => .int (p.1 * p.2)) ?_ (by walk_at "blk") ?_ ?_) (by rw [List.map_map]; rfl)))) ?_
  · have hz : ((((mraise (stepM steps) (k - steps.length + 1)).getD 0 []).map PyData.int).zip (first.map PyData.int).reverse).map (fun p => [p.1, p.2]) = (((mraise (stepM steps) (k - steps.length + 1)).getD 0 []).zip first.reverse).map fun p => [PyData.int p.1, PyData.int p.2] := by
      rw [← List.map_reverse, List.zip_map, List.map_map]
      rfl
    rw [← hz]
    exact .zip K rfl (f1 := true) (f2 := true) (.of (.item (f1 := true) (k := 0) (.of (.name rfl)) .int (by decide) (by decide) (getm (by omega)))) (.ofF (.rev (f1 := true) (.of (.name rfl)) (.neg .int) rfl (by rw [List.length_map]; omega))) (.cons (.cons .nil)) rfl
  · intro L1
    refine CR.map _ _ _ fun p hp => ⟨.nil, ?_⟩
    have hp1 := (List.of_mem_zip hp).1
    have hp2 := (List.of_mem_zip hp).2
    exact .bin (.name rfl) (.name rfl) (.mul (mulOk (hr0.2 _ hp1) (h2 _ (List.mem_reverse.mp hp2)) (by decide)))
  · simp [List.length_zip]; omega
  · rw [numAt, if_neg hk', if_neg (by omega)]
end Nn

-- part W12
namespace Nn
variable {C : Ct} {env : Env} {ρ : Ro} {ω : Om} {n : Nat}
open PySem (Expr)

local macro_rules | `(tactic| walk_at "cap") => `(tactic| first | exact trivial | exact ⟨⟨rfl, rfl, fun L => ⟨rfl, rfl, nofun⟩, by decide⟩, by walk_at "cap"⟩)
local macro_rules | `(tactic| walk_at "clo") => `(tactic| first | exact trivial | exact ⟨rfl, by walk_at "clo"⟩)
local macro_rules | `(tactic| walk_at "tgt") => `(tactic| first | exact trivial | exact ⟨⟨fun L => .inl rfl, rfl, rfl⟩, by walk_at "tgt"⟩ | exact ⟨⟨fun L => .inr ⟨rfl, rfl⟩, rfl, rfl⟩, by walk_at "tgt"⟩)
local macro_rules | `(tactic| walk_at "blk") => `(tactic| exact Blk.of rfl rfl (by decide) (by walk_at "clo") (by walk_at "cap") (by walk_at "cap") (by walk_at "tgt"))
local macro_rules | `(tactic| walk_at "sto") => `(tactic| first | exact .inl rfl | exact .inr ⟨rfl, rfl⟩)
local macro_rules | `(tactic| walk_at "stos") => `(tactic| first | exact List.forall_mem_nil _ | refine List.forall_mem_cons.mpr (And.intro (And.intro (by walk_at "sto") (by rfl)) (by walk_at "stos")))


def topL (steps first : List Int) : List Rat := (List.range steps.length).map fun a => ((first.getD a 0 - ((List.range a).map fun b => steps.getD b 0 * first.getD (a - (b + 1)) 0).sum : Int) : Rat)
def botL (steps : List Int) : List Rat := 1 :: steps.map fun s => ((-s : Int) : Rat)
def genF (steps first : List Int) : List Rat × List Rat := fmk (trim (topL steps first)) (trim (botL steps))
theorem take_succ_getD (p : List Rat) {k : Nat} (h : k < p.length) : (p.take (k + 1)).map ratD = (p.take k).map ratD ++ [ratD (p.getD k 0)] := by
  rw [List.take_add_one, List.map_append, List.getElem?_eq_getElem h, List.getD_eq_getElem?_getD, List.getElem?_eq_getElem h]; rfl
theorem lead_take (p : List Rat) {k : Nat} (h : k < p.length) : lead (p.take (k + 1)) = p.getD k 0 := by
  unfold lead
  rw [List.length_take, show min (k + 1) p.length - 1 = k by omega, List.getD_eq_getElem?_getD, List.getElem?_take, if_pos (by omega), List.getD_eq_getElem?_getD]
theorem topL_sz {steps first : List Int} (h1 : IOk 2 steps) (h2 : IOk 3 first) (hl : steps.length ≤ 3) : SzL 7 (topL steps first) := fun q hq => by
  obtain ⟨a, ha, rfl⟩ := List.mem_map.mp hq
  have ha' := mem_range' ha
  refine Sz.int ?_ (by decide)
  have e1 := h2.get a
  have e2 := sum_lt (m := 2 + 3) (xs := (List.range a).map fun b => steps.getD b 0 * first.getD (a - (b + 1)) 0) (fun y hy => by
    obtain ⟨i, _, rfl⟩ := List.mem_map.mp hy
    exact mul_lt2 (h1.get i) (h2.get _))
  rw [List.length_map, List.length_range] at e2
  have e3 : (2:Nat) ^ (2 + 3) = 32 := by decide
  have e4 : (2:Nat) ^ 7 = 128 := by decide
  have e5 : (2:Nat) ^ 3 = 8 := by decide
  rw [e3] at e2
  rw [e5] at e1
  rw [e4]
  have e6 : a * 32 ≤ 2 * 32 := Nat.mul_le_mul_right _ (by omega)
  omega
theorem botL_sz {steps : List Int} (h1 : IOk 2 steps) : SzL 2 (botL steps) := fun q hq => by
  rcases List.mem_cons.mp hq with hq | hq
  · subst hq; exact Sz.one.mono (by decide)
  · obtain ⟨s, hs, rfl⟩ := List.mem_map.mp hq
    exact Sz.int (by rw [Int.natAbs_neg]; exact h1 s hs) (by decide)

theorem fn_gen (K : CtOk C) (steps first : List Int) (h1 : IOk 2 steps) (h2 : IOk 3 first) (hl : steps.length ≤ 3) (hf : first.length = steps.length)
    (hF : FnX C "fmake" [ratsD (trim (topL steps first)), ratsD (trim (botL steps))] (.tuple [ratsD (genF steps first).1, ratsD (genF steps first).2]) 8) :
    FnX C "generating" [intsD steps, intsD first] (.tuple [ratsD (genF steps first).1, ratsD (genF steps first).2]) 9 := by
  refine FnX.intro K 38 "generating" rfl (hl := rfl) (hnd := by decide) (hk := by decide) (hbind := fun pm code doc vs h => by obtain ⟨a, b, rfl⟩ := len2 h; rfl) (hsc := ⟨rfl, rfl, rfl⟩) (hbody := ?_)
  intro pm code doc L ad
  refine StX.assignF (ds := [ratD 1] ++ steps.map fun s => ratD ((-s : Int) : Rat)) (.cat (f1 := true) (f2 := true) (.ofF (.list (.cons (.glob K K.r1 rfl) .nil))) (.ofF (.comp (ρc := []) (ωc := []) (ds := steps.map fun s => ratD ((-s : Int) : Rat)) (.list (fz := true) (.of (.name rfl))) (by walk_at "blk") ?_ (by simp; omega))) (by simp; omega)) (by walk_at "sto") rfl ?_
  · intro L1
    rw [List.map_map]
    exact CR.map _ _ _ fun s hs => ⟨.nil, .tuple (.cons (.neg (.name rfl)) (.cons .int .nil))⟩
  have hb : (botL steps).map ratD = [ratD 1] ++ steps.map fun s => ratD ((-s : Int) : Rat) := by simp [botL]
  have tl : (topL steps first).length = steps.length := by simp [topL]
  have bl : (botL steps).length = steps.length + 1 := by simp [botL]
  refine StX.assignF (.list .nil) (by walk_at "sto") rfl ?_
  refine StX.for (.rangeN K steps.length rfl (.len K rfl (f1 := true) (.of (.name rfl)) (by rw [List.length_map]; omega)) (by omega) (by rw [List.length_map])) (fun i => True) (fun _ => [("steps", intsD steps), ("first", intsD first)]) (fun t => [("top", ((topL steps first).take t).map ratD), ("bottom", (botL steps).map ratD)]) trivial ?_ ?_ ?_ ?_ ?_
  · exact .cons rfl (.cons rfl (.nil _))
  · exact .cons rfl (.cons (by rw [hb]; rfl) (.nil _))
  · intro i; walk_at "stos"
  · intro t item hi _
    obtain ⟨ht, rfl⟩ := range_item hi
    refine StX.assign (d := .int (first.getD t 0 - ((List.range t).map fun b => steps.getD b 0 * first.getD (t - (b + 1)) 0).sum)) (.bin (.item (f1 := true) (.of (.name rfl)) (.name rfl) (by omega) (by omega) (geti (by omega))) (.sum K rfl (f1 := true) (.ofF (.cast (.comp (ρc := [("steps", intsD steps), ("first", intsD first), ("at", .int t)]) (ωc := []) (ds := (List.range t).map fun b => .int (steps.getD b 0 * first.getD (t - (b + 1)) 0)) (.rangeM K 1 t rfl .int (.bin (.name rfl) .int .add) (by omega) (by omega) rfl (by omega)) (by walk_at "blk") ?_ (by simp; omega)) (by rw [List.map_map]; rfl)))) .sub) (by walk_at "sto") rfl ?_
    · intro L1
      refine CR.map _ _ _ fun b hb => ⟨.nil, ?_⟩
      have hb' := mem_range' hb
      refine .bin (.item (f1 := true) (k := ((1 : Nat) : Int) + b - 1) (.of (.name rfl)) (.bin (.name rfl) .int .sub) (by omega) (by omega) ?_) (.item (f1 := true) (k := (t : Int) - (((1 : Nat) : Int) + b)) (.of (.name rfl)) (.bin (.name rfl) (.name rfl) .sub) (by omega) (by omega) ?_) (.mul (mulOk (h1.get b) (h2.get _) (by decide)))
      · rw [show (((1 : Nat) : Int) + b - 1).toNat = b by omega]; exact geti (by omega)
      · rw [show ((t : Int) - (((1 : Nat) : Int) + b)).toNat = t - (b + 1) by omega]; exact geti (by omega)
    refine StX.append (x := "top") rfl (.tuple (.cons (.name rfl) (.cons .int .nil))) (by simp; omega) ?_
    refine StX.nil ⟨trivial, .cons rfl (.cons rfl (.nil _)), .cons ?_ (.cons rfl (.nil _))⟩
    rw [take_succ_getD _ (by omega), lookup_cons, if_pos rfl]
    congr 3
    have e : (topL steps first).getD t 0 = ((first.getD t 0 - ((List.range t).map fun b => steps.getD b 0 * first.getD (t - (b + 1)) 0).sum : Int) : Rat) := by
      rw [topL, List.getD_eq_getElem?_getD (l := List.map _ _), List.getElem?_map, List.getElem?_range ht]
      rfl
    rw [e]
    rfl
  intro _
  rw [List.length_map, List.length_range]
  -- the top's zeros
  refine StX.whileI (σ := Nat) (fun s => tsz (topL steps first) s = tsz (topL steps first) (topL steps first).length ∧ s ≤ (topL steps first).length) (fun s => []) (fun s => [("top", ((topL steps first).take s).map ratD), ("bottom", (botL steps).map ratD)]) (fun s => s)
    (fun s => decide ((s : Int) > 0) && decide ((topL steps first).getD (s - 1) 0 = 0)) (topL steps first).length ⟨rfl, Nat.le_refl _⟩ (.nil _) ?_ ?_ ?_ ?_
  · exact .cons (by rw [tl]; rfl) (.cons rfl (.nil _))
  · intro s hs
    refine TrX.and (.cmp (.cast (.len K rfl (f1 := false) (.own rfl) (by simp; omega)) (d' := .int s) (by simp; omega)) .int (.gt rfl)) fun h => ?_
    have h0 : 0 < s := by have q := of_decide_eq_true h; omega
    refine .cmp (d1 := ratD ((topL steps first).getD (s - 1) 0)) (.cast (.last (f1 := false) (.own rfl) (by simp; omega) (by simp; omega)) ?_) (.glob K K.r0 rfl) (.eqr rfl)
    obtain ⟨k, rfl⟩ : ∃ k, s = k + 1 := ⟨s - 1, by omega⟩
    rw [lead_take _ (by omega)]; rfl
  · intro s hs ht
    rw [Bool.and_eq_true, decide_eq_true_eq, decide_eq_true_eq] at ht
    obtain ⟨k, rfl⟩ : ∃ k, s = k + 1 := ⟨s - 1, by omega⟩
    refine StX.pop (x := "top") (by rw [take_succ_getD _ (by omega)]; rfl) (by simp; omega) (StX.nil ⟨k, ⟨?_, by omega⟩, by omega, .nil _, .cons rfl (.cons rfl (.nil _))⟩)
    rw [Nat.add_sub_cancel] at ht
    rw [← hs.1, tsz, if_pos ht.2]
  intro s hs hts
  have etop : (topL steps first).take s = trim (topL steps first) := by
    unfold trim
    rw [← hs.1]
    congr 1
    obtain h | ⟨k, rfl⟩ : s = 0 ∨ ∃ k, s = k + 1 := by
      cases s with
      | zero => exact .inl rfl
      | succ k => exact .inr ⟨k, rfl⟩
    · subst h; rfl
    · rw [tsz, if_neg]
      intro q
      rw [show k + 1 - 1 = k by omega, q] at hts
      simp at hts
  rw [etop]
  -- the bottom's
  have hb0 : ∀ k, 1 ≤ tsz (botL steps) (k + 1) := fun k => by
    induction k with
    | zero => rw [tsz]; simp [botL]
    | succ k ih => rw [tsz]; split; exact ih; omega
  refine StX.whileI (σ := Nat) (fun s => (tsz (botL steps) s = tsz (botL steps) (botL steps).length ∧ s ≤ (botL steps).length) ∧ 1 ≤ s) (fun s => []) (fun s => [("bottom", ((botL steps).take s).map ratD), ("top", (trim (topL steps first)).map ratD)]) (fun s => s)
    (fun s => decide ((botL steps).getD (s - 1) 0 = 0)) (botL steps).length ⟨⟨rfl, Nat.le_refl _⟩, by omega⟩ (.nil _) ?_ ?_ ?_ ?_
  · exact .cons (by rw [List.take_length]; rfl) (.cons rfl (.nil _))
  · intro s ⟨hs, h0⟩
    refine .cmp (d1 := ratD ((botL steps).getD (s - 1) 0)) (.cast (.last (f1 := false) (.own rfl) (by simp; omega) (by simp; omega)) ?_) (.glob K K.r0 rfl) (.eqr rfl)
    obtain ⟨k, rfl⟩ : ∃ k, s = k + 1 := ⟨s - 1, by omega⟩
    rw [lead_take _ (by omega)]; rfl
  · intro s ⟨hs, h0⟩ ht
    rw [decide_eq_true_eq] at ht
    obtain ⟨k, rfl⟩ : ∃ k, s = k + 1 := ⟨s - 1, by omega⟩
    rw [Nat.add_sub_cancel] at ht
    have hk : tsz (botL steps) k = tsz (botL steps) (botL steps).length := by rw [← hs.1, tsz, if_pos ht]
    have hk1 : 1 ≤ k := by
      have := tsz_le (botL steps) k
      have := hb0 steps.length
      rw [← bl] at this
      omega
    exact StX.pop (x := "bottom") (by rw [take_succ_getD _ (by omega)]; rfl) (by simp; omega) (StX.nil ⟨k, ⟨⟨hk, by omega⟩, hk1⟩, by omega, .nil _, .cons rfl (.cons rfl (.nil _))⟩)
  intro s2 ⟨hs2, h02⟩ hts2
  have ebot : (botL steps).take s2 = trim (botL steps) := by
    unfold trim
    rw [← hs2.1]
    congr 1
    obtain ⟨k, rfl⟩ : ∃ k, s2 = k + 1 := ⟨s2 - 1, by omega⟩
    rw [tsz, if_neg]
    intro q
    rw [show k + 1 - 1 = k by omega, q] at hts2
    simp at hts2
  rw [ebot]
  refine StX.freeze (x := "top") rfl (StX.freeze (x := "bottom") rfl ?_)
  exact StX.ret (.call K hF rfl (.cons (.name rfl) (.cons (.name rfl) .nil)) (by decide)) rfl

def S : Nat → (Nat → Rat) → Rat
  | 0, _ => 0
  | n + 1, f => S n f + f n
theorem subS_sz {c : Rat} {f : Nat → Rat} {m k : Nat} (hc : Sz m c) : ∀ j, (∀ i < j, Sz k (f i)) → Sz (m + j * (k + 1)) (c - S j f)
  | 0, _ => by
    show Sz _ (c - 0)
    rw [show c - 0 = c by grind]
    exact hc.mono (by omega)
  | j + 1, h => by
    have e : c - S (j + 1) f = (c - S j f) - f j := by rw [S]; grind
    rw [e]
    exact ((subS_sz hc j fun i hi => h i (by omega)).sub (h j (by omega))).mono (by rw [Nat.add_mul]; omega)
theorem addS_sz {c : Rat} {f : Nat → Rat} {m k : Nat} (hc : Sz m c) : ∀ j, (∀ i < j, Sz k (f i)) → Sz (m + j * (k + 1)) (c + S j f)
  | 0, _ => by
    show Sz _ (c + 0)
    rw [show c + 0 = c by grind]
    exact hc.mono (by omega)
  | j + 1, h => by
    have e : c + S (j + 1) f = (c + S j f) + f j := by rw [S]; grind
    rw [e]
    exact ((addS_sz hc j fun i hi => h i (by omega)).add (h j (by omega))).mono (by rw [Nat.add_mul]; omega)

theorem fn_series (K : CtOk C) (top bottom : List Rat) (σ : Nat → Rat) (many : Nat) {m k : Nat} (hm : many ≤ 10) (lt : top.length ≤ 900) (lb : bottom.length ≤ 900) (st : SzL m top) (sb : SzL m bottom) (h1 : 1 ≤ m) (sσ : ∀ i < many, Sz k (σ i)) (hB : m + 10 * (m + k + 1) + m + k ≤ BB)
    (hb : 0 < bottom.length) (hb0 : bottom.getD 0 0 ≠ 0) (hσ : ∀ i < many, σ i = (top.getD i 0 - S (min i (bottom.length - 1)) fun b => bottom.getD (b + 1) 0 * σ (i - (b + 1))) / bottom.getD 0 0) :
    FnX C "series_numbers" [.tuple [ratsD top, ratsD bottom], .int many] (ratsD ((List.range many).map σ)) 4 := by
  refine FnX.intro K 39 "series_numbers" rfl (hl := rfl) (hnd := by decide) (hk := by decide) (hbind := fun pm code doc vs h => by obtain ⟨a, b, rfl⟩ := len2 h; rfl) (hsc := ⟨rfl, rfl, rfl⟩) (hbody := ?_)
  intro pm code doc L ad
  refine StX.unpack (.name rfl) (.cons (.cons .nil)) rfl (by walk_at "stos") ?_
  refine StX.iteT (t := false) (.cmp (.item (f1 := true) (k := 0) (.of (.name rfl)) .int (by decide) (by decide) (getq hb)) (.glob K K.r0 rfl) (.eqr (by simp only [List.getD_eq_getElem?_getD] at hb0 ⊢; simp [hb0]))) (fun h => by cases h) fun _ => .nil ?_
  refine StX.assignF (.list .nil) (by walk_at "sto") rfl ?_
  refine StX.for (.rangeN K many rfl (.name rfl) (by omega) rfl) (fun i => True) (fun _ => [("top", ratsD top), ("bottom", ratsD bottom)]) (fun t => [("found", ((List.range t).map σ).map ratD)]) trivial ?_ ?_ ?_ ?_ ?_
  · exact .cons rfl (.cons rfl (.nil _))
  · exact .cons rfl (.nil _)
  · intro i; walk_at "stos"
  · intro t item hi _
    obtain ⟨ht, rfl⟩ := range_item hi
    refine StX.assign (d := ratD (top.getD t 0)) (.ife (t := decide (t < top.length)) (.cmp (.name rfl) (.lenM K rfl (f1 := true) (.of (.name rfl)) (by omega)) (.lt (by rw [Bool.eq_iff_iff]; simp))) (fun h => ?_) fun h => ?_) (by walk_at "sto") rfl ?_
    · exact .item (f1 := true) (.of (.name rfl)) (.name rfl) (by omega) (by omega) (getq (of_decide_eq_true h))
    · rw [List.getD_eq_getElem?_getD, List.getElem?_eq_none (by have q := of_decide_eq_false h; omega)]
      exact .glob K K.r0 rfl
    have sz : ∀ j, j ≤ t → Sz (m + 10 * (m + k + 1)) (top.getD t 0 - S j fun b => bottom.getD (b + 1) 0 * σ (t - (b + 1))) := fun j hj =>
      (subS_sz (st.get h1 t) j fun i hi => (sb.get h1 _).mul (sσ _ (by omega))).mono (by
        have : j * (m + k + 1) ≤ 10 * (m + k + 1) := Nat.mul_le_mul_right _ (by omega)
        omega)
    refine StX.for (.rangeM K 1 (min t (bottom.length - 1)) rfl .int (.bin (.min2 K rfl (.name rfl) (.bin (.lenM K rfl (f1 := true) (.of (.name rfl)) (by omega)) .int .sub)) .int .add) (by omega) (by omega) rfl (by omega)) (fun i => True)
      (fun j => [("number", ratD (top.getD t 0 - S j fun b => bottom.getD (b + 1) 0 * σ (t - (b + 1)))), ("n", .int t), ("top", ratsD top), ("bottom", ratsD bottom)]) (fun _ => [("found", ((List.range t).map σ).map ratD)]) trivial ?_ ?_ ?_ ?_ ?_
    · exact .cons (by rw [S, show top.getD t 0 - 0 = top.getD t 0 by grind]; rfl) (.cons rfl (.cons rfl (.cons rfl (.nil _))))
    · exact .cons rfl (.nil _)
    · intro i; walk_at "stos"
    · intro j item hi _
      obtain ⟨hj, rfl⟩ := range_item hi
      refine StX.assign (d := ratD (top.getD t 0 - S (j + 1) fun b => bottom.getD (b + 1) 0 * σ (t - (b + 1)))) ?_ (by walk_at "sto") rfl (StX.nil ⟨trivial, .cons rfl (.cons rfl (.cons rfl (.cons rfl (.nil _)))), .cons rfl (.nil _)⟩)
      have e : top.getD t 0 - S (j + 1) (fun b => bottom.getD (b + 1) 0 * σ (t - (b + 1))) = (top.getD t 0 - S j fun b => bottom.getD (b + 1) 0 * σ (t - (b + 1))) - bottom.getD (j + 1) 0 * σ (t - (j + 1)) := by rw [S]; grind
      rw [e]
      refine .call K (fn_rsub K (sz j (by omega)) ((sb.get h1 (j + 1)).mul (sσ (t - (j + 1)) (by omega))) (by omega)) rfl (.cons (.name rfl) (.cons (.call K (fn_rmul K (sb.get h1 (j + 1)) (sσ (t - (j + 1)) (by omega)) (by omega)) rfl (.cons (.item (f1 := true) (k := ((1 : Nat) : Int) + j) (.of (.name rfl)) (.name rfl) (by omega) (by omega) ?_) (.cons (.item (f1 := false) (k := (t : Int) - (((1 : Nat) : Int) + j)) (.own rfl) (.bin (.name rfl) (.name rfl) .sub) (by omega) (by omega) ?_) .nil)) (by decide)) .nil)) (by decide)
      · rw [show (((1 : Nat) : Int) + j).toNat = j + 1 by omega]; exact getq (by omega)
      · rw [show ((t : Int) - (((1 : Nat) : Int) + j)).toNat = t - (j + 1) by omega, List.map_map, List.getElem?_map, List.getElem?_range (by omega)]; rfl
    · intro _
      rw [List.length_map, List.length_range]
      refine StX.append (x := "found") rfl (.call K (fn_rdiv K (sz _ (Nat.min_le_left _ _)) (sb.get h1 0) (by omega) hb0) rfl (.cons (.name rfl) (.cons (.item (f1 := true) (k := 0) (.of (.name rfl)) .int (by decide) (by decide) (getq hb)) .nil)) (by decide)) (by simp; omega) ?_
      refine StX.nil ⟨trivial, .cons rfl (.cons rfl (.nil _)), .cons ?_ (.nil _)⟩
      rw [lookup_cons, if_pos rfl, List.range_succ, List.map_append, List.map_append, ← hσ t ht]
      rfl
  · intro _
    rw [List.length_map, List.length_range]
    refine StX.freeze (x := "found") rfl ?_
    exact StX.ret (.name rfl) rfl
end Nn

-- part W13
namespace Nn
variable {C : Ct} {env : Env} {ρ : Ro} {ω : Om} {n : Nat}
open PySem (Expr)

local macro_rules | `(tactic| walk_at "cap") => `(tactic| first | exact trivial | exact ⟨⟨rfl, rfl, fun L => ⟨rfl, rfl, nofun⟩, by decide⟩, by walk_at "cap"⟩)
local macro_rules | `(tactic| walk_at "clo") => `(tactic| first | exact trivial | exact ⟨rfl, by walk_at "clo"⟩)
local macro_rules | `(tactic| walk_at "tgt") => `(tactic| first | exact trivial | exact ⟨⟨fun L => .inl rfl, rfl, rfl⟩, by walk_at "tgt"⟩ | exact ⟨⟨fun L => .inr ⟨rfl, rfl⟩, rfl, rfl⟩, by walk_at "tgt"⟩)
local macro_rules | `(tactic| walk_at "blk") => `(tactic| exact Blk.of rfl rfl (by decide) (by walk_at "clo") (by walk_at "cap") (by walk_at "cap") (by walk_at "tgt"))
local macro_rules | `(tactic| walk_at "sto") => `(tactic| first | exact .inl rfl | exact .inr ⟨rfl, rfl⟩)
local macro_rules | `(tactic| walk_at "stos") => `(tactic| first | exact List.forall_mem_nil _ | refine List.forall_mem_cons.mpr (And.intro (And.intro (by walk_at "sto") (by rfl)) (by walk_at "stos")))


def disc (row pol : List Rat) (k : Nat) : Rat := row.getD k 0 + S (min k (pol.length - 1)) fun b => pol.getD (b + 1) 0 * row.getD (k - (b + 1)) 0
theorem disc_sz {row pol : List Rat} {r p k : Nat} (hr : SzL r row) (hp : SzL p pol) (r1 : 1 ≤ r) (p1 : 1 ≤ p) : Sz (r + k * (p + r + 1)) (disc row pol k) :=
  (addS_sz (hr.get r1 k) _ fun i _ => (hp.get p1 (i + 1)).mul (hr.get r1 _)).mono (Nat.add_le_add_left (Nat.mul_le_mul_right _ (Nat.min_le_left _ _)) _)
theorem fn_disc (K : CtOk C) (row pol : List Rat) (k : Nat) {r p : Nat} (hk : k < row.length) (hr : row.length ≤ 900) (hp : 0 < pol.length) (hp' : pol.length ≤ 900) (sr : SzL r row) (sp : SzL p pol) (r1 : 1 ≤ r) (p1 : 1 ≤ p) (hB : r + k * (p + r + 1) + (p + r) ≤ BB) :
    FnX C "discrepancy" [ratsD row, .int k, ratsD pol] (ratD (disc row pol k)) 4 := by
  refine FnX.intro K 40 "discrepancy" rfl (hl := rfl) (hnd := by decide) (hk := by decide) (hbind := fun pm code doc vs h => by obtain ⟨a, b, c, rfl⟩ := len3 h; rfl) (hsc := ⟨rfl, rfl, rfl⟩) (hbody := ?_)
  intro pm code doc L ad
  refine StX.assign (.item (f1 := true) (.of (.name rfl)) (.name rfl) (by omega) (by omega) (getq (by omega))) (by walk_at "sto") rfl ?_
  have sz : ∀ j, j ≤ k → Sz (r + k * (p + r + 1)) (row.getD k 0 + S j fun b => pol.getD (b + 1) 0 * row.getD (k - (b + 1)) 0) := fun j hj =>
    (addS_sz (sr.get r1 k) j fun i _ => (sp.get p1 (i + 1)).mul (sr.get r1 _)).mono (Nat.add_le_add_left (Nat.mul_le_mul_right _ hj) _)
  refine StX.for (.rangeM K 1 (min k (pol.length - 1)) rfl .int (.bin (.min2 K rfl (.name rfl) (.bin (.lenM K rfl (f1 := true) (.of (.name rfl)) (by omega)) .int .sub)) .int .add) (by omega) (by omega) rfl (by omega)) (fun i => True)
    (fun j => [("found", ratD (row.getD k 0 + S j fun b => pol.getD (b + 1) 0 * row.getD (k - (b + 1)) 0)), ("n", .int k), ("row", ratsD row), ("polynomial", ratsD pol)]) (fun _ => []) trivial ?_ (.nil _) ?_ ?_ ?_
  · exact .cons (by rw [S, show row.getD k 0 + 0 = row.getD k 0 by grind]; rfl) (.cons rfl (.cons rfl (.cons rfl (.nil _))))
  · intro i; walk_at "stos"
  · intro j item hi _
    obtain ⟨hj, rfl⟩ := range_item hi
    refine StX.assign (d := ratD (row.getD k 0 + S (j + 1) fun b => pol.getD (b + 1) 0 * row.getD (k - (b + 1)) 0)) ?_ (by walk_at "sto") rfl (StX.nil ⟨trivial, .cons rfl (.cons rfl (.cons rfl (.cons rfl (.nil _)))), .nil _⟩)
    have e : row.getD k 0 + S (j + 1) (fun b => pol.getD (b + 1) 0 * row.getD (k - (b + 1)) 0) = (row.getD k 0 + S j fun b => pol.getD (b + 1) 0 * row.getD (k - (b + 1)) 0) + pol.getD (j + 1) 0 * row.getD (k - (j + 1)) 0 := by rw [S]; grind
    rw [e]
    refine .call K (fn_radd K (sz j (by omega)) ((sp.get p1 (j + 1)).mul (sr.get r1 (k - (j + 1)))) hB) rfl (.cons (.name rfl) (.cons (.call K (fn_rmul K (sp.get p1 (j + 1)) (sr.get r1 (k - (j + 1))) (by omega)) rfl (.cons (.item (f1 := true) (k := ((1 : Nat) : Int) + j) (.of (.name rfl)) (.name rfl) (by omega) (by omega) ?_) (.cons (.item (f1 := true) (k := (k : Int) - (((1 : Nat) : Int) + j)) (.of (.name rfl)) (.bin (.name rfl) (.name rfl) .sub) (by omega) (by omega) ?_) .nil)) (by decide)) .nil)) (by decide)
    · rw [show (((1 : Nat) : Int) + j).toNat = j + 1 by omega]; exact getq (by omega)
    · rw [show ((k : Int) - (((1 : Nat) : Int) + j)).toNat = k - (j + 1) by omega]; exact getq (by omega)
  · intro _
    rw [List.length_map, List.length_range]
    exact StX.ret (.name rfl) rfl

def mendT (pol : List Rat) (q : Rat) (former : List Rat) (gap t : Nat) : List Rat :=
  (List.range (max pol.length (former.length + gap))).map fun i => if gap ≤ i ∧ i < gap + t then pol.getD i 0 - q * former.getD (i - gap) 0 else pol.getD i 0
def mend (pol : List Rat) (q : Rat) (former : List Rat) (gap : Nat) : List Rat := mendT pol q former gap former.length
theorem mendT_get {pol former : List Rat} {q : Rat} {gap t i : Nat} (h : i < max pol.length (former.length + gap)) : (mendT pol q former gap t).getD i 0 = if gap ≤ i ∧ i < gap + t then pol.getD i 0 - q * former.getD (i - gap) 0 else pol.getD i 0 := by
  unfold mendT
  rw [List.getD_eq_getElem?_getD (l := List.map _ _), List.getElem?_map, List.getElem?_range h]
  rfl
theorem mendT_len (pol former : List Rat) (q : Rat) (gap t : Nat) : (mendT pol q former gap t).length = max pol.length (former.length + gap) := by simp [mendT]
theorem mend_sz {pol former : List Rat} {q : Rat} {gap t p m f : Nat} (sp : SzL p pol) (sq : Sz m q) (sf : SzL f former) (p1 : 1 ≤ p) (f1 : 1 ≤ f) : SzL (p + (m + f) + 1) (mendT pol q former gap t) := fun x hx => by
  obtain ⟨i, _, rfl⟩ := List.mem_map.mp hx
  split
  · exact (sp.get p1 i).sub (sq.mul (sf.get f1 _))
  · exact (sp.get p1 i).mono (by omega)
theorem getD_map_ratD {l : List Rat} {i : Nat} (h : i < l.length) : (l.map ratD)[i]? = some (ratD (l.getD i 0)) := getq h

theorem fn_mended (K : CtOk C) (pol former : List Rat) (q : Rat) (gap : Nat) {p m f : Nat} (lp : pol.length ≤ 400) (lf : former.length + gap ≤ 400) (sp : SzL p pol) (sq : Sz m q) (sf : SzL f former) (p1 : 1 ≤ p) (f1 : 1 ≤ f) (hB : p + (m + f) + 1 ≤ BB) :
    FnX C "mended" [ratsD pol, ratD q, ratsD former, .int gap] (ratsD (mend pol q former gap)) 4 := by
  refine FnX.intro K 41 "mended" rfl (hl := rfl) (hnd := by decide) (hk := by decide) (hbind := fun pm code doc vs h => by obtain ⟨a, b, c, d, rfl⟩ := len4 h; rfl) (hsc := ⟨rfl, rfl, rfl⟩) (hbody := ?_)
  intro pm code doc L ad
  refine StX.assign (d := .int ((max pol.length (former.length + gap) : Nat) : Int)) (.cast (.max2 K rfl (.lenM K rfl (f1 := true) (.of (.name rfl)) (by omega)) (.bin (.lenM K rfl (f1 := true) (.of (.name rfl)) (by omega)) (.name rfl) .add)) (by congr 1; omega)) (by walk_at "sto") rfl ?_
  have e0 : (mendT pol q former gap 0).map ratD = pol.map ratD ++ List.replicate (max pol.length (former.length + gap) - pol.length) (ratD 0) := by
    rw [show List.replicate (max pol.length (former.length + gap) - pol.length) (ratD 0) = (List.replicate (max pol.length (former.length + gap) - pol.length) (0 : Rat)).map ratD by rw [List.map_replicate], ← List.map_append]
    congr 1
    apply List.ext_getElem
    · rw [mendT_len, List.length_append, List.length_replicate]; omega
    · intro i h1 h2
      rw [mendT_len] at h1
      have := mendT_get (q := q) (t := 0) h1
      rw [if_neg (by omega), List.getD_eq_getElem?_getD, List.getElem?_eq_getElem (by rw [mendT_len]; exact h1)] at this
      rw [show (mendT pol q former gap 0)[i] = pol.getD i 0 from this, List.getElem_append]
      split
      · rename_i h; rw [List.getD_eq_getElem?_getD, List.getElem?_eq_getElem h]; rfl
      · rename_i h; rw [List.getD_eq_getElem?_getD, List.getElem?_eq_none (by omega), List.getElem_replicate]; rfl
  refine StX.assignF (ds := pol.map ratD ++ List.replicate (max pol.length (former.length + gap) - pol.length) (ratD 0)) (.cast (.cat (f1 := true) (f2 := true) (.ofF (.listOf K rfl (f1 := true) (.of (.name rfl)) (by rw [List.length_map]; omega))) (.ofF (.rep (f1 := true) (.ofF (.list (.cons (.glob K K.r0 rfl) .nil))) (.bin (.name rfl) (.lenM K rfl (f1 := true) (.of (.name rfl)) (by omega)) .sub) (by omega) (by omega))) (by simp; omega)) (by congr 2; omega)) (by walk_at "sto") rfl ?_
  rw [← e0]
  refine StX.for (.enumN K former 0 ratD (fz := true) rfl (.of (.name rfl)) (.cons (.cons .nil)) rfl) (fun i => True) (fun j => [("number", ratD q), ("gap", .int gap)]) (fun t => [("found", (mendT pol q former gap t).map ratD)]) trivial ?_ ?_ ?_ ?_ ?_
  · exact .cons rfl (.cons rfl (.nil _))
  · exact .cons rfl (.nil _)
  · intro i; walk_at "stos"
  · intro t item hi _
    obtain ⟨ht, rfl⟩ := range_item hi
    have hlt : t + gap < (mendT pol q former gap t).length := by rw [mendT_len]; omega
    have hg : (mendT pol q former gap t).getD (t + gap) 0 = pol.getD (t + gap) 0 := by rw [mendT_get (by omega), if_neg (by omega)]
    have hx : ((mendT pol q former gap t).map ratD)[((t : Int) + gap).toNat]? = some (ratD (pol.getD (t + gap) 0)) := by
      rw [show ((t : Int) + gap).toNat = t + gap by omega, getq hlt, hg]
    refine StX.setItem (d := ratD (pol.getD (t + gap) 0 - q * former.getD t 0)) (j := (t : Int) + gap) rfl (.call K (fn_rsub K (sp.get p1 _) (sq.mul (sf.get f1 t)) (by omega)) rfl (.cons (.item (f1 := false) (.own rfl) (.bin (.name rfl) (.name rfl) .add) (by omega) (by omega) hx) (.cons (.call K (fn_rmul K sq (sf.get f1 t) (by omega)) rfl (.cons (.name rfl) (.cons (.name rfl) .nil)) (by decide)) .nil)) (by decide)) (.bin (.name rfl) (.name rfl) .add) (by omega) (by rw [List.length_map]; omega) (by rw [List.length_map, mendT_len]; omega) ?_
    refine StX.nil ⟨trivial, .cons rfl (.cons rfl (.nil _)), .cons ?_ (.nil _)⟩
    rw [lookup_cons, if_pos rfl, show ((t : Int) + gap).toNat = t + gap by omega, map_set_rat]
    congr 2
    apply List.ext_getElem
    · rw [List.length_set, mendT_len, mendT_len]
    · intro i h1 h2
      have h1' : i < max pol.length (former.length + gap) := by rw [List.length_set, mendT_len] at h1; exact h1
      have e1 := mendT_get (q := q) (t := t) h1'
      have e2 := mendT_get (q := q) (t := t + 1) h1'
      rw [List.getD_eq_getElem?_getD (l := mendT _ _ _ _ _), List.getElem?_eq_getElem (by rw [mendT_len]; exact h1')] at e1 e2
      rw [Option.getD_some] at e1 e2
      rw [List.getElem_set, e1, e2]
      by_cases hi : t + gap = i
      · subst hi
        rw [if_pos rfl, if_pos (by omega), show t + gap - gap = t by omega]
      · rw [if_neg hi]
        by_cases hj : gap ≤ i ∧ i < gap + t
        · rw [if_pos hj, if_pos (by omega)]
        · rw [if_neg hj, if_neg (by omega)]
  · intro _
    rw [List.length_map, List.length_range]
    refine StX.freeze (x := "found") rfl ?_
    exact StX.ret (.name rfl) rfl
end Nn

-- part W14
namespace Nn
variable {C : Ct} {env : Env} {ρ : Ro} {ω : Om} {n : Nat}
open PySem (Expr)

local macro_rules | `(tactic| walk_at "cap") => `(tactic| first | exact trivial | exact ⟨⟨rfl, rfl, fun L => ⟨rfl, rfl, nofun⟩, by decide⟩, by walk_at "cap"⟩)
local macro_rules | `(tactic| walk_at "clo") => `(tactic| first | exact trivial | exact ⟨rfl, by walk_at "clo"⟩)
local macro_rules | `(tactic| walk_at "tgt") => `(tactic| first | exact trivial | exact ⟨⟨fun L => .inl rfl, rfl, rfl⟩, by walk_at "tgt"⟩ | exact ⟨⟨fun L => .inr ⟨rfl, rfl⟩, rfl, rfl⟩, by walk_at "tgt"⟩)
local macro_rules | `(tactic| walk_at "blk") => `(tactic| exact Blk.of rfl rfl (by decide) (by walk_at "clo") (by walk_at "cap") (by walk_at "cap") (by walk_at "tgt"))
local macro_rules | `(tactic| walk_at "sto") => `(tactic| first | exact .inl rfl | exact .inr ⟨rfl, rfl⟩)
local macro_rules | `(tactic| walk_at "stos") => `(tactic| first | exact List.forall_mem_nil _ | refine List.forall_mem_cons.mpr (And.intro (And.intro (by walk_at "sto") (by rfl)) (by walk_at "stos")))


structure BM where
  now : List Rat
  former : List Rat
  size : Nat
  gap : Nat
  last : Rat
def bmStep (row : List Rat) (k : Nat) (x : BM) : BM :=
  if disc row x.now k = 0 then ⟨x.now, x.former, x.size, x.gap + 1, x.last⟩ else
  if 2 * x.size ≤ k then ⟨mend x.now (disc row x.now k / x.last) x.former x.gap, x.now, k + 1 - x.size, 1, disc row x.now k⟩
  else ⟨mend x.now (disc row x.now k / x.last) x.former x.gap, x.former, x.size, x.gap + 1, x.last⟩
def bmSt (row : List Rat) : Nat → BM
  | 0 => ⟨[1], [1], 0, 1, 1⟩
  | k + 1 => bmStep row k (bmSt row k)
def told (row : List Rat) : List Rat := (List.range (bmSt row row.length).size).map fun i => -((bmSt row row.length).now.getD (i + 1) 0)

def bOff (i p : Nat) : Nat := 35 + i * (p + 35 + 1)
def bT : Nat → Nat × Nat × Nat
  | 0 => (1, 1, 1)
  | i + 1 => ((bT i).1 + (bOff i (bT i).1 + (bT i).2.2 + (bT i).2.1) + 1, max (bT i).2.1 (bT i).1, max (bT i).2.2 (bOff i (bT i).1))
structure BZ (i : Nat) (x : BM) : Prop where
  p : SzL (bT i).1 x.now
  f : SzL (bT i).2.1 x.former
  o : Sz (bT i).2.2 x.last
  ne : x.last ≠ 0
  l0 : 0 < x.now.length
  l1 : x.now.length ≤ i + 1
  l2 : x.former.length + x.gap ≤ i + 2
  s : x.size ≤ i
theorem bT_fits : ∀ i < 8, 1 ≤ (bT i).1 ∧ 1 ≤ (bT i).2.1 ∧ 35 + i * ((bT i).1 + 35 + 1) + ((bT i).1 + 35) ≤ BB ∧ bOff i (bT i).1 + (bT i).2.2 ≤ BB ∧ (bT i).1 + (bOff i (bT i).1 + (bT i).2.2 + (bT i).2.1) + 1 ≤ BB := by decide
theorem mend_len (pol former : List Rat) (q : Rat) (gap : Nat) : (mend pol q former gap).length = max pol.length (former.length + gap) := mendT_len ..
theorem BZ.step {row : List Rat} {i : Nat} {x : BM} (h : BZ i x) (hi : i < 8) (hr : SzL 35 row) : BZ (i + 1) (bmStep row i x) := by
  obtain ⟨q1, q2, _⟩ := bT_fits i hi
  have hd : Sz (bOff i (bT i).1) (disc row x.now i) := disc_sz hr h.p (by decide) q1
  have hm : SzL (bT (i + 1)).1 (mend x.now (disc row x.now i / x.last) x.former x.gap) := mend_sz h.p (hd.div h.o) h.f q1 q2
  have l0 := h.l0
  have l1 := h.l1
  have l2 := h.l2
  have s := h.s
  unfold bmStep
  split
  · exact ⟨h.p.mono (by rw [bT]; dsimp only; omega), h.f.mono (by rw [bT]; dsimp only; omega), h.o.mono (by rw [bT]; dsimp only; omega), h.ne, h.l0, by dsimp only; omega, by dsimp only; omega, by dsimp only; omega⟩
  · rename_i hne
    split
    · exact ⟨hm, h.p.mono (by rw [bT]; dsimp only; omega), hd.mono (by rw [bT]; dsimp only; omega), hne, by dsimp only; rw [mend_len]; omega, by dsimp only; rw [mend_len]; omega, by dsimp only; omega, by dsimp only; omega⟩
    · exact ⟨hm, h.f.mono (by rw [bT]; dsimp only; omega), h.o.mono (by rw [bT]; dsimp only; omega), h.ne, by dsimp only; rw [mend_len]; omega, by dsimp only; rw [mend_len]; omega, by dsimp only; omega, by dsimp only; omega⟩
theorem bz (row : List Rat) (hr : SzL 35 row) : ∀ i, i ≤ 8 → BZ i (bmSt row i)
  | 0, _ => ⟨fun q hq => by rw [List.mem_singleton.mp hq]; exact Sz.one, fun q hq => by rw [List.mem_singleton.mp hq]; exact Sz.one, Sz.one, (by decide : (1 : Rat) ≠ 0), (by decide : 0 < 1), (by decide : 1 ≤ 1), (by decide : 1 + 1 ≤ 2), (by decide : 0 ≤ 0)⟩
  | i + 1, h => (bz row hr i (by omega)).step (by omega) hr
theorem told_sz {row : List Rat} (hl : row.length ≤ 8) (hr : SzL 35 row) : SzL 11504223 (told row) := fun q hq => by
  obtain ⟨i, _, rfl⟩ := List.mem_map.mp hq
  have h := (bz row hr _ hl).p
  have e : (bT row.length).1 ≤ 11504223 ∧ 1 ≤ (bT row.length).1 := (by decide : ∀ k ≤ 8, (bT k).1 ≤ 11504223 ∧ 1 ≤ (bT k).1) _ hl
  exact ((h.get e.2 _).neg).mono e.1

def bmR (row : List Rat) (x : BM) : Ro := [("row", ratsD row), ("now", ratsD x.now), ("former", ratsD x.former), ("size", .int x.size), ("gap", .int x.gap), ("last", ratD x.last)]
theorem fn_least (K : CtOk C) (row : List Rat) (hl : row.length ≤ 8) (hr : SzL 35 row) : FnX C "least_recurrence" [ratsD row] (ratsD (told row)) 5 := by
  refine FnX.intro K 42 "least_recurrence" rfl (hl := rfl) (hnd := by decide) (hk := by decide) (hbind := fun pm code doc vs h => by obtain ⟨a, rfl⟩ := len1 h; rfl) (hsc := ⟨rfl, rfl, rfl⟩) (hbody := ?_)
  intro pm code doc L ad
  refine StX.unpack (.tuple (.cons (.ofF (.list (.cons (.glob K K.r1 rfl) .nil))) (.cons (.ofF (.list (.cons (.glob K K.r1 rfl) .nil))) (.cons .int (.cons .int (.cons (.glob K K.r1 rfl) .nil)))))) (.cons (.cons (.cons (.cons (.cons .nil))))) rfl (by walk_at "stos") ?_
  refine StX.for (.rangeN K row.length rfl (.len K rfl (f1 := true) (.of (.name rfl)) (by rw [List.length_map]; omega)) (by omega) (by rw [List.length_map])) (fun i => True) (fun i => bmR row (bmSt row i)) (fun _ => []) trivial ?_ (.nil _) ?_ ?_ ?_
  · exact .cons rfl (.cons rfl (.cons rfl (.cons rfl (.cons rfl (.cons rfl (.nil _))))))
  · intro i; walk_at "stos"
  · intro i item hi _
    obtain ⟨ht, rfl⟩ := range_item hi
    have hi8 : i < 8 := by omega
    have z := bz row hr i (by omega)
    obtain ⟨q1, q2, q3, q4, q5⟩ := bT_fits i hi8
    have hd : Sz (bOff i (bT i).1) (disc row (bmSt row i).now i) := disc_sz hr z.p (by decide) q1
    have l0 := z.l0
    have l1 := z.l1
    have l2 := z.l2
    have zs := z.s
    have hst : bmSt row (i + 1) = bmStep row i (bmSt row i) := rfl
    generalize bmSt row i = x at *
    refine StX.assign (.call K (fn_disc K row x.now i ht (by omega) l0 (by omega) hr z.p (by decide) q1 q3) rfl (.cons (.name rfl) (.cons (.name rfl) (.cons (.name rfl) .nil))) (by decide)) (by walk_at "sto") rfl ?_
    refine StX.iteT (t := decide (disc row x.now i = 0)) (.cmp (.name rfl) (.glob K K.r0 rfl) (.eqr rfl)) (fun h => ?_) fun h => .nil ?_
    · have h0 := of_decide_eq_true h
      refine StX.aug rfl .int .add (by walk_at "sto") rfl (StX.cont ⟨trivial, ?_, .nil _⟩)
      rw [hst, bmStep, if_pos h0]
      exact .cons rfl (.cons rfl (.cons rfl (.cons rfl (.cons rfl (.cons rfl (.nil _))))))
    have h0 := of_decide_eq_false h
    refine StX.assign (.call K (fn_mended K x.now x.former (disc row x.now i / x.last) x.gap (by omega) (by omega) z.p (hd.div z.o) z.f q1 q2 q5) rfl (.cons (.name rfl) (.cons (.call K (fn_rdiv K hd z.o q4 z.ne) rfl (.cons (.name rfl) (.cons (.name rfl) .nil)) (by decide)) (.cons (.name rfl) (.cons (.name rfl) .nil)))) (by decide)) (by walk_at "sto") rfl ?_
    refine StX.iteT (t := decide (2 * x.size ≤ i)) (.cmp (.bin .int (.name rfl) (.mul (.of_left (by decide)))) (.name rfl) (.le (by rw [Bool.eq_iff_iff, decide_eq_true_eq, decide_eq_true_eq]; omega))) (fun h => ?_) fun h => .nil ?_
    · have h1 := of_decide_eq_true h
      refine StX.unpack (.tuple (.cons (.name rfl) (.cons (.name rfl) (.cons (.bin (.bin (.name rfl) .int .add) (.name rfl) .sub) (.cons .int .nil))))) (.cons (.cons (.cons (.cons .nil)))) rfl (by walk_at "stos") (.nil ?_)
      refine StX.assign (.name rfl) (by walk_at "sto") rfl (StX.aug rfl .int .add (by walk_at "sto") rfl (StX.nil ⟨trivial, ?_, .nil _⟩))
      rw [hst, bmStep, if_neg h0, if_pos h1]
      refine .cons rfl (.cons rfl (.cons rfl (.cons ?_ (.cons rfl (.cons rfl (.nil _))))))
      show _ = some (PyData.int ((i + 1 - x.size : Nat) : Int))
      rw [show ((i + 1 - x.size : Nat) : Int) = (i : Int) + 1 - x.size by omega]
      rfl
    · have h1 := of_decide_eq_false h
      refine StX.assign (.name rfl) (by walk_at "sto") rfl (StX.aug rfl .int .add (by walk_at "sto") rfl (StX.nil ⟨trivial, ?_, .nil _⟩))
      rw [hst, bmStep, if_neg h0, if_neg h1]
      exact .cons rfl (.cons rfl (.cons rfl (.cons rfl (.cons rfl (.cons rfl (.nil _))))))
  · intro _
    rw [List.length_map, List.length_range]
    have z := bz row hr row.length hl
    have zs := z.s
    have zl := z.l1
    refine StX.ret (d := ratsD (told row)) (.ofF (.comp (ρc := [("now", ratsD (bmSt row row.length).now)]) (ωc := []) (.rangeM K 1 (bmSt row row.length).size rfl .int (.bin (.name rfl) .int .add) (by omega) (by omega) rfl (by omega)) (by walk_at "blk") ?_ (by simp; omega))) rfl
    intro L1
    rw [told, List.map_map]
    refine CR.map _ _ _ fun i hi => ⟨.nil, ?_⟩
    refine .ife (t := decide (i + 1 < (bmSt row row.length).now.length)) (.cmp (.name rfl) (.lenM K rfl (f1 := true) (.of (.name rfl)) (by omega)) (.lt (by rw [Bool.eq_iff_iff, decide_eq_true_eq, decide_eq_true_eq]; omega))) (fun h => ?_) fun h => ?_
    · have h1 := of_decide_eq_true h
      refine .call K (fn_rneg K _) rfl (.cons (.item (f1 := true) (k := ((1 : Nat) : Int) + i) (.of (.name rfl)) (.name rfl) (by omega) (by omega) ?_) .nil) (by decide)
      rw [show (((1 : Nat) : Int) + i).toNat = i + 1 by omega]
      exact getq h1
    · have h1 := of_decide_eq_false h
      show EvX C _ _ _ _ _ (ratD (-((bmSt row row.length).now.getD (i + 1) 0)))
      rw [List.getD_eq_getElem?_getD, List.getElem?_eq_none (by omega)]
      exact .glob K K.r0 rfl
end Nn

-- part W15
namespace Nn
variable {C : Ct} {env : Env} {ρ : Ro} {ω : Om} {n : Nat}
open PySem (Expr)

local macro_rules | `(tactic| walk_at "cap") => `(tactic| first | exact trivial | exact ⟨⟨rfl, rfl, fun L => ⟨rfl, rfl, nofun⟩, by decide⟩, by walk_at "cap"⟩)
local macro_rules | `(tactic| walk_at "clo") => `(tactic| first | exact trivial | exact ⟨rfl, by walk_at "clo"⟩)
local macro_rules | `(tactic| walk_at "tgt") => `(tactic| first | exact trivial | exact ⟨⟨fun L => .inl rfl, rfl, rfl⟩, by walk_at "tgt"⟩ | exact ⟨⟨fun L => .inr ⟨rfl, rfl⟩, rfl, rfl⟩, by walk_at "tgt"⟩)
local macro_rules | `(tactic| walk_at "blk") => `(tactic| exact Blk.of rfl rfl (by decide) (by walk_at "clo") (by walk_at "cap") (by walk_at "cap") (by walk_at "tgt"))
local macro_rules | `(tactic| walk_at "sto") => `(tactic| first | exact .inl rfl | exact .inr ⟨rfl, rfl⟩)
local macro_rules | `(tactic| walk_at "stos") => `(tactic| first | exact List.forall_mem_nil _ | refine List.forall_mem_cons.mpr (And.intro (And.intro (by walk_at "sto") (by rfl)) (by walk_at "stos")))


abbrev okAt (row steps : List Rat) (k : Nat) : Prop := S steps.length (fun a => steps.getD a 0 * row.getD (k - 1 - a) 0) = row.getD k 0
def obeysP (row steps : List Rat) : Prop := ∀ i, i < row.length - steps.length → okAt row steps (steps.length + i)
theorem fn_obeys (K : CtOk C) (row steps : List Rat) {r p : Nat} (t : Bool) (ht : t = true ↔ obeysP row steps) (hr : row.length ≤ 8) (hs : steps.length ≤ row.length) (sr : SzL r row) (sp : SzL p steps) (r1 : 1 ≤ r) (p1 : 1 ≤ p) (hB : 7 * (p + r + 1) + 1 ≤ BB) :
    FnX C "obeys" [ratsD row, ratsD steps] (.bool t) 4 := by
  refine FnX.intro K 43 "obeys" rfl (hl := rfl) (hnd := by decide) (hk := by decide) (hbind := fun pm code doc vs h => by obtain ⟨a, b, rfl⟩ := len2 h; rfl) (hsc := ⟨rfl, rfl, rfl⟩) (hbody := ?_)
  intro pm code doc L ad
  refine StX.for (.rangeM K steps.length (row.length - steps.length) rfl (.lenM K rfl (f1 := true) (.of (.name rfl)) (by omega)) (.lenM K rfl (f1 := true) (.of (.name rfl)) (by omega)) (by omega) (by omega) rfl (by omega)) (fun i => ∀ j < i, okAt row steps (steps.length + j)) (fun _ => [("row", ratsD row), ("steps", ratsD steps)]) (fun _ => []) (by intro j hj; omega) ?_ (.nil _) ?_ ?_ ?_
  · exact .cons rfl (.cons rfl (.nil _))
  · intro i; walk_at "stos"
  · intro i item hi hJ
    obtain ⟨hlt, rfl⟩ := range_item hi
    obtain ⟨k, hk⟩ : ∃ k, k = steps.length + i := ⟨_, rfl⟩
    refine StX.assign (.glob K K.r0 rfl) (by walk_at "sto") rfl ?_
    have sz : ∀ j, j ≤ 7 → Sz (1 + j * (p + r + 1)) (S j fun a => steps.getD a 0 * row.getD (k - 1 - a) 0) := fun j hj => by
      have := addS_sz (c := 0) (m := 1) (k := p + r) Sz.zero j (f := fun a => steps.getD a 0 * row.getD (k - 1 - a) 0) fun i _ => (sp.get p1 i).mul (sr.get r1 _)
      rwa [show (0 : Rat) + S j (fun a => steps.getD a 0 * row.getD (k - 1 - a) 0) = S j (fun a => steps.getD a 0 * row.getD (k - 1 - a) 0) by grind] at this
    refine StX.for (.enumN K steps 0 ratD (fz := true) rfl (.of (.name rfl)) (.cons (.cons .nil)) rfl) (fun j => True) (fun j => [("number", ratD (S j fun a => steps.getD a 0 * row.getD (k - 1 - a) 0)), ("n", .int k), ("row", ratsD row), ("steps", ratsD steps)]) (fun _ => []) trivial ?_ (.nil _) ?_ ?_ ?_
    · exact .cons rfl (.cons (by rw [hk]; rfl) (.cons rfl (.cons rfl (.nil _))))
    · intro i; walk_at "stos"
    · intro j item hi _
      obtain ⟨hj, rfl⟩ := range_item hi
      have h7 : j ≤ 6 := by omega
      have hj7 : j * (p + r + 1) ≤ 6 * (p + r + 1) := Nat.mul_le_mul_right _ h7
      refine StX.assign (d := ratD (S (j + 1) fun a => steps.getD a 0 * row.getD (k - 1 - a) 0)) (.call K (fn_radd K (sz j (by omega)) ((sp.get p1 j).mul (sr.get r1 (k - 1 - j))) (by omega)) rfl (.cons (.name rfl) (.cons (.call K (fn_rmul K (sp.get p1 j) (sr.get r1 (k - 1 - j)) (by omega)) rfl (.cons (.name rfl) (.cons (.item (f1 := true) (k := (k : Int) - 1 - j) (.of (.name rfl)) (.bin (.bin (.name rfl) .int .sub) (.name rfl) .sub) (by omega) (by omega) ?_) .nil)) (by decide)) .nil)) (by decide)) (by walk_at "sto") rfl (StX.nil ⟨trivial, .cons rfl (.cons rfl (.cons rfl (.cons rfl (.nil _)))), .nil _⟩)
      rw [show ((k : Int) - 1 - j).toNat = k - 1 - j by omega]
      exact getq (by omega)
    · intro _
      rw [List.length_map, List.length_range]
      refine StX.iteT (t := decide (¬ okAt row steps k)) (.cmp (.name rfl) (.item (f1 := true) (.of (.name rfl)) (.name rfl) (by omega) (by omega) (getq (by omega))) (.ner rfl)) (fun h => ?_) fun h => .nil (StX.nil ⟨?_, .cons rfl (.cons rfl (.nil _)), .nil _⟩)
      · have h0 : ¬ okAt row steps k := of_decide_eq_true h
        refine StX.ret .cbool ?_
        have : t = false := by
          cases t with
          | false => rfl
          | true => exact absurd (hk ▸ ht.mp rfl i hlt) h0
        rw [this]
      · have h0 : ¬ ¬ okAt row steps k := of_decide_eq_false h
        intro j hj
        rcases Nat.lt_or_ge j i with q | q
        · exact hJ j q
        · rw [show j = i by omega, ← hk]; exact Decidable.not_not.mp h0
  · intro h
    rw [List.length_map, List.length_range] at h
    refine StX.ret .cbool ?_
    rw [ht.mpr h]

theorem fn_lowest (K : CtOk C) (a b : Int) (hb : b ≠ 0) : FnX C "_law_lowest" [.int a, .int b] (ratD (Rat.divInt a b)) 1 := by
  refine FnX.intro K 49 "_law_lowest" rfl (hl := rfl) (hnd := by decide) (hk := by decide) (hbind := fun pm code doc vs h => by obtain ⟨a, b, rfl⟩ := len2 h; rfl) (hsc := ⟨rfl, rfl, rfl⟩) (hbody := ?_)
  intro pm code doc L ad
  refine StX.swap (xs := ["one", "other"]) (.tuple (.cons (.abs1 K rfl (.name rfl)) (.cons (.abs1 K rfl (.name rfl)) .nil))) rfl (by walk_at "stos") ?_
  refine StX.whileI (σ := Nat × Nat) (fun p => Nat.gcd p.1 p.2 = Int.gcd a b) (fun p => [("one", .int p.1), ("other", .int p.2), ("top", .int a), ("bottom", .int b)]) (fun _ => []) (fun p => p.2) (fun p => decide ((p.2 : Int) ≠ 0)) (a.natAbs, b.natAbs) rfl ?_ (.nil _) ?_ ?_ ?_
  · exact .cons rfl (.cons rfl (.cons rfl (.cons rfl (.nil _))))
  · intro p _
    exact .cmp (.name rfl) .int (.nei rfl)
  · intro p hp ht
    refine StX.swap (xs := ["one", "other"]) (.tuple (.cons (.name rfl) (.cons (.bin (.name rfl) (.name rfl) (.mod (by simpa using ht))) .nil))) rfl (by walk_at "stos") ?_
    refine StX.nil ⟨(p.2, p.1 % p.2), ?_, ?_, ?_, .nil _⟩
    · show Nat.gcd p.2 (p.1 % p.2) = _
      rw [← hp, Nat.gcd_comm p.2, ← Nat.gcd_rec, Nat.gcd_comm]
    · have : p.2 ≠ 0 := by simpa using ht
      exact Nat.mod_lt _ (by omega)
    · refine .cons rfl (.cons ?_ (.cons rfl (.cons rfl (.nil _))))
      show some _ = some _
      rw [Int.fmod_eq_emod_of_nonneg _ (by omega)]; rfl
  · intro p hp ht
    have h2 : p.2 = 0 := by simpa using ht
    have hg1 : p.1 = Int.gcd a b := by rw [h2] at hp; simpa using hp
    have hg : (Int.gcd a b : Int) ≠ 0 := by
      intro h
      have : Int.gcd a b = 0 := by exact_mod_cast h
      exact hb (Int.gcd_eq_zero_iff.mp this).2
    refine StX.assign (d := .int (if b > 0 then (Int.gcd a b : Int) else -(Int.gcd a b : Int))) (.ife (t := decide (b > 0)) (.cmp (.name rfl) .int (.gt rfl)) (fun h => ?_) fun h => ?_) (by walk_at "sto") rfl ?_
    · rw [if_pos (by simpa using h), ← hg1]; exact .name rfl
    · rw [if_neg (by simpa using h), ← hg1]; exact .neg (.name rfl)
    have hg' : (if b > 0 then (Int.gcd a b : Int) else -(Int.gcd a b : Int)) ≠ 0 := by split <;> omega
    exact StX.ret (d := ratD (Rat.divInt a b)) (EvX.cast (.tuple (.cons (.bin (.name rfl) (.name rfl) (.floordiv K hg')) (.cons (.bin (.name rfl) (.name rfl) (.floordiv K hg')) .nil))) (lowest_eq hb)) rfl

theorem less_eq (one other many : Rat) : Rat.divInt (one.num * other.den * many.den - many.num * other.num * one.den) (one.den * other.den * many.den) = one - many * other := by
  rw [mul_divInt]
  conv => rhs; rw [← Rat.num_divInt_den one]
  rw [Rat.divInt_sub_divInt _ _ (by have := one.den_nz; omega) (den_ne _ _)]
  congr 1 <;> grind
theorem fn_less (K : CtOk C) {one other many : Rat} {e m : Nat} (h1 : Sz e one) (h2 : Sz e other) (h3 : Sz m many) (hB : e + e + m ≤ BB) : FnX C "_law_less" [ratD one, ratD other, ratD many] (ratD (one - many * other)) 2 := by
  refine FnX.intro K 48 "_law_less" rfl (hl := rfl) (hnd := by decide) (hk := by decide) (hbind := fun pm code doc vs h => by obtain ⟨a, b, c, rfl⟩ := len3 h; rfl) (hsc := ⟨rfl, rfl, rfl⟩) (hbody := ?_)
  intro pm code doc L ad
  refine StX.assign (.bin (.bin (.bin (.num (.name rfl)) (.den (.name rfl)) (.mul (mulOk h1.1 (dz h2) (by omega)))) (.den (.name rfl)) (.mul (mulOk (mul_lt2 h1.1 (dz h2)) (dz h3) (by omega)))) (.bin (.bin (.num (.name rfl)) (.num (.name rfl)) (.mul (mulOk h3.1 h2.1 (by omega)))) (.den (.name rfl)) (.mul (mulOk (mul_lt2 h3.1 h2.1) (dz h1) (by omega)))) .sub) (by walk_at "sto") rfl ?_
  refine StX.assign (.bin (.bin (.den (.name rfl)) (.den (.name rfl)) (.mul (mulOk (dz h1) (dz h2) (by omega)))) (.den (.name rfl)) (.mul (mulOk (mul_lt2 (dz h1) (dz h2)) (dz h3) (by omega)))) (by walk_at "sto") rfl ?_
  rw [← less_eq]
  exact StX.ret (.call K (fn_lowest K _ _ (Int.mul_ne_zero (den_ne _ _) (by have := many.den_nz; omega))) rfl (.cons (.name rfl) (.cons (.name rfl) .nil)) (by decide)) rfl

def isClear (l : List Rat) : Bool := decide (∀ x ∈ l, x = 0)
theorem ones_nil (l : List Rat) : decide (((l.filter fun q => decide (q.num ≠ 0)).map fun _ => (1 : Int)) = []) = isClear l := by
  rw [Bool.eq_iff_iff]
  simp [isClear, List.filter_eq_nil_iff]
theorem fn_clear (K : CtOk C) (line : List Rat) (k : Nat) (hl : line.length ≤ 900) (hk : k ≤ line.length) : FnX C "_law_is_clear" [ratsD line, .int k] (.bool (isClear (line.take k))) 1 := by
  refine FnX.intro K 50 "_law_is_clear" rfl (hl := rfl) (hnd := by decide) (hk := by decide) (hbind := fun pm code doc vs h => by obtain ⟨a, b, rfl⟩ := len2 h; rfl) (hsc := ⟨rfl, rfl, rfl⟩) (hbody := ?_)
  intro pm code doc L ad
  refine StX.ret (.cmp (d2 := intsD []) (d1 := intsD (((line.take k).filter fun q => decide (q.num ≠ 0)).map fun _ => (1 : Int))) (.ofF (.cast (.comp (ρc := []) (ωc := []) (names := ["one"]) (its := (line.take k).map fun q => [ratD q]) (ds := ((line.take k).filter fun q => decide (q.num ≠ 0)).map fun _ => .int 1) (fz := true) ?_ (by walk_at "blk") ?_ (by simp; omega)) (by rw [List.map_map]; rfl))) (.ofF (.list .nil)) (.eqd (shaped_ints _) (shaped_ints _) (by rw [eqv_ints]))) ?_
  · have : ((line.take k).map fun q => [ratD q]) = (((line.take k).map ratD).map fun d => [d]) := by rw [List.map_map]; rfl
    rw [this]
    refine .list (.ofF (.cast (.slice (f1 := true) (lo := none) (hi := some _) (a := none) (c := some (k : Int)) (.of (.name rfl)) trivial (by exact EvX.name rfl) (by rw [List.length_map]; omega)) ?_))
    rw [slc_take _ (by rw [List.length_map]; exact hk), List.map_take]
  · intro L1
    exact CR.filter _ _ _ _ (fun q _ h => ⟨.one (.cast (.cmp (.num (.name rfl)) .int (.nei rfl)) h), .int⟩) fun q _ h => .one (.cast (.cmp (.num (.name rfl)) .int (.nei rfl)) h)
  · rw [ones_nil]
end Nn

-- part W16
namespace Nn
variable {C : Ct} {env : Env} {ρ : Ro} {ω : Om} {n : Nat}
open PySem (Expr)

local macro_rules | `(tactic| walk_at "cap") => `(tactic| first | exact trivial | exact ⟨⟨rfl, rfl, fun L => ⟨rfl, rfl, nofun⟩, by decide⟩, by walk_at "cap"⟩)
local macro_rules | `(tactic| walk_at "clo") => `(tactic| first | exact trivial | exact ⟨rfl, by walk_at "clo"⟩)
local macro_rules | `(tactic| walk_at "tgt") => `(tactic| first | exact trivial | exact ⟨⟨fun L => .inl rfl, rfl, rfl⟩, by walk_at "tgt"⟩ | exact ⟨⟨fun L => .inr ⟨rfl, rfl⟩, rfl, rfl⟩, by walk_at "tgt"⟩)
local macro_rules | `(tactic| walk_at "blk") => `(tactic| exact Blk.of rfl rfl (by decide) (by walk_at "clo") (by walk_at "cap") (by walk_at "cap") (by walk_at "tgt"))
local macro_rules | `(tactic| walk_at "sto") => `(tactic| first | exact .inl rfl | exact .inr ⟨rfl, rfl⟩)
local macro_rules | `(tactic| walk_at "stos") => `(tactic| first | exact List.forall_mem_nil _ | refine List.forall_mem_cons.mpr (And.intro (And.intro (by walk_at "sto") (by rfl)) (by walk_at "stos")))


theorem S_congr {f g : Nat → Rat} : ∀ k, (∀ i < k, f i = g i) → S k f = S k g
  | 0, _ => rfl
  | k + 1, h => by rw [S, S, S_congr k fun i hi => h i (by omega), h k (by omega)]
theorem S_zero {f : Nat → Rat} (k : Nat) (h : ∀ i < k, f i = 0) : S k f = 0 := by
  induction k with
  | zero => rfl
  | succ k ih => rw [S, ih fun i hi => h i (by omega), h k (by omega)]; grind
theorem S_add (f g : Nat → Rat) : ∀ k, S k (fun i => f i + g i) = S k f + S k g
  | 0 => by simp only [S]; grind
  | k + 1 => by rw [S, S, S, S_add f g k]; grind
theorem S_mul (c : Rat) (f : Nat → Rat) : ∀ k, S k (fun i => c * f i) = c * S k f
  | 0 => by simp only [S]; grind
  | k + 1 => by rw [S, S, S_mul c f k]; grind
theorem S_sub (f g : Nat → Rat) (k : Nat) : S k (fun i => f i - g i) = S k f - S k g := by
  have := S_add f (fun i => (-1) * g i) k
  rw [S_mul] at this
  rw [S_congr (g := fun i => f i + (-1) * g i) k fun i _ => by grind, this]
  grind
theorem S_upd (f : Nat → Rat) (y : Nat → Rat) (k : Nat) (v : Rat) : ∀ n, S n (fun j => f j * (if j = k then v else y j)) = S n (fun j => f j * y j) + (if k < n then f k * (v - y k) else 0)
  | 0 => by simp only [S]; grind
  | n + 1 => by
    rw [S, S, S_upd f y k v n]
    by_cases h : n = k
    · subst h; rw [if_neg (by omega), if_pos rfl, if_pos (by omega)]; grind
    · rw [if_neg h]
      by_cases h2 : k < n
      · rw [if_pos h2, if_pos (by omega)]; grind
      · rw [if_neg h2, if_neg (by omega)]; grind

abbrev Sat (m : Nat) (y : Nat → Rat) (l : List Rat) : Prop := S m (fun j => l.getD j 0 * y j) = l.getD m 0
def LeadAt (c : Nat) (l : List Rat) : Prop := l.getD c 0 ≠ 0 ∧ ∀ j < c, l.getD j 0 = 0
theorem clear_iff {l : List Rat} {c : Nat} (h : c ≤ l.length) : isClear (l.take c) = true ↔ ∀ j < c, l.getD j 0 = 0 := by
  unfold isClear
  rw [decide_eq_true_eq]
  constructor
  · intro k j hj
    rw [List.getD_eq_getElem?_getD, List.getElem?_eq_getElem (by omega)]
    refine k _ ?_
    rw [List.mem_take_iff_getElem]
    exact ⟨j, by omega, rfl⟩
  · intro k x hx
    rw [List.mem_take_iff_getElem] at hx
    obtain ⟨j, hj, rfl⟩ := hx
    have := k j (by omega)
    rwa [List.getD_eq_getElem?_getD, List.getElem?_eq_getElem (by omega)] at this
def lines0 (row : List Rat) (m : Nat) : List (List Rat) := (List.range (row.length - m)).map fun i => ((List.range m).map fun a => row.getD (m + i - 1 - a) 0) ++ [row.getD (m + i) 0]
def lsub (c : Nat) (pv l : List Rat) : List Rat := (l.zip pv).map fun z => z.1 - (l.getD c 0 / pv.getD c 0) * z.2
theorem lsub_get {c m j : Nat} {pv l : List Rat} (h1 : pv.length = m + 1) (h2 : l.length = m + 1) (hj : j ≤ m) : (lsub c pv l).getD j 0 = l.getD j 0 - (l.getD c 0 / pv.getD c 0) * pv.getD j 0 := by
  unfold lsub
  simp only [List.getD_eq_getElem?_getD (l := List.map _ _), List.getElem?_map]
  rw [List.getElem?_eq_getElem (by simp; omega)]
  simp [show j < l.length by omega, show j < pv.length by omega]
theorem lsub_sat {c m : Nat} {pv l : List Rat} {y : Nat → Rat} (h1 : pv.length = m + 1) (h2 : l.length = m + 1) (s1 : Sat m y pv) (s2 : Sat m y (lsub c pv l)) : Sat m y l := by
  unfold Sat at s1 s2 ⊢
  rw [lsub_get h1 h2 (Nat.le_refl _), S_congr (g := fun j => l.getD j 0 * y j - (l.getD c 0 / pv.getD c 0) * (pv.getD j 0 * y j)) m (fun j hj => by rw [lsub_get h1 h2 (by omega)]; grind), S_sub, S_mul, s1] at s2
  grind
def eB : Nat → Nat
  | 0 => 35
  | c + 1 => 4 * eB c + 1
structure EInv (row : List Rat) (m c : Nat) (x : List (List Rat)) : Prop where
  len : x.length = row.length - m
  wid : ∀ i < x.length, (x.getD i []).length = m + 1
  sz : ∀ i < x.length, SzL (eB c) (x.getD i [])
  sol : ∀ y, (∀ i < x.length, Sat m y (x.getD i [])) → ∀ i < row.length - m, Sat m y ((lines0 row m).getD i [])
  ech : ∀ c' < c, ∀ i < x.length, ∀ j < x.length, LeadAt c' (x.getD i []) → LeadAt c' (x.getD j []) → i = j
theorem eB_pos (c : Nat) : 1 ≤ eB c := by
  induction c with
  | zero => decide
  | succ c ih => rw [eB]; omega
theorem elim_step {row : List Rat} {m c a : Nat} {rest : List Nat} {x x' : List (List Rat)} (h : EInv row m c x) (hc : c < m) (hsp : ∀ i, i ∈ a :: rest ↔ i < x.length ∧ LeadAt c (x.getD i [])) (hnd : (a :: rest).Nodup)
    (hl : x'.length = x.length) (hx : ∀ i, x'.getD i [] = if i ∈ rest then lsub c (x.getD a []) (x.getD i []) else x.getD i []) : EInv row m (c + 1) x' := by
  obtain ⟨ha, la⟩ := (hsp a).mp (.head _)
  have hna : a ∉ rest := (List.nodup_cons.mp hnd).1
  have hr : ∀ i ∈ rest, i < x.length ∧ LeadAt c (x.getD i []) := fun i hi => (hsp i).mp (.tail _ hi)
  have wa := h.wid a ha
  have xa : x'.getD a [] = x.getD a [] := by rw [hx, if_neg hna]
  refine ⟨hl.trans h.len, fun i hi => ?_, fun i hi => ?_, fun y hy => ?_, fun c' hc' i hi j hj l1 l2 => ?_⟩
  · rw [hx]
    split
    · have := h.wid i (by omega)
      unfold lsub
      rw [List.length_map, List.length_zip]; omega
    · exact h.wid i (by omega)
  · rw [hx]
    split
    · intro q hq
      obtain ⟨z, hz, rfl⟩ := List.mem_map.mp hq
      have z1 := (List.of_mem_zip hz).1
      have z2 := (List.of_mem_zip hz).2
      have s1 := h.sz i (by omega)
      have s2 := h.sz a ha
      exact ((s1 _ z1).sub (((s1.get (eB_pos c) c).div (s2.get (eB_pos c) c)).mul (s2 _ z2))).mono (by rw [eB]; omega)
    · exact (h.sz i (by omega)).mono (by rw [eB]; omega)
  · refine h.sol y fun i hi => ?_
    by_cases q : i ∈ rest
    · have s := hy i (by omega)
      rw [hx, if_pos q] at s
      exact lsub_sat wa (h.wid i hi) (xa ▸ hy a (by omega)) s
    · have s := hy i (by omega)
      rwa [hx, if_neg q] at s
  · -- leads
    have low : ∀ i, i < x.length → LeadAt c' (x'.getD i []) → i ∉ rest := fun i hi l q => by
      obtain ⟨_, lc⟩ := hr i q
      have wi := h.wid i hi
      apply l.1
      rw [hx, if_pos q, lsub_get wa wi (by omega)]
      rcases Nat.lt_or_ge c' c with k | k
      · rw [lc.2 c' k, la.2 c' k]; grind
      · rw [show c' = c by omega, Rat.div_mul_cancel la.1]; grind
    have n1 := low i (by omega) l1
    have n2 := low j (by omega) l2
    rw [hx, if_neg n1] at l1
    rw [hx, if_neg n2] at l2
    rcases Nat.lt_or_ge c' c with k | k
    · exact h.ech c' k i (by omega) j (by omega) l1 l2
    · have e : c' = c := by omega
      subst e
      have m1 : i ∈ a :: rest := (hsp i).mpr ⟨by omega, l1⟩
      have m2 : j ∈ a :: rest := (hsp j).mpr ⟨by omega, l2⟩
      rcases List.mem_cons.mp m1 with m1 | m1
      · rcases List.mem_cons.mp m2 with m2 | m2
        · rw [m1, m2]
        · exact absurd m2 n2
      · exact absurd m1 n1
theorem elim_skip {row : List Rat} {m c : Nat} {x : List (List Rat)} (h : EInv row m c x) (hsp : ∀ i, i < x.length → ¬ LeadAt c (x.getD i [])) : EInv row m (c + 1) x :=
  ⟨h.len, h.wid, fun i hi => (h.sz i hi).mono (by rw [eB]; omega), h.sol, fun c' hc' i hi j hj l1 l2 => by
    rcases Nat.lt_or_ge c' c with k | k
    · exact h.ech c' k i hi j hj l1 l2
    · rw [show c' = c by omega] at l1; exact absurd l1 (hsp i hi)⟩
theorem elim_sol {row : List Rat} {m : Nat} {x : List (List Rat)} (h : EInv row m m x) (hno : ∀ i < x.length, ¬ LeadAt m (x.getD i [])) : ∀ k, k ≤ m → ∃ y, ∀ i < x.length, (∀ j < m - k, (x.getD i []).getD j 0 = 0) → Sat m y (x.getD i [])
  | 0, _ => ⟨fun _ => 0, fun i hi hc => by
    have h0 : (x.getD i []).getD m 0 = 0 := Decidable.not_not.mp fun q => hno i hi ⟨q, fun j hj => hc j (by omega)⟩
    unfold Sat
    rw [h0]
    exact S_zero _ fun j _ => by grind⟩
  | k + 1, hk => by
    obtain ⟨y, hy⟩ := elim_sol h hno k (by omega)
    by_cases hex : ∃ i, i < x.length ∧ LeadAt (m - (k + 1)) (x.getD i [])
    · obtain ⟨a, ha, la⟩ := hex
      refine ⟨fun j => if j = m - (k + 1) then ((x.getD a []).getD m 0 - S m (fun j => (x.getD a []).getD j 0 * y j)) / (x.getD a []).getD (m - (k + 1)) 0 + y (m - (k + 1)) else y j, fun i hi hc => ?_⟩
      unfold Sat
      rw [S_upd (fun j => (x.getD i []).getD j 0) y, if_pos (by omega)]
      by_cases q : (x.getD i []).getD (m - (k + 1)) 0 = 0
      · have := hy i hi fun j hj => by
          rcases Nat.lt_or_ge j (m - (k + 1)) with w | w
          · exact hc j w
          · rw [show j = m - (k + 1) by omega]; exact q
        unfold Sat at this
        rw [this, q]; grind
      · have e := h.ech (m - (k + 1)) (by omega) i hi a ha ⟨q, hc⟩ la
        subst e
        have := Rat.div_mul_cancel (a := (x.getD i []).getD m 0 - S m (fun j => (x.getD i []).getD j 0 * y j)) la.1
        grind
    · refine ⟨y, fun i hi hc => hy i hi fun j hj => ?_⟩
      rcases Nat.lt_or_ge j (m - (k + 1)) with w | w
      · exact hc j w
      · rw [show j = m - (k + 1) by omega]
        exact Decidable.not_not.mp fun q => hex ⟨i, hi, q, hc⟩
theorem lines0_get {row : List Rat} {m i : Nat} (h : i < row.length - m) : (lines0 row m).getD i [] = ((List.range m).map fun a => row.getD (m + i - 1 - a) 0) ++ [row.getD (m + i) 0] := by
  unfold lines0
  rw [List.getD_eq_getElem?_getD, List.getElem?_map, List.getElem?_range h]; rfl
theorem lines0_at {row : List Rat} {m i j : Nat} (h : i < row.length - m) (hj : j < m) : ((lines0 row m).getD i []).getD j 0 = row.getD (m + i - 1 - j) 0 := by
  rw [lines0_get h, List.getD_eq_getElem?_getD (l := _ ++ _), List.getElem?_append_left (by simpa using hj), List.getElem?_map, List.getElem?_range hj]; rfl
theorem lines0_last {row : List Rat} {m i : Nat} (h : i < row.length - m) : ((lines0 row m).getD i []).getD m 0 = row.getD (m + i) 0 := by
  rw [lines0_get h, List.getD_eq_getElem?_getD (l := _ ++ _), List.getElem?_append_right (by simp)]; simp
/-- no combination gives the row: a bad line is left -/
theorem elim_bad {row : List Rat} {m : Nat} {x : List (List Rat)} (h : EInv row m m x) (hno : ¬ ∃ y : Nat → Rat, ∀ i < row.length - m, S m (fun a => y a * row.getD (m + i - 1 - a) 0) = row.getD (m + i) 0) : ∃ i, i < x.length ∧ LeadAt m (x.getD i []) := by
  refine Classical.byContradiction fun k => hno ?_
  obtain ⟨y, hy⟩ := elim_sol h (fun i hi l => k ⟨i, hi, l⟩) m (Nat.le_refl _)
  refine ⟨y, fun i hi => ?_⟩
  have := h.sol y (fun i hi => hy i hi fun j hj => by omega) i hi
  unfold Sat at this
  rw [lines0_last hi] at this
  rw [← this]
  exact S_congr _ fun j hj => by rw [lines0_at hi hj]; grind
theorem elim_start {row : List Rat} {m : Nat} (hr : SzL 35 row) : EInv row m 0 (lines0 row m) := by
  have hl : (lines0 row m).length = row.length - m := by simp [lines0]
  refine ⟨hl, fun i hi => ?_, fun i hi => ?_, fun y hy i hi => hy i (by omega), fun c' hc' => by omega⟩
  · rw [lines0_get (by omega)]; simp
  · rw [lines0_get (by omega)]
    intro q hq
    rcases List.mem_append.mp hq with hq | hq
    · obtain ⟨a, _, rfl⟩ := List.mem_map.mp hq
      exact hr.get (by decide) _
    · rw [List.mem_singleton.mp hq]; exact hr.get (by decide) _
end Nn

-- part W17
namespace Nn
variable {C : Ct} {env : Env} {ρ : Ro} {ω : Om} {n : Nat}
open PySem (Expr)

local macro_rules | `(tactic| walk_at "cap") => `(tactic| first | exact trivial | exact ⟨⟨rfl, rfl, fun L => ⟨rfl, rfl, nofun⟩, by decide⟩, by walk_at "cap"⟩)
local macro_rules | `(tactic| walk_at "clo") => `(tactic| first | exact trivial | exact ⟨rfl, by walk_at "clo"⟩)
local macro_rules | `(tactic| walk_at "tgt") => `(tactic| first | exact trivial | exact ⟨⟨fun L => .inl rfl, rfl, rfl⟩, by walk_at "tgt"⟩ | exact ⟨⟨fun L => .inr ⟨rfl, rfl⟩, rfl, rfl⟩, by walk_at "tgt"⟩)
local macro_rules | `(tactic| walk_at "blk") => `(tactic| exact Blk.of rfl rfl (by decide) (by walk_at "clo") (by walk_at "cap") (by walk_at "cap") (by walk_at "tgt"))
local macro_rules | `(tactic| walk_at "sto") => `(tactic| first | exact .inl rfl | exact .inr ⟨rfl, rfl⟩)
local macro_rules | `(tactic| walk_at "stos") => `(tactic| first | exact List.forall_mem_nil _ | refine List.forall_mem_cons.mpr (And.intro (And.intro (by walk_at "sto") (by rfl)) (by walk_at "stos")))


theorem getl {p : List (List Rat)} {i : Nat} (h : i < p.length) : (p.map ratsD)[i]? = some (ratsD (p.getD i [])) := by
  rw [List.getElem?_map, List.getElem?_eq_getElem h, List.getD_eq_getElem?_getD, List.getElem?_eq_getElem h]; rfl
theorem slc_tail {α : Type} (xs : List α) : slc xs (some 1) none = xs.drop 1 := by
  have : clipAt xs.length 1 = min 1 xs.length := by unfold clipAt; split <;> omega
  show (xs.drop (clipAt xs.length 1)).take (xs.length - clipAt xs.length 1) = _
  rw [this]
  cases xs with
  | nil => rfl
  | cons a xs => simp
theorem CR.filterT {α : Type} {scope : Scope} {L : Addr} {cl : List (Str × Addr)} {names : List Str} {ρc : Ro} {ωc : Om} {ifs : List Expr} {elt : Expr} (f : α → List PyData) (g : α → PyData) (p : α → Bool) (xs : List α)
    (h : ∀ x ∈ xs, TsX C (cEnv scope L cl env) (upd names (f x) ρc) ωc n ifs (p x)) (k : ∀ x ∈ xs, p x = true → EvX C (cEnv scope L cl env) (upd names (f x) ρc) ωc n elt (g x)) :
    CR (fun item d => TsX C (cEnv scope L cl env) (upd names item ρc) ωc n ifs true ∧ EvX C (cEnv scope L cl env) (upd names item ρc) ωc n elt d) (fun item => TsX C (cEnv scope L cl env) (upd names item ρc) ωc n ifs false) (xs.map f) ((xs.filter p).map g) :=
  CR.filter f g p xs (fun x hx q => ⟨q ▸ h x hx, k x hx q⟩) fun x hx q => q ▸ h x hx
theorem eB_le : ∀ c ≤ 7, eB c ≤ 1000000 := by decide
theorem getD_set {x : List (List Rat)} {i j : Nat} {l : List Rat} (h : j < x.length) : (x.set j l).getD i [] = if i = j then l else x.getD i [] := by
  rw [List.getD_eq_getElem?_getD, List.getElem?_set]
  by_cases q : j = i
  · subst q; rw [if_pos rfl, if_pos rfl, if_pos h]; rfl
  · rw [if_neg q, if_neg (fun w => q w.symm), List.getD_eq_getElem?_getD]
theorem intsN (sp : List Nat) : (sp.map fun (i : Nat) => PyData.int (i : Int)) = (sp.map fun (i : Nat) => (i : Int)).map .int := by rw [List.map_map]; rfl

theorem fn_has (K : CtOk C) (row : List Rat) (m : Nat) (hl : row.length ≤ 8) (hm : m ≤ 7) (hml : m ≤ row.length) (hr : SzL 35 row)
    (hno : ¬ ∃ y : Nat → Rat, ∀ i < row.length - m, S m (fun a => y a * row.getD (m + i - 1 - a) 0) = row.getD (m + i) 0) : FnX C "_law_has_steps" [ratsD row, .int m] (.bool false) 3 := by
  refine FnX.intro K 51 "_law_has_steps" rfl (hl := rfl) (hnd := by decide) (hk := by decide) (hbind := fun pm code doc vs h => by obtain ⟨a, b, rfl⟩ := len2 h; rfl) (hsc := ⟨rfl, rfl, rfl⟩) (hbody := ?_)
  intro pm code doc L ad
  have hl0 : (lines0 row m).length = row.length - m := by simp [lines0]
  refine StX.assignComp (ds := (lines0 row m).map ratsD) (ρc := [("row", ratsD row), ("size", .int m)]) (ωc := []) (.rangeM K m (row.length - m) rfl (.name rfl) (.lenM K rfl (f1 := true) (.of (.name rfl)) (by omega)) (by omega) (by omega) rfl (by omega)) (by walk_at "blk") ?_ (by simp; omega) (by walk_at "sto") rfl ?_
  · intro L1
    rw [lines0, List.map_map]
    refine CR.map _ _ _ fun i hi => ⟨.nil, ?_⟩
    have hi' := mem_range' hi
    refine .cast (.ofF (.cat (f1 := true) (f2 := true) (.ofF (.comp (ρc := [("n", .int ((m : Int) + i)), ("row", ratsD row)]) (ωc := []) (ds := (List.range m).map fun a => ratD (row.getD (m + i - 1 - a) 0)) (.rangeN K m rfl (.name rfl) (by omega) rfl) (by walk_at "blk") ?_ (by simp; omega))) (.ofF (.list (.cons (.item (f1 := true) (d := ratD (row.getD (m + i) 0)) (.of (.name rfl)) (.name rfl) (by omega) (by omega) ?_) .nil))) (by simp; omega))) (by simp [ratsD])
    · intro L2
      refine CR.map _ _ _ fun a ha => ⟨.nil, ?_⟩
      have ha' := mem_range' ha
      refine .item (f1 := true) (k := (m : Int) + i - 1 - a) (.of (.name rfl)) (.bin (.bin (.name rfl) .int .sub) (.name rfl) .sub) (by omega) (by omega) ?_
      rw [show ((m : Int) + i - 1 - a).toNat = m + i - 1 - a by omega]
      exact getq (by omega)
    · rw [show ((m : Int) + i).toNat = m + i by omega]
      exact getq (by omega)
  refine StX.forI (.rangeN K m rfl (.name rfl) (by omega) rfl) (fun c x => EInv row m c x) (fun _ => [("size", .int m)]) (fun x => [("rows", x.map ratsD)]) (lines0 row m) (elim_start hr) ?_ ?_ ?_ ?_ ?_
  · exact .cons rfl (.nil _)
  · exact .cons rfl (.nil _)
  · intro x; walk_at "stos"
  · intro c item x hit h
    obtain ⟨hc, rfl⟩ := range_item hit
    have hxl := h.len
    obtain ⟨p, hp⟩ : ∃ p : Nat → Bool, p = fun i => decide (((x.getD i []).getD c 0).num ≠ 0) && isClear ((x.getD i []).take c) := ⟨_, rfl⟩
    have hpi : ∀ i, i < x.length → (p i = true ↔ LeadAt c (x.getD i [])) := fun i hi => by
      have := h.wid i hi
      rw [hp]
      simp only [Bool.and_eq_true, decide_eq_true_eq]
      rw [clear_iff (by omega)]
      unfold LeadAt
      rw [Ne, Rat.num_eq_zero]
    obtain ⟨sp, hsp⟩ : ∃ sp, sp = (List.range x.length).filter p := ⟨_, rfl⟩
    have hmem : ∀ i, i ∈ sp ↔ i < x.length ∧ LeadAt c (x.getD i []) := fun i => by
      rw [hsp, List.mem_filter, List.mem_range]
      exact ⟨fun ⟨a, b⟩ => ⟨a, (hpi i a).mp b⟩, fun ⟨a, b⟩ => ⟨a, (hpi i a).mpr b⟩⟩
    have hnd : sp.Nodup := by rw [hsp]; exact List.nodup_range.filter _
    have hsl : sp.length ≤ 8 := by
      have : sp.length ≤ (List.range x.length).length := by rw [hsp]; exact List.length_filter_le _ _
      rw [List.length_range] at this; omega
    refine StX.assignComp (ds := sp.map fun (i : Nat) => PyData.int (i : Int)) (ρc := [("column", .int c)]) (ωc := []) (.enumN K x [] ratsD (fz := false) rfl (.own rfl) (.cons (.cons .nil)) rfl) (by walk_at "blk") ?_ (by simp; omega) (by walk_at "sto") rfl ?_
    · intro L1
      rw [hsp]
      refine CR.filterT _ _ p _ (fun i hi => ?_) fun i hi _ => .name rfl
      · have hi' := mem_range' hi
        have hw := h.wid i hi'
        rw [hp]
        exact .one (.and (.cmp (.num (.item (f1 := true) (.of (.name rfl)) (.name rfl) (by omega) (by omega) (getq (by omega)))) .int (.nei rfl)) fun _ => .val (.call K (fn_clear K (x.getD i []) c (by omega) (by omega)) rfl (.cons (.name rfl) (.cons (.name rfl) .nil)) (by decide)))
    refine StX.freeze (x := "spots") rfl ?_
    refine StX.iteT (t := decide (sp = [])) (.cmp (d1 := intsD (sp.map fun (i : Nat) => (i : Int))) (.cast (.name rfl) (by rw [intsN])) (d2 := intsD []) (.ofF (.list .nil)) (.eqd (shaped_ints _) (shaped_ints _) (by rw [eqv_ints]; simp))) (fun ht => ?_) fun ht => .nil ?_
    · have h0 : sp = [] := of_decide_eq_true ht
      refine StX.cont ⟨x, elim_skip h fun i hi l => ?_, .cons rfl (.nil _), .cons rfl (.nil _)⟩
      have := (hmem i).mpr ⟨hi, l⟩
      rw [h0] at this
      simp at this
    have h0 : sp ≠ [] := of_decide_eq_false ht
    obtain ⟨a, rest, hcs⟩ : ∃ a rest, sp = a :: rest := by
      cases hs : sp with
      | nil => exact absurd hs h0
      | cons a rest => exact ⟨a, rest, rfl⟩
    rw [hcs] at hmem hnd hsl
    rw [hcs]
    rw [List.length_cons] at hsl
    obtain ⟨ha, la⟩ := (hmem a).mp (.head _)
    have wa := h.wid a ha
    have sa := h.sz a ha
    have e7 := eB_le c (by omega)
    have ep := eB_pos c
    refine StX.assign (d := ratsD (x.getD a [])) (.item (f1 := false) (k := (a : Int)) (.own rfl) (.item (f1 := true) (k := 0) (.of (.name rfl)) .int (by decide) (by decide) rfl) (by omega) (by omega) (getl (by omega))) (by walk_at "sto") rfl ?_
    have hit2 : ∀ {ρ : Ro} {ω : Om} {b p1 p2 p3 p4 p5 : Pos} {k1 : Nat}, ρ.lookup ("spots" : Str) = some (.list ((a :: rest).map fun (i : Nat) => PyData.int (i : Int))) → ItX C (fenv 51 pm code doc L ad) ρ ω 2 true (.Name "at" p1) ["at"] (.Subscript (.Name "spots" p2) (.Slice (some (.Constant (.int 1) k1 p3)) none none p4) p5) (rest.map fun (i : Nat) => [PyData.int (i : Int)]) := by
      intro ρ ω b p1 p2 p3 p4 p5 k1 hρ
      have := ItX.list (C := C) (env := fenv 51 pm code doc L ad) (n := 2) (ρ := ρ) (ω := ω) (x := "at") (p := p1) (fz := true) (.ofF (.slice (f1 := true) (lo := some (.Constant (.int 1) k1 p3)) (hi := none) (a := some 1) (c := none) (p2 := p4) (pos := p5) (p1 := p2) (.of (.name hρ)) (by exact EvX.int) trivial (by simp; omega)))
      rw [slc_tail] at this
      have e : ((((a :: rest).map fun (i : Nat) => PyData.int (i : Int)).drop 1).map fun d => [d]) = rest.map fun (i : Nat) => [PyData.int (i : Int)] := by simp [Function.comp_def]
      rwa [e] at this
    refine StX.forI (its := rest.map fun (i : Nat) => [PyData.int (i : Int)]) (hit2 (b := ⟨0,0,0,0⟩) rfl) (fun t (x' : List (List Rat)) => x'.length = x.length ∧ ∀ i, x'.getD i [] = if i ∈ rest.take t then lsub c (x.getD a []) (x.getD i []) else x.getD i []) (fun _ => [("pivot", ratsD (x.getD a [])), ("column", .int c), ("size", .int m)]) (fun x => [("rows", x.map ratsD)]) x ⟨rfl, fun i => by simp⟩ ?_ ?_ ?_ ?_ ?_
    · exact .cons rfl (.cons rfl (.cons rfl (.nil _)))
    · exact .cons rfl (.nil _)
    · intro x; walk_at "stos"
    · rintro t item x' hit ⟨hl', hx'⟩
      rw [List.getElem?_map, Option.map_eq_some_iff] at hit
      obtain ⟨b, hb, rfl⟩ := hit
      obtain ⟨ht', hbt⟩ := List.getElem?_eq_some_iff.mp hb
      have hbr : b ∈ rest := by rw [← hbt]; exact List.getElem_mem ht'
      obtain ⟨hbl, lb⟩ := (hmem b).mp (.tail _ hbr)
      have hnt : b ∉ rest.take t := by
        intro q
        rw [List.mem_take_iff_getElem] at q
        obtain ⟨j, hj, e⟩ := q
        have := (List.nodup_cons.mp hnd).2
        rw [List.nodup_iff_pairwise_ne, List.pairwise_iff_getElem] at this
        exact this j t (by omega) (by omega) (by omega) (e.trans hbt.symm)
      have xb : x'.getD b [] = x.getD b [] := by rw [hx', if_neg hnt]
      have wb := h.wid b hbl
      have sb := h.sz b hbl
      have xrow : (x'.map ratsD)[((b : Nat) : Int).toNat]? = some (ratsD (x.getD b [])) := by
        rw [show ((b : Nat) : Int).toNat = b by omega, getl (by omega), xb]
      have gb := sb.get ep c
      have ga := sa.get ep c
      have hq := gb.div ga
      refine StX.assign (d := ratD ((x.getD b []).getD c 0 / (x.getD a []).getD c 0)) ?_ (by walk_at "sto") rfl ?_
      · rw [div_divInt]
        refine .call K (fn_lowest K _ _ (Int.mul_ne_zero (by have := ((x.getD b []).getD c 0).den_nz; omega) (fun q => la.1 (Rat.num_eq_zero.mp q)))) rfl (.cons (.bin (.num (.item (f1 := true) (.of (.item (f1 := false) (.own rfl) (.name rfl) (by omega) (by omega) xrow)) (.name rfl) (by omega) (by omega) (getq (by omega)))) (.den (.item (f1 := true) (.of (.name rfl)) (.name rfl) (by omega) (by omega) (getq (by omega)))) (.mul (mulOk gb.1 (dz ga) (by unfold BB; omega))))
          (.cons (.bin (.den (.item (f1 := true) (.of (.item (f1 := false) (.own rfl) (.name rfl) (by omega) (by omega) xrow)) (.name rfl) (by omega) (by omega) (getq (by omega)))) (.num (.item (f1 := true) (.of (.name rfl)) (.name rfl) (by omega) (by omega) (getq (by omega)))) (.mul (mulOk (dz gb) ga.1 (by unfold BB; omega)))) .nil)) (by decide)
      refine StX.setItem (x := "rows") (d := ratsD (lsub c (x.getD a []) (x.getD b []))) (j := (b : Int)) rfl (.cast (.ofF (.comp (fz := false) (names := ["one", "other"]) (its := ((x.getD b []).zip (x.getD a [])).map fun z => [ratD z.1, ratD z.2]) (ρc := [("many", ratD ((x.getD b []).getD c 0 / (x.getD a []).getD c 0))]) (ωc := []) (ds := ((x.getD b []).zip (x.getD a [])).map fun z => ratD (z.1 - ((x.getD b []).getD c 0 / (x.getD a []).getD c 0) * z.2)) ?_ (by walk_at "blk") ?_ (by rw [List.length_map, List.length_zip]; omega))) (by unfold lsub; simp [ratsD])) (.name rfl) (by omega) (by rw [List.length_map]; omega) (by rw [List.length_map]; omega) ?_
      · have hz : (((x.getD b []).map ratD).zip ((x.getD a []).map ratD)).map (fun p => [p.1, p.2]) = ((x.getD b []).zip (x.getD a [])).map fun z => [ratD z.1, ratD z.2] := by
          rw [List.zip_map, List.map_map]; rfl
        rw [← hz]
        exact .zip K rfl (f1 := true) (f2 := true) (.of (.item (f1 := false) (.own rfl) (.name rfl) (by omega) (by omega) xrow)) (.of (.name rfl)) (.cons (.cons .nil)) rfl
      · intro L1
        refine CR.map _ _ _ fun z hz => ⟨.nil, ?_⟩
        have z1 := (List.of_mem_zip hz).1
        have z2 := (List.of_mem_zip hz).2
        exact .call K (fn_less K (sb _ z1) (sa _ z2) hq (by unfold BB; omega)) rfl (.cons (.name rfl) (.cons (.name rfl) (.cons (.name rfl) .nil))) (by decide)
      refine StX.nil ⟨x'.set b (lsub c (x.getD a []) (x.getD b [])), ⟨by rw [List.length_set]; exact hl', fun i => ?_⟩, .cons rfl (.cons rfl (.cons rfl (.nil _))), .cons ?_ (.nil _)⟩
      · rw [getD_set (by omega)]
        by_cases q : i = b
        · subst q
          rw [if_pos rfl, if_pos]
          rw [List.mem_take_iff_getElem]
          exact ⟨t, by omega, hbt⟩
        · rw [if_neg q, hx']
          have : i ∈ rest.take (t + 1) ↔ i ∈ rest.take t := by
            rw [List.take_add_one, List.mem_append, hb]
            simp [q]
          simp only [this]
      · rw [lookup_cons, if_pos rfl, List.map_set, show ((b : Nat) : Int).toNat = b by omega]
    · rintro x' ⟨hl', hx'⟩
      rw [List.length_map, List.take_length] at hx'
      exact StX.nil ⟨x', elim_step h hc hmem hnd hl' hx', .cons rfl (.nil _), .cons rfl (.nil _)⟩
  · intro x h
    rw [List.length_map, List.length_range] at h
    have hxl := h.len
    obtain ⟨i0, hi0, l0⟩ := elim_bad h hno
    obtain ⟨p, hp⟩ : ∃ p : Nat → Bool, p = fun i => decide (((x.getD i []).getD m 0).num ≠ 0) && isClear ((x.getD i []).take m) := ⟨_, rfl⟩
    have hits : ∀ {ρ : Ro} {p1 p2 : Pos}, ItX C (fenv 51 pm code doc L ad) ρ [("rows", x.map ratsD)] 2 false (.Name "line" p1) ["line"] (.Name "rows" p2) ((List.range x.length).map fun i => [ratsD (x.getD i [])]) := by
      intro ρ p1 p2
      have := ItX.list (C := C) (env := fenv 51 pm code doc L ad) (n := 2) (ρ := ρ) (ω := [("rows", x.map ratsD)]) (x := "line") (p := p1) (fz := false) (e := .Name "rows" p2) (.own rfl)
      have e : ((x.map ratsD).map fun d => [d]) = (List.range x.length).map fun i => [ratsD (x.getD i [])] := by
        apply List.ext_getElem
        · simp
        · intro i h1 h2
          simp at h1
          simp [h1]
      rwa [e] at this
    refine StX.ret (d := .bool (decide ((((List.range x.length).filter p).map fun _ => (1 : Int)) = []))) (.cmp (d1 := intsD (((List.range x.length).filter p).map fun _ => (1 : Int))) (.cast (.ofF (.comp (ρc := [("size", .int m)]) (ωc := []) (ds := ((List.range x.length).filter p).map fun _ => .int 1) hits (by walk_at "blk") ?_ (by simp; omega))) (by simp [intsD])) (d2 := intsD []) (.ofF (.list .nil)) (.eqd (shaped_ints _) (shaped_ints _) (by rw [eqv_ints]))) ?_
    · intro L1
      refine CR.filterT _ _ p _ (fun i hi => ?_) fun i hi _ => .int
      · have hi' := mem_range' hi
        have hw := h.wid i hi'
        rw [hp]
        refine .one (.and (.cmp (.num (.item (f1 := true) (.of (.name rfl)) (.name rfl) (by omega) (by omega) (getq (by omega)))) .int (.nei rfl)) fun _ => .cmp (d1 := intsD ((((x.getD i []).take m).filter fun q => decide (q.num ≠ 0)).map fun _ => (1 : Int))) (.cast (.ofF (.comp (ρc := []) (ωc := []) (names := ["one"]) (fz := true) (its := ((x.getD i []).take m).map fun q => [ratD q]) (ds := (((x.getD i []).take m).filter fun q => decide (q.num ≠ 0)).map fun _ => .int 1) ?_ (by walk_at "blk") ?_ (by simp; omega))) (by simp [intsD])) (d2 := intsD []) (.ofF (.list .nil)) (.eqd (shaped_ints _) (shaped_ints _) (by rw [eqv_ints, ones_nil])))
        · have e : (((x.getD i []).take m).map fun q => [ratD q]) = ((((x.getD i []).take m).map ratD).map fun d => [d]) := by rw [List.map_map]; rfl
          rw [e]
          refine .list (.ofF (.cast (.slice (f1 := true) (lo := none) (hi := some _) (a := none) (c := some (m : Int)) (.of (.name rfl)) trivial (by exact EvX.name rfl) (by rw [List.length_map]; omega)) ?_))
          rw [slc_take _ (by rw [List.length_map]; omega), List.map_take]
        · intro L2
          exact CR.filter _ _ _ _ (fun q _ h => ⟨.one (.cast (.cmp (.num (.name rfl)) .int (.nei rfl)) h), .int⟩) fun q _ h => .one (.cast (.cmp (.num (.name rfl)) .int (.nei rfl)) h)
    · congr 2
      rw [decide_eq_false]
      intro q
      have hw := h.wid i0 hi0
      have : i0 ∈ (List.range x.length).filter p := by
        rw [List.mem_filter, List.mem_range, hp]
        refine ⟨hi0, ?_⟩
        simp only [Bool.and_eq_true, decide_eq_true_eq]
        rw [clear_iff (by omega), Ne, Rat.num_eq_zero]
        exact l0
      rw [List.map_eq_nil_iff.mp q] at this
      simp at this
end Nn

-- part W18
namespace Nn
variable {C : Ct} {env : Env} {ρ : Ro} {ω : Om} {n : Nat}
open PySem (Expr)

local macro_rules | `(tactic| walk_at "cap") => `(tactic| first | exact trivial | exact ⟨⟨rfl, rfl, fun L => ⟨rfl, rfl, nofun⟩, by decide⟩, by walk_at "cap"⟩)
local macro_rules | `(tactic| walk_at "clo") => `(tactic| first | exact trivial | exact ⟨rfl, by walk_at "clo"⟩)
local macro_rules | `(tactic| walk_at "tgt") => `(tactic| first | exact trivial | exact ⟨⟨fun L => .inl rfl, rfl, rfl⟩, by walk_at "tgt"⟩ | exact ⟨⟨fun L => .inr ⟨rfl, rfl⟩, rfl, rfl⟩, by walk_at "tgt"⟩)
local macro_rules | `(tactic| walk_at "blk") => `(tactic| exact Blk.of rfl rfl (by decide) (by walk_at "clo") (by walk_at "cap") (by walk_at "cap") (by walk_at "tgt"))
local macro_rules | `(tactic| walk_at "sto") => `(tactic| first | exact .inl rfl | exact .inr ⟨rfl, rfl⟩)
local macro_rules | `(tactic| walk_at "stos") => `(tactic| first | exact List.forall_mem_nil _ | refine List.forall_mem_cons.mpr (And.intro (And.intro (by walk_at "sto") (by rfl)) (by walk_at "stos")))


theorem S_front (f : Nat → Rat) : ∀ k, S (k + 1) f = f 0 + S k (fun i => f (i + 1))
  | 0 => by simp only [S]; grind
  | k + 1 => by rw [S, S_front f k, S]; grind
theorem S_trunc {f : Nat → Rat} {m k : Nat} (h : m ≤ k) (h0 : ∀ i, m ≤ i → i < k → f i = 0) : S k f = S m f := by
  induction k with
  | zero => rw [show m = 0 by omega]
  | succ k ih =>
    by_cases e : m = k + 1
    · rw [e]
    · rw [S, ih (by omega) fun i a b => h0 i a (by omega), h0 k (by omega) (by omega)]; grind
theorem S_shift (f : Nat → Rat) (g : Nat) : ∀ m, S (g + m) (fun i => if g ≤ i then f (i - g) else 0) = S m f
  | 0 => S_zero _ fun i hi => if_neg (by omega)
  | m + 1 => by
    rw [show g + (m + 1) = (g + m) + 1 by omega, S, S_shift f g m, if_pos (by omega), S, show g + m - g = m by omega]
theorem S_swap (F : Nat → Nat → Rat) (k : Nat) : ∀ m, S m (fun i => S k (fun j => F i j)) = S k (fun j => S m (fun i => F i j))
  | 0 => by rw [S]; exact (S_zero _ fun _ _ => rfl).symm
  | m + 1 => by
    rw [S, S_swap F k m, ← S_add]
    rfl

abbrev Win (c : Nat → Rat) (m : Nat) (s : Nat → Rat) (k : Nat) : Rat := S (m + 1) (fun i => c i * s (k - i))
theorem win_ext {c s : Nat → Rat} {m m' k : Nat} (h : m ≤ m') (hc : ∀ i, m < i → c i = 0) : Win c m' s k = Win c m s k :=
  S_trunc (by omega) fun i a _ => by rw [hc i (by omega)]; grind
/-- what fails at n' asks for length -/
theorem massey {b c s : Nat → Rat} {L' l n' : Nat} (hl : l + L' ≤ n') (hb : ∀ k, L' ≤ k → k < n' → Win b L' s k = 0) (h0 : c 0 = 1) (hc : ∀ k, l ≤ k → k ≤ n' → Win c l s k = 0) : Win b L' s n' = 0 := by
  have e1 : S (l + 1) (fun i => c i * Win b L' s (n' - i)) = Win b L' s n' := by
    rw [S_front, h0]
    rw [S_zero l fun i hi => by rw [hb (n' - (i + 1)) (by omega) (by omega)]; grind]
    rw [Nat.sub_zero]; grind
  have e2 : S (L' + 1) (fun j => b j * Win c l s (n' - j)) = 0 := S_zero _ fun j hj => by rw [hc (n' - j) (by omega) (by omega)]; grind
  rw [← e1, ← e2]
  have f1 : S (l + 1) (fun i => c i * Win b L' s (n' - i)) = S (l + 1) (fun i => S (L' + 1) (fun j => c i * b j * s (n' - i - j))) := S_congr _ fun i _ => by
    rw [Win, ← S_mul]; exact S_congr _ fun j _ => by grind
  have f2 : S (L' + 1) (fun j => b j * Win c l s (n' - j)) = S (L' + 1) (fun j => S (l + 1) (fun i => c i * b j * s (n' - i - j))) := S_congr _ fun j _ => by
    rw [Win, ← S_mul]; exact S_congr _ fun i _ => by rw [show n' - j - i = n' - i - j by omega]; grind
  rw [f1, f2, S_swap]

abbrev at0 (p : List Rat) : Nat → Rat := fun i => p.getD i 0
structure BMI (row : List Rat) (k : Nat) (x : BM) : Prop where
  c0 : x.now.getD 0 0 = 1
  l0 : 0 < x.now.length
  deg : ∀ i, x.size < i → x.now.getD i 0 = 0
  gen : ∀ j, x.size ≤ j → j < k → Win (at0 x.now) x.size (at0 row) j = 0
  le : x.size ≤ k
  gap : 0 < x.gap
  last : x.last ≠ 0
  old : (x.size = 0 ∧ x.gap = k + 1 ∧ x.former = [1] ∧ x.last = 1) ∨
    ∃ n' L', n' < k ∧ x.gap + n' = k ∧ x.size + L' = n' + 1 ∧ L' ≤ n' ∧ (∀ i, L' < i → x.former.getD i 0 = 0) ∧ (∀ j, L' ≤ j → j < n' → Win (at0 x.former) L' (at0 row) j = 0) ∧ Win (at0 x.former) L' (at0 row) n' = x.last
theorem disc_win {row pol : List Rat} {L k : Nat} (c0 : pol.getD 0 0 = 1) (l0 : 0 < pol.length) (deg : ∀ i, L < i → pol.getD i 0 = 0) (h : L ≤ k) : disc row pol k = Win (at0 pol) L (at0 row) k := by
  have hd : ∀ i, pol.length ≤ i → pol.getD i 0 = 0 := fun i hi => by rw [List.getD_eq_getElem?_getD, List.getElem?_eq_none hi]; rfl
  rw [← win_ext (m' := k) h deg, Win, S_front, disc]
  show _ = pol.getD 0 0 * row.getD (k - 0) 0 + _
  rw [c0, Nat.sub_zero]
  rw [← S_trunc (k := k) (m := min k (pol.length - 1)) (f := fun b => pol.getD (b + 1) 0 * row.getD (k - (b + 1)) 0) (Nat.min_le_left _ _) fun i a b => by rw [hd (i + 1) (by omega)]; grind]
  grind
theorem mend_get (pol former : List Rat) (q : Rat) (gap i : Nat) : (mend pol q former gap).getD i 0 = pol.getD i 0 - q * (if gap ≤ i then former.getD (i - gap) 0 else 0) := by
  have hd : ∀ (p : List Rat) i, p.length ≤ i → p.getD i 0 = 0 := fun p i hi => by rw [List.getD_eq_getElem?_getD, List.getElem?_eq_none hi]; rfl
  rcases Nat.lt_or_ge i (max pol.length (former.length + gap)) with h | h
  · unfold mend
    rw [mendT_get h]
    by_cases h1 : gap ≤ i
    · by_cases h2 : i < gap + former.length
      · rw [if_pos ⟨h1, h2⟩, if_pos h1]
      · rw [if_neg (by omega), if_pos h1, hd former _ (by omega)]; grind
    · rw [if_neg (by omega), if_neg h1]; grind
  · rw [hd _ _ (by rw [mend_len]; exact h), hd pol _ (by omega)]
    split
    · rw [hd former _ (by omega)]; grind
    · grind
/-- the mended polynomial over the row -/
theorem mend_win {row pol former : List Rat} {q : Rat} {gap L L' M k : Nat} (deg : ∀ i, L < i → pol.getD i 0 = 0) (deg' : ∀ i, L' < i → former.getD i 0 = 0) (hL : L ≤ M) (hL' : gap + L' ≤ M) (hk : M ≤ k) :
    Win (at0 (mend pol q former gap)) M (at0 row) k = Win (at0 pol) L (at0 row) k - q * Win (at0 former) L' (at0 row) (k - gap) := by
  rw [← win_ext (m := L) (m' := M) hL deg]
  have e : Win (at0 former) L' (at0 row) (k - gap) = S (M + 1) (fun i => if gap ≤ i then former.getD (i - gap) 0 * row.getD (k - gap - (i - gap)) 0 else 0) := by
    rw [S_trunc (m := gap + (L' + 1)) (k := M + 1) (by omega) fun i a b => by rw [if_pos (by omega), deg' (i - gap) (by omega)]; grind]
    exact (S_shift (fun j => former.getD j 0 * row.getD (k - gap - j) 0) gap (L' + 1)).symm
  rw [e, ← S_mul, Win, Win, ← S_sub]
  refine S_congr _ fun i hi => ?_
  show (mend pol q former gap).getD i 0 * row.getD (k - i) 0 = pol.getD i 0 * row.getD (k - i) 0 - q * _
  rw [mend_get]
  split
  · rw [show k - gap - (i - gap) = k - i by omega]; grind
  · grind
theorem mend_deg {pol former : List Rat} {q : Rat} {gap L L' M : Nat} (deg : ∀ i, L < i → pol.getD i 0 = 0) (deg' : ∀ i, L' < i → former.getD i 0 = 0) (hL : L ≤ M) (hL' : gap + L' ≤ M) : ∀ i, M < i → (mend pol q former gap).getD i 0 = 0 := fun i hi => by
  rw [mend_get, deg i (by omega)]
  split
  · rw [deg' _ (by omega)]; grind
  · grind

theorem BMI.step {row : List Rat} {k : Nat} {x : BM} (h : BMI row k x) : BMI row (k + 1) (bmStep row k x) := by
  have hd := disc_win (row := row) h.c0 h.l0 h.deg h.le
  have hle := h.le
  have hgap := h.gap
  unfold bmStep
  split
  · rename_i h0
    refine ⟨h.c0, h.l0, h.deg, fun j h1 h2 => ?_, by dsimp only; omega, by dsimp only; omega, h.last, ?_⟩
    · rcases Nat.lt_or_ge j k with q | q
      · exact h.gen j h1 q
      · rw [show j = k by omega, ← hd, h0]
    · rcases h.old with ⟨a, b, c, d⟩ | ⟨n', L', a, b, c, d, e, f, g⟩
      · exact .inl ⟨a, by dsimp only; omega, c, d⟩
      · exact .inr ⟨n', L', by omega, by dsimp only; omega, c, d, e, f, g⟩
  · rename_i h0
    have m0 : ∀ q, (mend x.now q x.former x.gap).getD 0 0 = 1 := fun q => by rw [mend_get, if_neg (by omega), h.c0]; grind
    have ml : ∀ q, 0 < (mend x.now q x.former x.gap).length := fun q => by rw [mend_len]; have := h.l0; omega
    rcases h.old with ⟨a, b, c, d⟩ | ⟨n', L', a, b, c, d, e, f, g⟩
    · have hdeg' : ∀ i, 0 < i → x.former.getD i 0 = 0 := fun i hi => by
        rw [c, List.getD_eq_getElem?_getD, List.getElem?_eq_none (by simp; omega)]; rfl
      rw [if_pos (by omega)]
      refine ⟨m0 _, ml _, mend_deg (L := x.size) (L' := 0) h.deg hdeg' (by dsimp only; omega) (by dsimp only; omega), fun j h1 h2 => by dsimp only at h1; omega, by dsimp only; omega, Nat.one_pos, h0, .inr ⟨k, 0, by omega, by dsimp only; omega, by dsimp only; omega, by omega, fun i hi => h.deg i (by omega), fun j h1 h2 => ?_, ?_⟩⟩
      · have := h.gen j (by omega) h2
        rwa [a] at this
      · dsimp only
        rw [hd, a]
    · have win : ∀ M, x.size ≤ M → k + 1 - x.size ≤ M → ∀ j, M ≤ j → j < k + 1 → Win (at0 (mend x.now (disc row x.now k / x.last) x.former x.gap)) M (at0 row) j = 0 := fun M h1 h2 j h3 h4 => by
        rw [mend_win (L := x.size) (L' := L') h.deg e h1 (by omega) h3]
        rcases Nat.lt_or_ge j k with q | q
        · rw [h.gen j (by omega) q, f (j - x.gap) (by omega) (by omega)]; grind
        · rw [show j = k by omega, ← hd, show k - x.gap = n' by omega, g, Rat.div_mul_cancel h.last]; grind
      split
      · rename_i h2
        refine ⟨m0 _, ml _, mend_deg (L := x.size) (L' := L') h.deg e (by dsimp only; omega) (by dsimp only; omega), win _ (by dsimp only; omega) (by dsimp only; omega), by dsimp only; omega, Nat.one_pos, h0, .inr ⟨k, x.size, by omega, by dsimp only; omega, by dsimp only; omega, by omega, h.deg, fun j a b => h.gen j a b, ?_⟩⟩
        dsimp only
        rw [hd]
      · rename_i h2
        exact ⟨m0 _, ml _, mend_deg (L := x.size) (L' := L') h.deg e (by dsimp only; omega) (by dsimp only; omega), win _ (by dsimp only; omega) (by dsimp only; omega), by dsimp only; omega, by dsimp only; omega, h.last, .inr ⟨n', L', by omega, by dsimp only; omega, c, d, e, f, g⟩⟩
theorem bmi (row : List Rat) : ∀ k, BMI row k (bmSt row k)
  | 0 => ⟨rfl, (by decide : 0 < 1), fun i hi => by
      rw [show (bmSt row 0).now = [1] from rfl, List.getD_eq_getElem?_getD, List.getElem?_eq_none (by simp; omega)]; rfl, fun j a b => by omega, Nat.le_refl _, (by decide : 0 < 1), (by decide : (1 : Rat) ≠ 0), .inl ⟨rfl, rfl, rfl, rfl⟩⟩
  | k + 1 => (bmi row k).step

theorem told_len (row : List Rat) : (told row).length = (bmSt row row.length).size := by simp [told]
theorem told_le (row : List Rat) : (told row).length ≤ row.length := by rw [told_len]; exact (bmi row row.length).le
theorem told_get {row : List Rat} {i : Nat} (h : i < (bmSt row row.length).size) : (told row).getD i 0 = -((bmSt row row.length).now.getD (i + 1) 0) := by
  unfold told
  rw [List.getD_eq_getElem?_getD (l := List.map _ _), List.getElem?_map, List.getElem?_range h]; rfl
theorem told_obeys (row : List Rat) : obeysP row (told row) := fun i hi => by
  have h := bmi row row.length
  rw [told_len] at hi
  have := h.gen ((told row).length + i) (by rw [told_len]; omega) (by rw [told_len]; omega)
  rw [Win, S_front] at this
  unfold okAt
  rw [told_len] at this ⊢
  rw [S_congr (g := fun b => (-1) * ((bmSt row row.length).now.getD (b + 1) 0 * row.getD ((bmSt row row.length).size + i - (b + 1)) 0)) _ fun b hb => by
    rw [told_get hb, show (bmSt row row.length).size + i - 1 - b = (bmSt row row.length).size + i - (b + 1) by omega]; grind, S_mul]
  have c0 := h.c0
  simp only [at0, c0, Nat.sub_zero] at this
  grind
/-- no shorter recurrence leads the row -/
theorem told_min (row : List Rat) {l : Nat} (hl : l < (told row).length) : ¬ ∃ y : Nat → Rat, ∀ i < row.length - l, S l (fun a => y a * row.getD (l + i - 1 - a) 0) = row.getD (l + i) 0 := by
  rintro ⟨y, hy⟩
  have h := bmi row row.length
  rw [told_len] at hl
  rcases h.old with ⟨a, _⟩ | ⟨n', L', a, b, c, d, e, f, g⟩
  · omega
  · apply h.last
    rw [← g]
    refine massey (c := fun i => if i = 0 then 1 else -(y (i - 1))) (l := l) (by omega) f (if_pos rfl) fun k h1 h2 => ?_
    have := hy (k - l) (by omega)
    rw [show l + (k - l) = k by omega] at this
    rw [Win, S_front, S_congr (g := fun i => (-1) * (y i * row.getD (k - 1 - i) 0)) l fun i hi => by
      rw [if_neg (by omega), show i + 1 - 1 = i by omega, show k - (i + 1) = k - 1 - i by omega]; grind, S_mul, this]
    simp only [at0, if_true, Nat.sub_zero]
    grind

theorem fn_right (K : CtOk C) (row : List Rat) (hl : row.length ≤ 8) (hr : SzL 35 row) : FnX C "_law_least_right" [ratsD row] (.bool true) 6 := by
  refine FnX.intro K 52 "_law_least_right" rfl (hl := rfl) (hnd := by decide) (hk := by decide) (hbind := fun pm code doc vs h => by obtain ⟨a, rfl⟩ := len1 h; rfl) (hsc := ⟨rfl, rfl, rfl⟩) (hbody := ?_)
  intro pm code doc L ad
  have ht := told_le row
  refine StX.assign (.call K (fn_least K row hl hr) rfl (.cons (.name rfl) .nil) (by decide)) (by walk_at "sto") rfl ?_
  refine StX.iteT (t := (!true) || decide (((told row).length : Int) > row.length)) (.or (.not (.val (.call K (fn_obeys K row (told row) true (by simp [told_obeys]) hl ht hr (told_sz hl hr) (by decide) (by decide) (by decide)) rfl (.cons (.name rfl) (.cons (.name rfl) .nil)) (by decide)))) fun _ => .cmp (.lenM K rfl (f1 := true) (.of (.name rfl)) (by omega)) (.lenM K rfl (f1 := true) (.of (.name rfl)) (by omega)) (.gt rfl)) (fun h => ?_) fun _ => .nil ?_
  · simp at h; omega
  refine StX.ret (.or (t := decide (((told row).length : Int) = 0)) (u := !false) (.cmp (.lenM K rfl (f1 := true) (.of (.name rfl)) (by omega)) .int (.eqi rfl)) fun h => .not (.call K (fn_has K row ((told row).length - 1) hl (by omega) (by omega) hr (told_min row (by have q := of_decide_eq_false h; omega))) rfl (.cons (.name rfl) (.cons (.cast (.bin (.lenM K rfl (f1 := true) (.of (.name rfl)) (by omega)) .int .sub) (by have q := of_decide_eq_false h; congr 1; omega)) .nil)) (by decide))) (by simp)
end Nn

-- part W19
namespace Nn
variable {C : Ct} {env : Env} {ρ : Ro} {ω : Om} {n : Nat}
open PySem (Expr)

local macro_rules | `(tactic| walk_at "cap") => `(tactic| first | exact trivial | exact ⟨⟨rfl, rfl, fun L => ⟨rfl, rfl, nofun⟩, by decide⟩, by walk_at "cap"⟩)
local macro_rules | `(tactic| walk_at "clo") => `(tactic| first | exact trivial | exact ⟨rfl, by walk_at "clo"⟩)
local macro_rules | `(tactic| walk_at "tgt") => `(tactic| first | exact trivial | exact ⟨⟨fun L => .inl rfl, rfl, rfl⟩, by walk_at "tgt"⟩ | exact ⟨⟨fun L => .inr ⟨rfl, rfl⟩, rfl, rfl⟩, by walk_at "tgt"⟩)
local macro_rules | `(tactic| walk_at "blk") => `(tactic| exact Blk.of rfl rfl (by decide) (by walk_at "clo") (by walk_at "cap") (by walk_at "cap") (by walk_at "tgt"))
local macro_rules | `(tactic| walk_at "sto") => `(tactic| first | exact .inl rfl | exact .inr ⟨rfl, rfl⟩)
local macro_rules | `(tactic| walk_at "stos") => `(tactic| first | exact List.forall_mem_nil _ | refine List.forall_mem_cons.mpr (And.intro (And.intro (by walk_at "sto") (by rfl)) (by walk_at "stos")))


def cv : List Rat → (Nat → Rat) → Nat → Rat
  | [], _ => fun _ => 0
  | c :: p, s => fun n => c * s n + (match n with | 0 => 0 | n + 1 => cv p s n)
theorem cv_zero (c : Rat) (p : List Rat) (s : Nat → Rat) : cv (c :: p) s 0 = c * s 0 := by show c * s 0 + 0 = _; grind
theorem cv_succ (c : Rat) (p : List Rat) (s : Nat → Rat) (n : Nat) : cv (c :: p) s (n + 1) = c * s (n + 1) + cv p s n := rfl
theorem cv_S : ∀ (p : List Rat) (s : Nat → Rat) (n : Nat), cv p s n = S (n + 1) (fun i => p.getD i 0 * s (n - i))
  | [], s, n => (S_zero _ fun i _ => by simp).symm
  | c :: p, s, 0 => by rw [cv_zero, S, S]; simp; grind
  | c :: p, s, n + 1 => by
    rw [cv_succ, S_front (fun i => (c :: p).getD i 0 * s (n + 1 - i)) (n + 1), cv_S p s n]
    congr 1
    exact S_congr _ fun i hi => by rw [show n + 1 - (i + 1) = n - i by omega]; simp
theorem cv_add (p : List Rat) (s t : Nat → Rat) (n : Nat) : cv p (fun k => s k + t k) n = cv p s n + cv p t n := by
  rw [cv_S, cv_S, cv_S, ← S_add]; exact S_congr _ fun i _ => by grind
theorem cv_smul (p : List Rat) (c : Rat) (s : Nat → Rat) (n : Nat) : cv p (fun k => c * s k) n = c * cv p s n := by
  rw [cv_S, cv_S, ← S_mul]; exact S_congr _ fun i _ => by grind
def shf (s : Nat → Rat) : Nat → Rat
  | 0 => 0
  | n + 1 => s n
theorem cv_cons (c : Rat) (p : List Rat) (s : Nat → Rat) : cv (c :: p) s = fun n => c * s n + shf (cv p s) n := funext fun n => by cases n <;> rfl
theorem cv_shf : ∀ (p : List Rat) (s : Nat → Rat), cv p (shf s) = shf (cv p s)
  | [], s => funext fun n => by cases n <;> rfl
  | c :: p, s => funext fun n => by
    rw [cv_cons, cv_cons, cv_shf p s]
    cases n with
    | zero => show c * 0 + 0 = (0 : Rat); grind
    | succ n => rfl
theorem cv_comm : ∀ (p q : List Rat) (s : Nat → Rat), cv p (cv q s) = cv q (cv p s)
  | [], q, s => funext fun n => by
    show (0 : Rat) = cv q (fun _ => 0) n
    rw [cv_S]; exact (S_zero _ fun i _ => by grind).symm
  | c :: p, q, s => funext fun n => by
    rw [cv_cons, cv_comm p q s, cv_cons, cv_add, cv_smul, cv_shf]
theorem cv_congr {p q : List Rat} (h : ∀ i, p.getD i 0 = q.getD i 0) (s : Nat → Rat) : cv p s = cv q s := funext fun n => by
  rw [cv_S, cv_S]; exact S_congr _ fun i _ => by rw [h]
theorem getD_ge {p : List Rat} {i : Nat} (h : p.length ≤ i) : p.getD i 0 = 0 := by rw [List.getD_eq_getElem?_getD, List.getElem?_eq_none h]; rfl
def dlt : Nat → Rat := fun n => if n = 0 then 1 else 0
theorem cv_dlt (p : List Rat) (n : Nat) : cv p dlt n = p.getD n 0 := by
  rw [cv_S, S, S_zero n fun i hi => by rw [dlt, if_neg (by omega)]; grind]
  rw [Nat.sub_self, dlt, if_pos rfl]; grind
theorem cv_inj {g : List Rat} (h0 : g.getD 0 0 ≠ 0) {u v : Nat → Rat} (h : cv g u = cv g v) : u = v := by
  have : ∀ n, ∀ k < n, u k = v k := fun n => by
    induction n with
    | zero => intro k hk; omega
    | succ n ih =>
      intro k hk
      rcases Nat.lt_or_ge k n with q | q
      · exact ih k q
      · have e : k = n := by omega
        subst e
        have h1 := congrFun h k
        rw [cv_S, cv_S, S_front, S_front, S_congr (g := fun i => g.getD (i + 1) 0 * v (k - (i + 1))) k fun i hi => by rw [ih _ (by omega)]] at h1
        rw [Nat.sub_zero] at h1
        have h2 : g.getD 0 0 * u k = g.getD 0 0 * v k := by grind
        have h3 : g.getD 0 0 * (u k - v k) = 0 := by grind
        rcases Rat.mul_eq_zero.mp h3 with q | q
        · exact absurd q h0
        · grind
  exact funext fun n => this (n + 1) n (Nat.lt_succ_self n)
def pmul : List Rat → List Rat → List Rat
  | [], _ => []
  | c :: p, q => (List.range (max q.length ((pmul p q).length + 1))).map fun i => c * q.getD i 0 + (match i with | 0 => 0 | i + 1 => (pmul p q).getD i 0)
theorem pmul_get (c : Rat) (p q : List Rat) (i : Nat) : (pmul (c :: p) q).getD i 0 = c * q.getD i 0 + (0 :: pmul p q).getD i 0 := by
  rw [pmul]
  rcases Nat.lt_or_ge i (max q.length ((pmul p q).length + 1)) with h | h
  · rw [List.getD_eq_getElem?_getD (l := List.map _ _), List.getElem?_map, List.getElem?_range h]
    cases i <;> rfl
  · rw [getD_ge (by simpa using h), getD_ge (p := q) (by omega), getD_ge (by rw [List.length_cons]; omega)]; grind
theorem cv_lin {p q r : List Rat} {c : Rat} (h : ∀ i, p.getD i 0 = c * q.getD i 0 + r.getD i 0) (s : Nat → Rat) (n : Nat) : cv p s n = c * cv q s n + cv r s n := by
  rw [cv_S, cv_S, cv_S, ← S_mul, ← S_add]; exact S_congr _ fun i _ => by rw [h]; grind
theorem cv_mul : ∀ (p q : List Rat) (s : Nat → Rat), cv (pmul p q) s = cv p (cv q s)
  | [], q, s => rfl
  | c :: p, q, s => funext fun n => by
    rw [cv_lin (pmul_get c p q), cv_cons c p, cv_cons 0 (pmul p q), cv_mul p q s]
    grind

-- the quotient
theorem praise_get (p : List Rat) (k i : Nat) : (praise p k).getD i 0 = if k ≤ i then p.getD (i - k) 0 else 0 := by
  unfold praise
  split
  · rename_i h; subst h; simp
  · rw [List.getD_eq_getElem?_getD, List.getElem?_append, List.length_replicate]
    split
    · rename_i h; rw [if_neg (by omega), List.getElem?_replicate, if_pos h]; rfl
    · rename_i h; rw [if_pos (by omega), List.getD_eq_getElem?_getD]
theorem pscale_get (p : List Rat) (r : Rat) (i : Nat) : (pscale p r).getD i 0 = p.getD i 0 * r := by
  unfold pscale
  split
  · rename_i h; subst h; rw [show ([] : List Rat).getD i 0 = 0 from by simp]; grind
  · simp only [List.getD_eq_getElem?_getD, List.getElem?_map]
    rcases Nat.lt_or_ge i p.length with h | h
    · simp [h]
    · simp [h]
theorem padd_get (a b : List Rat) (i : Nat) : (padd a b).getD i 0 = a.getD i 0 + b.getD i 0 := by
  rw [padd, trim_getD]
  rcases Nat.lt_or_ge i (max a.length b.length) with h | h
  · rw [List.getD_eq_getElem?_getD (l := List.map _ _), List.getElem?_map, List.getElem?_range h]; rfl
  · rw [getD_ge (by simpa using h), getD_ge (p := a) (by omega), getD_ge (p := b) (by omega)]; grind
theorem pneg_get (p : List Rat) (i : Nat) : (pneg p).getD i 0 = -(p.getD i 0) := by
  unfold pneg
  simp only [List.getD_eq_getElem?_getD, List.getElem?_map]
  rcases Nat.lt_or_ge i p.length with h | h
  · simp [h]
  · simp [h]
theorem dropLast_get (p : List Rat) (i : Nat) : p.dropLast.getD i 0 = if i + 1 < p.length then p.getD i 0 else 0 := by
  simp only [List.getD_eq_getElem?_getD, List.dropLast_eq_take, List.getElem?_take]
  split
  · rw [if_pos (by omega)]
  · rw [if_neg (by omega)]; rfl
theorem dstep_get {b rest : List Rat} (hb : b ≠ []) (hl : lead b ≠ 0) (h : b.length ≤ rest.length) (i : Nat) :
    rest.getD i 0 = (lead rest / lead b) * (praise b (rest.length - b.length)).getD i 0 + (psub rest.dropLast (praise (pscale b.dropLast (lead rest / lead b)) (rest.length - b.length))).getD i 0 := by
  have h0 : 0 < b.length := List.length_pos_iff.mpr hb
  have hq := Rat.div_mul_cancel (a := lead rest) hl
  rw [psub, padd_get, pneg_get, praise_get, praise_get, pscale_get, dropLast_get, dropLast_get]
  by_cases h1 : rest.length - b.length ≤ i
  · rw [if_pos h1, if_pos h1]
    rcases Nat.lt_trichotomy (i + 1) rest.length with q | q | q
    · rw [if_pos q, if_pos (by omega)]; grind
    · rw [if_neg (by omega), if_neg (by omega), show i = rest.length - 1 by omega, show rest.length - 1 - (rest.length - b.length) = b.length - 1 by omega]
      show lead rest = _ * lead b + _
      rw [hq]; grind
    · rw [if_neg (by omega), if_neg (by omega), getD_ge (by omega), getD_ge (p := b) (by omega)]; grind
  · rw [if_neg h1, if_neg h1, if_pos (by omega)]; grind
theorem cv_praise (p : List Rat) (k : Nat) (s : Nat → Rat) (n : Nat) : cv (praise p k) s n = if k ≤ n then cv p s (n - k) else 0 := by
  rw [cv_S]
  split
  · rename_i h
    refine (S_congr (g := fun i => if k ≤ i then p.getD (i - k) 0 * s (n - k - (i - k)) else 0) _ fun i hi => ?_).trans ?_
    · rw [praise_get]
      split
      · rw [show n - k - (i - k) = n - i by omega]
      · grind
    · rw [show n + 1 = k + (n - k + 1) by omega, cv_S]
      exact S_shift (fun j => p.getD j 0 * s (n - k - j)) k (n - k + 1)
  · rename_i h
    exact S_zero _ fun i hi => by rw [praise_get, if_neg (by omega)]; grind
theorem set_get {f : List Rat} {k i : Nat} {q : Rat} (h : k < f.length) (h0 : f.getD k 0 = 0) : (f.set k q).getD i 0 = q * (praise [1] k).getD i 0 + f.getD i 0 := by
  rw [praise_get]
  by_cases e : i = k
  · subst e
    rw [if_pos (Nat.le_refl _), Nat.sub_self, h0, List.getD_eq_getElem?_getD, List.getElem?_set, if_pos rfl, if_pos h]
    simp
    grind
  · have e1 : (f.set k q).getD i 0 = f.getD i 0 := by rw [List.getD_eq_getElem?_getD, List.getElem?_set, if_neg (fun w => e w.symm), List.getD_eq_getElem?_getD]
    rw [e1]
    split
    · rw [getD_ge (p := [1]) (by simp; omega)]; grind
    · grind
theorem cv_one (s : Nat → Rat) : cv [1] s = s := funext fun n => by
  rw [cv_cons]
  cases n with
  | zero => show 1 * s 0 + 0 = _; grind
  | succ n => show 1 * s (n + 1) + 0 = _; grind
theorem dm_cv {b : List Rat} (hb : b ≠ []) (hl : lead b ≠ 0) : ∀ (f : Nat) (rest found : List Rat), rest.length < f → (∀ i, i + b.length ≤ rest.length → i < found.length ∧ found.getD i 0 = 0) → ∀ (s : Nat → Rat) (n : Nat),
    cv (dm b f rest found).1 (cv b s) n + cv (dm b f rest found).2 s n = cv found (cv b s) n + cv rest s n
  | 0, _, _, h, _, _, _ => by omega
  | f + 1, rest, found, h, hf, s, n => by
    rw [dm]
    split
    · rfl
    · rename_i q
      have hle : b.length ≤ rest.length := by omega
      have hs := dstep_len (rest := rest) hb hle (lead rest / lead b)
      obtain ⟨k1, k2⟩ := hf (rest.length - b.length) (by omega)
      have h0 : 0 < b.length := List.length_pos_iff.mpr hb
      rw [dm_cv hb hl f _ _ (by omega) (fun i hi => ?_) s n]
      · rw [cv_lin (fun i => set_get k1 k2), cv_lin (dstep_get hb hl hle) s, cv_praise, cv_praise, cv_one]
        grind
      · obtain ⟨m1, m2⟩ := hf i (by omega)
        rw [List.length_set]
        refine ⟨m1, ?_⟩
        rw [List.getD_eq_getElem?_getD, List.getElem?_set, if_neg (by omega), ← List.getD_eq_getElem?_getD]
        exact m2
theorem dmod_cv {a b : List Rat} (hb : b ≠ []) (hl : lead b ≠ 0) (s : Nat → Rat) (n : Nat) : cv a s n = cv (dmod a b).1 (cv b s) n + cv (dmod a b).2 s n := by
  have h0 : 0 < b.length := List.length_pos_iff.mpr hb
  rw [dmod, dm_cv hb hl _ _ _ (Nat.lt_succ_self _) (fun i hi => by
    rw [List.length_replicate]
    refine ⟨by omega, ?_⟩
    rw [List.getD_eq_getElem?_getD, List.getElem?_replicate, if_pos (by omega)]; rfl) s n]
  rw [cv_S (List.replicate _ _), S_zero _ fun i _ => by
    have : (List.replicate (a.length + 1 - b.length) (0 : Rat)).getD i 0 = 0 := by
      rw [List.getD_eq_getElem?_getD, List.getElem?_replicate]; split <;> rfl
    rw [this]; grind]
  grind

-- divisors
def Dv (g p : List Rat) : Prop := ∃ q : List Rat, ∀ s, cv p s = cv q (cv g s)
theorem Dv.nil (g : List Rat) : Dv g [] := ⟨[], fun s => rfl⟩
theorem Dv.of {g p : List Rat} {r : Rat} (h : ∀ i, p.getD i 0 = r * g.getD i 0) : Dv g p := ⟨[r], fun s => funext fun n => by
  rw [cv_lin (q := g) (r := []) (c := r) (fun i => by rw [h]; simp; grind), cv_cons]
  cases n with
  | zero => rfl
  | succ n => rfl⟩
theorem Dv.trans {g p r : List Rat} (h : Dv g p) (k : Dv p r) : Dv g r := by
  obtain ⟨q, hq⟩ := h
  obtain ⟨q', hq'⟩ := k
  exact ⟨pmul q' q, fun s => by rw [hq', hq, cv_mul]⟩
theorem Dv.comb {g b r a : List Rat} {q : List Rat} (h : Dv g b) (k : Dv g r) (e : ∀ s n, cv a s n = cv q (cv b s) n + cv r s n) : Dv g a := by
  obtain ⟨u, hu⟩ := h
  obtain ⟨v, hv⟩ := k
  refine ⟨padd (pmul q u) v, fun s => funext fun n => ?_⟩
  rw [e, hu, hv, cv_lin (p := padd (pmul q u) v) (q := pmul q u) (r := v) (c := 1) (fun i => by rw [padd_get]; grind), cv_mul]
  grind
theorem monic_get {p : List Rat} (h : Tr p) (i : Nat) : p.getD i 0 = lead p * (monic p).getD i 0 := by
  unfold monic
  split
  · rename_i e; subst e; simp
  · rename_i e
    rw [pscale_get]
    have := Rat.mul_inv_cancel _ (h e)
    grind
theorem pg_dv : ∀ (k : Nat) (a b : List Rat), Tr a → Tr b → b.length < k → Dv (pg k a b) a ∧ Dv (pg k a b) b
  | 0, _, _, _, _, h => by omega
  | k + 1, a, b, ta, tb, h => by
    rw [pg]
    split
    · rename_i e
      subst e
      exact ⟨.of (monic_get ta), .nil _⟩
    · rename_i e
      have tr := dmod_Tr (a := a) e ta
      have hl := dmod_len (a := a) e
      have hm := monic_len (dmod a b).2
      obtain ⟨h1, h2⟩ := pg_dv k b (monic (dmod a b).2) tb (monic_Tr tr) (by omega)
      exact ⟨.comb h1 (h2.trans (.of (monic_get tr))) (fun s n => dmod_cv e (tb e) s n), h1⟩
/-- a rest below the divisor is none -/
theorem rest_none {g r q : List Rat} (hl : lead g ≠ 0) (hlen : r.length < g.length) (h : ∀ s, cv r s = cv q (cv g s)) : ∀ n, r.getD n 0 = 0 := by
  have hq : ∀ i, q.getD i 0 = 0 := fun i => Classical.byContradiction fun k => by
    have hne := trim_ne k
    have hlt := trim_Tr q hne
    have h0 : 0 < (trim q).length := List.length_pos_iff.mpr hne
    have e := congrFun (h dlt) ((trim q).length - 1 + (g.length - 1))
    rw [cv_dlt, getD_ge (by omega), cv_congr (q := trim q) (fun i => (trim_getD q i).symm), cv_S] at e
    rw [S_congr (g := fun i => if (trim q).length - 1 ≤ i then (if i - ((trim q).length - 1) = 0 then lead (trim q) * lead g else 0) else 0) _ fun i hi => ?_, show (trim q).length - 1 + (g.length - 1) + 1 = (trim q).length - 1 + g.length by omega] at e
    · replace e := e.trans (S_shift (fun j => if j = 0 then lead (trim q) * lead g else 0) ((trim q).length - 1) g.length)
      obtain ⟨m, hm⟩ : ∃ m, g.length = m + 1 := ⟨g.length - 1, by omega⟩
      rw [hm, S_front, if_pos rfl, S_zero m fun i _ => if_neg (by omega)] at e
      have : lead (trim q) * lead g = 0 := by grind
      rcases Rat.mul_eq_zero.mp this with w | w
      · exact hlt w
      · exact hl w
    · show (trim q).getD i 0 * cv g dlt _ = _
      rw [cv_dlt]
      split
      · rename_i w
        split
        · rename_i w2
          rw [show i = (trim q).length - 1 by omega, show (trim q).length - 1 + (g.length - 1) - ((trim q).length - 1) = g.length - 1 by omega]
          rfl
        · rw [getD_ge (p := trim q) (by omega)]; grind
      · rw [getD_ge (p := g) (by omega)]; grind
  intro n
  have e := congrFun (h dlt) n
  rw [cv_dlt, cv_S] at e
  rw [e]
  exact S_zero _ fun i _ => by rw [hq]; grind
theorem exact_div {g p : List Rat} (hg : g ≠ []) (hl : lead g ≠ 0) (h : Dv g p) (s : Nat → Rat) : cv p s = cv (trim (dmod p g).1) (cv g s) := by
  obtain ⟨q, hq⟩ := h
  have e := fun s n => dmod_cv (a := p) hg hl s n
  have hr := rest_none (g := g) (r := (dmod p g).2) (q := padd q (pneg (dmod p g).1)) hl (dmod_len hg) fun s => funext fun n => by
    rw [cv_lin (p := padd q (pneg (dmod p g).1)) (q := pneg (dmod p g).1) (r := q) (c := 1) (fun i => by rw [padd_get]; grind), cv_lin (p := pneg (dmod p g).1) (q := (dmod p g).1) (r := []) (c := -1) (fun i => by rw [pneg_get]; simp; grind)]
    have := e s n
    rw [hq] at this
    have z : cv [] (cv g s) n = 0 := rfl
    rw [z]
    grind
  exact funext fun n => by
    rw [e s n, cv_S (dmod p g).2, S_zero _ fun i _ => by rw [hr]; grind, cv_congr (q := trim (dmod p g).1) (fun i => (trim_getD _ i).symm)]
    grind
end Nn

-- part W20
namespace Nn
variable {C : Ct} {env : Env} {ρ : Ro} {ω : Om} {n : Nat}
open PySem (Expr)

local macro_rules | `(tactic| walk_at "cap") => `(tactic| first | exact trivial | exact ⟨⟨rfl, rfl, fun L => ⟨rfl, rfl, nofun⟩, by decide⟩, by walk_at "cap"⟩)
local macro_rules | `(tactic| walk_at "clo") => `(tactic| first | exact trivial | exact ⟨rfl, by walk_at "clo"⟩)
local macro_rules | `(tactic| walk_at "tgt") => `(tactic| first | exact trivial | exact ⟨⟨fun L => .inl rfl, rfl, rfl⟩, by walk_at "tgt"⟩ | exact ⟨⟨fun L => .inr ⟨rfl, rfl⟩, rfl, rfl⟩, by walk_at "tgt"⟩)
local macro_rules | `(tactic| walk_at "blk") => `(tactic| exact Blk.of rfl rfl (by decide) (by walk_at "clo") (by walk_at "cap") (by walk_at "cap") (by walk_at "tgt"))
local macro_rules | `(tactic| walk_at "sto") => `(tactic| first | exact .inl rfl | exact .inr ⟨rfl, rfl⟩)
local macro_rules | `(tactic| walk_at "stos") => `(tactic| first | exact List.forall_mem_nil _ | refine List.forall_mem_cons.mpr (And.intro (And.intro (by walk_at "sto") (by rfl)) (by walk_at "stos")))


theorem lrow_stable {steps first : List Int} {k t : Nat} (h : k < (lrow steps first t).length) : ∀ d, (lrow steps first (t + d)).getD k 0 = (lrow steps first t).getD k 0
  | 0 => rfl
  | d + 1 => by
    rw [← lrow_stable h d, show t + (d + 1) = (t + d) + 1 by omega, lrow]
    have : k < (lrow steps first (t + d)).length := by rw [lrow_len] at h ⊢; omega
    rw [List.getD_eq_getElem?_getD, List.getElem?_append_left this, List.getD_eq_getElem?_getD]
def sq (steps first : List Int) (k : Nat) : Int := (lrow steps first (k + 1)).getD k 0
theorem sq_eq {steps first : List Int} {k t : Nat} (h : k < first.length + t) : (lrow steps first t).getD k 0 = sq steps first k := by
  unfold sq
  rcases Nat.le_total t (k + 1) with q | q
  · have := lrow_stable (steps := steps) (first := first) (k := k) (t := t) (by rw [lrow_len]; exact h) (k + 1 - t)
    rw [show t + (k + 1 - t) = k + 1 by omega] at this
    exact this.symm
  · have := lrow_stable (steps := steps) (first := first) (k := k) (t := k + 1) (by rw [lrow_len]; omega) (t - (k + 1))
    rw [show k + 1 + (t - (k + 1)) = t by omega] at this
    exact this
theorem sq_first {steps first : List Int} {k : Nat} (h : k < first.length) : sq steps first k = first.getD k 0 := (sq_eq (t := 0) (by omega)).symm
theorem sq_next {steps first : List Int} {k : Nat} (hf : first.length = steps.length) (h : steps.length ≤ k) : sq steps first k = ((List.range steps.length).map fun i => steps.getD i 0 * sq steps first (k - 1 - i)).sum := by
  rw [← sq_eq (t := k - steps.length + 1) (by omega), lrow, List.getD_eq_getElem?_getD, List.getElem?_append_right (by rw [lrow_len]; omega), lrow_len, show k - (first.length + (k - steps.length)) = 0 by omega]
  show nextN _ _ = _
  unfold nextN
  congr 1
  apply List.map_congr_left
  intro i hi
  have hi' := mem_range' hi
  rw [lrow_len, sq_eq (by omega), show first.length + (k - steps.length) - 1 - i = k - 1 - i by omega]
theorem cast_sum (f : Nat → Int) : ∀ k, ((((List.range k).map f).sum : Int) : Rat) = S k (fun i => (f i : Rat))
  | 0 => rfl
  | k + 1 => by
    rw [List.range_succ, List.map_append, List.sum_append, Rat.intCast_add, cast_sum f k, S]
    simp
def sr (steps first : List Int) (k : Nat) : Rat := (sq steps first k : Rat)
theorem sr_next {steps first : List Int} {k : Nat} (hf : first.length = steps.length) (h : steps.length ≤ k) : sr steps first k = S steps.length (fun i => (steps.getD i 0 : Rat) * sr steps first (k - 1 - i)) := by
  unfold sr
  rw [sq_next hf h, cast_sum]
  exact S_congr _ fun i _ => Rat.intCast_mul _ _
theorem topL_get {steps first : List Int} {a : Nat} (h : a < steps.length) : (topL steps first).getD a 0 = (first.getD a 0 : Rat) - S a (fun b => (steps.getD b 0 : Rat) * (first.getD (a - (b + 1)) 0 : Rat)) := by
  unfold topL
  rw [List.getD_eq_getElem?_getD (l := List.map _ _), List.getElem?_map, List.getElem?_range h]
  show ((first.getD a 0 - _ : Int) : Rat) = _
  rw [Rat.intCast_sub, cast_sum]
  congr 1
  exact S_congr _ fun i _ => Rat.intCast_mul _ _
theorem botL_get (steps : List Int) (b : Nat) : (botL steps).getD (b + 1) 0 = -(steps.getD b 0 : Rat) := by
  unfold botL
  simp only [List.getD_eq_getElem?_getD, List.getElem?_cons_succ, List.getElem?_map]
  rcases Nat.lt_or_ge b steps.length with h | h
  · simp [h]
  · simp [h]
theorem gen_cv {steps first : List Int} (hf : first.length = steps.length) : cv (botL steps) (sr steps first) = fun n => (topL steps first).getD n 0 := funext fun n => by
  have b0 : (botL steps).getD 0 0 = 1 := rfl
  rw [cv_S, S_front, b0, Nat.sub_zero, S_congr (g := fun b => (-1) * ((steps.getD b 0 : Rat) * sr steps first (n - (b + 1)))) n fun b _ => by rw [botL_get]; grind, S_mul]
  rcases Nat.lt_or_ge n steps.length with h | h
  · rw [topL_get h, S_congr (g := fun b => (steps.getD b 0 : Rat) * (first.getD (n - (b + 1)) 0 : Rat)) n fun b hb => by
      unfold sr; rw [sq_first (by omega)]]
    have : sr steps first n = (first.getD n 0 : Rat) := by unfold sr; rw [sq_first (by omega)]
    rw [this]; grind
  · rw [getD_ge (p := topL steps first) (by simp [topL]; exact h), S_trunc (m := steps.length) h fun i a _ => by
      rw [List.getD_eq_getElem?_getD (l := steps), List.getElem?_eq_none a]; simp]
    rw [sr_next hf h, S_congr (f := fun b => (steps.getD b 0 : Rat) * sr steps first (n - (b + 1))) (g := fun i => (steps.getD i 0 : Rat) * sr steps first (n - 1 - i)) _ fun i _ => by rw [show n - (i + 1) = n - 1 - i by omega]]
    grind

theorem fred_cv {t b : List Rat} {σ : Nat → Rat} (g : GI t b) (hb0 : b.getD 0 0 = 1) (hσ : cv b σ = fun n => t.getD n 0) : (fred t b).2.getD 0 0 ≠ 0 ∧ Tr (fred t b).2 ∧ cv (fred t b).2 σ = fun n => (fred t b).1.getD n 0 := by
  unfold fred
  split
  · rename_i h
    have hg : pgcd t b ≠ [] := fun q => by rw [q] at h; simp at h
    have hl : lead (pgcd t b) ≠ 0 := (pg_inv (b.length + 1) t b g (Nat.lt_succ_self _)).1 hg
    obtain ⟨d1, d2⟩ := pg_dv (b.length + 1) t b g.ta g.tb (Nat.lt_succ_self _)
    have e1 := exact_div hg hl d1
    have e2 := exact_div hg hl d2
    have z : (trim (dmod b (pgcd t b)).1).getD 0 0 * (pgcd t b).getD 0 0 = 1 := by
      have := congrFun (e2 dlt) 0
      rw [cv_dlt, hb0, cv_S, S, S, cv_dlt] at this
      simp only [Nat.sub_self] at this
      rw [this]; grind
    have z1 : (trim (dmod b (pgcd t b)).1).getD 0 0 ≠ 0 := fun q => by rw [q] at z; grind
    have z2 : (pgcd t b).getD 0 0 ≠ 0 := fun q => by rw [q] at z; grind
    refine ⟨z1, trim_Tr _, ?_⟩
    have : cv (pgcd t b) (cv (trim (dmod b (pgcd t b)).1) σ) = cv (pgcd t b) (cv (trim (dmod t (pgcd t b)).1) dlt) := by
      rw [cv_comm, ← e2, hσ, cv_comm, ← e1]
      exact funext fun n => (cv_dlt t n).symm
    rw [cv_inj z2 this]
    exact funext fun n => cv_dlt _ n
  · exact ⟨by show b.getD 0 0 ≠ 0; rw [hb0]; decide, g.tb, hσ⟩
theorem fmk_cv {t b : List Rat} {σ : Nat → Rat} (g : GI t b) (hb0 : b.getD 0 0 = 1) (hσ : cv b σ = fun n => t.getD n 0) : (fred t b).2 ≠ [] ∧ (fmk t b).2.getD 0 0 ≠ 0 ∧ cv (fmk t b).2 σ = fun n => (fmk t b).1.getD n 0 := by
  obtain ⟨h1, h2, h3⟩ := fred_cv g hb0 hσ
  have hne : (fred t b).2 ≠ [] := fun q => h1 (by rw [q]; rfl)
  refine ⟨hne, ?_⟩
  unfold fmk
  split
  · rename_i h
    subst h
    refine ⟨by decide, ?_⟩
    rw [cv_one]
    have e : cv b σ = cv b (fun _ => 0) := by
      rw [hσ]
      exact funext fun n => by rw [cv_S, S_zero _ fun i _ => by grind]; simp
    have e2 := cv_inj (by rw [hb0]; decide) e
    rw [e2]
    exact funext fun n => by simp
  · have hi : (lead (fred t b).2)⁻¹ ≠ 0 := fun q => by
      have := Rat.mul_inv_cancel _ (h2 hne)
      rw [q] at this
      grind
    refine ⟨?_, funext fun n => ?_⟩
    · show (pscale _ _).getD 0 0 ≠ 0
      rw [pscale_get]
      intro q
      rcases Rat.mul_eq_zero.mp q with q | q
      · exact h1 q
      · exact hi q
    · show cv (pscale _ _) σ n = (pscale _ _).getD n 0
      rw [pscale_get, cv_lin (q := (fred t b).2) (r := []) (c := (lead (fred t b).2)⁻¹) (fun i => by rw [pscale_get]; simp; grind), h3]
      show _ * _ + 0 = _
      grind
theorem fmk_sz {t b : List Rat} (g : GI t b) (s1 : SzL 7 t) (s2 : SzL 7 b) : SzL 45606 (fmk t b).1 ∧ SzL 45606 (fmk t b).2 ∧ (fmk t b).1.length ≤ 900 ∧ (fmk t b).2.length ≤ 900 := by
  obtain ⟨p1, p2, p3⟩ := pg_inv (b.length + 1) t b g (Nat.lt_succ_self _)
  change 2 ≤ (pgcd t b).length → SzL 1516 (pgcd t b) at p2
  have l1 := g.la
  have l2 := g.lb
  have len1 : ∀ (f : Nat) (b rest found : List Rat), (dm b f rest found).1.length = found.length := fun f => by
    induction f with
    | zero => intro b rest found; rfl
    | succ f ih =>
      intro b rest found
      rw [dm]
      split
      · rfl
      · rw [ih, List.length_set]
  have hf : SzL 22803 (fred t b).1 ∧ SzL 22803 (fred t b).2 ∧ (fred t b).1.length ≤ 900 ∧ (fred t b).2.length ≤ 900 := by
    unfold fred
    split
    · rename_i h
      have hc : pgcd t b ≠ [] := fun q => by rw [q] at h; simp at h
      have d1 := dmod_sz hc s1 (p2 h) (by decide) (by decide)
      have d2 := dmod_sz hc s2 (p2 h) (by decide) (by decide)
      have m1 : rb 7 1516 (t.length + 1 - (pgcd t b).length) ≤ 21287 := Nat.le_trans (rb_mono _ _ (u := 3) (by omega)) (by decide)
      have m2 : rb 7 1516 (b.length + 1 - (pgcd t b).length) ≤ 21287 := Nat.le_trans (rb_mono _ _ (u := 3) (by omega)) (by decide)
      refine ⟨d1.2.trim.mono (by omega), d2.2.trim.mono (by omega), ?_, ?_⟩
      · have := trim_len (dmod t (pgcd t b)).1
        have : (dmod t (pgcd t b)).1.length ≤ 900 := by unfold dmod; rw [len1, List.length_replicate]; omega
        dsimp only
        omega
      · have := trim_len (dmod b (pgcd t b)).1
        have : (dmod b (pgcd t b)).1.length ≤ 900 := by unfold dmod; rw [len1, List.length_replicate]; omega
        dsimp only
        omega
    · exact ⟨s1.mono (by decide), s2.mono (by decide), by dsimp only; omega, by dsimp only; omega⟩
  unfold fmk
  split
  · exact ⟨fun q hq => by simp at hq, fun q hq => by rw [List.mem_singleton.mp hq]; exact Sz.one.mono (by decide), by simp, by simp⟩
  · have hi : Sz 22803 (lead (fred t b).2)⁻¹ := (hf.2.1.lead (by decide)).inv (by decide)
    have q1 := pscale_len (fred t b).1 (lead (fred t b).2)⁻¹
    have q2 := pscale_len (fred t b).2 (lead (fred t b).2)⁻¹
    exact ⟨hf.1.pscale hi, hf.2.1.pscale hi, by dsimp only; omega, by dsimp only; omega⟩
/-- from the product to the running sum -/
theorem cv_run {t b : List Rat} {σ : Nat → Rat} (h0 : b.getD 0 0 ≠ 0) (h : cv b σ = fun n => t.getD n 0) (n : Nat) : σ n = (t.getD n 0 - S (min n (b.length - 1)) fun i => b.getD (i + 1) 0 * σ (n - (i + 1))) / b.getD 0 0 := by
  have e := congrFun h n
  rw [cv_S, S_front, Nat.sub_zero, S_trunc (m := min n (b.length - 1)) (Nat.min_le_left _ _) fun i a _ => by rw [getD_ge (p := b) (by omega)]; grind] at e
  have := Rat.mul_div_cancel (a := σ n) h0
  rw [← this]
  congr 1
  grind

theorem gen_GI {steps first : List Int} (h1 : IOk 2 steps) (h2 : IOk 3 first) (hl : steps.length ≤ 3) : GI (trim (topL steps first)) (trim (botL steps)) ∧ SzL 7 (trim (topL steps first)) ∧ SzL 7 (trim (botL steps)) := by
  have s1 := (topL_sz (first := first) h1 h2 hl).trim
  have s2 := (botL_sz h1).trim.mono (k := 7) (by decide)
  have l1 := trim_len (topL steps first)
  have l2 := trim_len (botL steps)
  rw [show (topL steps first).length = steps.length by simp [topL]] at l1
  rw [show (botL steps).length = steps.length + 1 by simp [botL]] at l2
  exact ⟨⟨trim_Tr _, trim_Tr _, by omega, by omega, .inl ⟨s1, s2⟩⟩, s1, s2⟩
theorem trim_cv (p : List Rat) (s : Nat → Rat) : cv (trim p) s = cv p s := cv_congr (trim_getD p) s

theorem sr_sz {steps first : List Int} (h1 : IOk 2 steps) (h2 : IOk 3 first) (hl : steps.length ≤ 3) {k : Nat} (hk : k < 8) : Sz 35 (sr steps first k) := by
  unfold sr
  by_cases q : k < first.length
  · rw [sq_first q]
    exact Sz.int (Nat.lt_of_lt_of_le (h2.get k) (by decide)) (by decide)
  · rw [← sq_eq (t := k - first.length + 1) (by omega)]
    exact Sz.int (Nat.lt_of_lt_of_le ((lrow_ok h1 h2 hl (k - first.length + 1)).get k) (Nat.pow_le_pow_right (by omega) (by omega))) (by decide)

theorem fn_gen' (K : CtOk C) (steps first : List Int) (h1 : IOk 2 steps) (h2 : IOk 3 first) (hl : steps.length ≤ 3) (hf : first.length = steps.length) :
    FnX C "generating" [intsD steps, intsD first] (.tuple [ratsD (genF steps first).1, ratsD (genF steps first).2]) 9 ∧
    FnX C "series_numbers" [.tuple [ratsD (genF steps first).1, ratsD (genF steps first).2], .int ((7 : Nat) : Int)] (ratsD ((List.range 7).map (sr steps first))) 4 := by
  obtain ⟨g, s1, s2⟩ := gen_GI (first := first) h1 h2 hl
  have b0 : (trim (botL steps)).getD 0 0 = 1 := by rw [trim_getD]; rfl
  have hσ : cv (trim (botL steps)) (sr steps first) = fun n => (trim (topL steps first)).getD n 0 := by
    rw [trim_cv, gen_cv hf]
    exact funext fun n => (trim_getD _ n).symm
  obtain ⟨f1, f2, f3⟩ := fmk_cv g b0 hσ
  obtain ⟨z1, z2, z3, z4⟩ := fmk_sz g s1 s2
  have hbne : trim (botL steps) ≠ [] := fun q => by rw [q] at b0; simp at b0
  refine ⟨fn_gen K steps first h1 h2 hl hf (fn_fmake K _ _ g s1 s2 hbne f1), ?_⟩
  refine fn_series K (genF steps first).1 (genF steps first).2 (sr steps first) 7 (by decide) z3 z4 z1 z2 (by decide) (fun i hi => sr_sz h1 h2 hl (by omega)) (by decide) ?_ f2 (fun i _ => cv_run f2 f3 i)
  rcases Nat.eq_zero_or_pos (genF steps first).2.length with q | q
  · exact absurd (show (genF steps first).2.getD 0 0 = 0 by rw [List.length_eq_zero_iff.mp q]; rfl) f2
  · exact q
end Nn

-- part W21
namespace Nn
variable {C : Ct} {env : Env} {ρ : Ro} {ω : Om} {n : Nat}
open PySem (Expr)

local macro_rules | `(tactic| walk_at "cap") => `(tactic| first | exact trivial | exact ⟨⟨rfl, rfl, fun L => ⟨rfl, rfl, nofun⟩, by decide⟩, by walk_at "cap"⟩)
local macro_rules | `(tactic| walk_at "clo") => `(tactic| first | exact trivial | exact ⟨rfl, by walk_at "clo"⟩)
local macro_rules | `(tactic| walk_at "tgt") => `(tactic| first | exact trivial | exact ⟨⟨fun L => .inl rfl, rfl, rfl⟩, by walk_at "tgt"⟩ | exact ⟨⟨fun L => .inr ⟨rfl, rfl⟩, rfl, rfl⟩, by walk_at "tgt"⟩)
local macro_rules | `(tactic| walk_at "blk") => `(tactic| exact Blk.of rfl rfl (by decide) (by walk_at "clo") (by walk_at "cap") (by walk_at "cap") (by walk_at "tgt"))
local macro_rules | `(tactic| walk_at "sto") => `(tactic| first | exact .inl rfl | exact .inr ⟨rfl, rfl⟩)
local macro_rules | `(tactic| walk_at "stos") => `(tactic| first | exact List.forall_mem_nil _ | refine List.forall_mem_cons.mpr (And.intro (And.intro (by walk_at "sto") (by rfl)) (by walk_at "stos")))


theorem cast_zip (w : Nat) : ∀ (xs ys : List Int), xs.length = w → ys.length = w → (((xs.zip ys).map fun p => p.1 * p.2).sum : Int) = (((List.range w).map fun j => xs.getD j 0 * ys.getD j 0).sum : Int) := by
  intro xs ys h1 h2
  congr 1
  apply List.ext_getElem
  · simp [h1, h2]
  · intro i h3 h4
    simp only [List.length_map, List.length_zip] at h3
    have a1 : i < xs.length := by omega
    have a2 : i < ys.length := by omega
    simp [a1, a2]
def act (w : Nat) (m : MT) (v : Nat → Rat) (i : Nat) : Rat := S w (fun j => ((m.getD i []).getD j 0 : Rat) * v j)
theorem act_congr {w : Nat} {m : MT} {v u : Nat → Rat} (h : ∀ j < w, v j = u j) (i : Nat) : act w m v i = act w m u i := S_congr _ fun j hj => by rw [h j hj]
theorem mulM_get {w k l : Nat} {a b : MT} (ha : MOk w k a) (hb : MOk w l b) {i c : Nat} (hi : i < w) (hc : c < w) : ((mulM a b).getD i []).getD c 0 = ((List.range w).map fun j => (a.getD i []).getD j 0 * (b.getD j []).getD c 0).sum := by
  have h0 : 0 < w := by omega
  have e1 : (mulM a b).getD i [] = (List.range (b.getD 0 []).length).map fun c => ((List.range b.length).map fun j => (a.getD i []).getD j 0 * (b.getD j []).getD c 0).sum := by
    unfold mulM
    rw [List.getD_eq_getElem?_getD (l := List.map _ _), List.getElem?_map, List.getElem?_eq_getElem (by rw [ha.1]; exact hi), List.getD_eq_getElem?_getD (l := a), List.getElem?_eq_getElem (by rw [ha.1]; exact hi)]
    rfl
  rw [e1, (hb.get h0).1, hb.1, List.getD_eq_getElem?_getD (l := List.map _ _), List.getElem?_map, List.getElem?_range hc]
  rfl
theorem act_mul {w k l : Nat} {a b : MT} (ha : MOk w k a) (hb : MOk w l b) (v : Nat → Rat) {i : Nat} (hi : i < w) : act w (mulM a b) v i = act w a (act w b v) i := by
  unfold act
  rw [S_congr (g := fun c => S w (fun j => ((a.getD i []).getD j 0 : Rat) * ((b.getD j []).getD c 0 : Rat) * v c)) w fun c hc => by
    rw [mulM_get ha hb hi hc, cast_sum, Rat.mul_comm, ← S_mul]
    exact S_congr _ fun j _ => by rw [Rat.intCast_mul]; grind]
  rw [S_swap]
  exact S_congr _ fun j _ => by rw [← S_mul]; exact S_congr _ fun c _ => by grind
theorem act_unit {w : Nat} (v : Nat → Rat) {i : Nat} (hi : i < w) : act w (unitM w) v i = v i := by
  have e : (unitM w).getD i [] = (List.range w).map fun c => if i = c then 1 else 0 := by
    unfold unitM
    rw [List.getD_eq_getElem?_getD (l := List.map _ _), List.getElem?_map, List.getElem?_range hi]; rfl
  unfold act
  rw [S_congr (g := fun j => 0 * v j + (if j = i then v i else 0)) w fun j hj => by
    rw [e, List.getD_eq_getElem?_getD (l := List.map _ _), List.getElem?_map, List.getElem?_range hj]
    show ((if i = j then (1 : Int) else 0 : Int) : Rat) * v j = _
    by_cases q : j = i
    · subst q; rw [if_pos rfl, if_pos rfl]; simp; grind
    · rw [if_neg (fun w => q w.symm), if_neg q]; simp; grind]
  have : ∀ n, S n (fun j => 0 * v j + (if j = i then v i else 0)) = if i < n then v i else 0 := fun n => by
    induction n with
    | zero => rfl
    | succ n ih =>
      rw [S, ih]
      by_cases q : i < n
      · rw [if_pos q, if_neg (by omega), if_pos (by omega)]; grind
      · by_cases q2 : i = n
        · rw [if_neg q, if_pos q2.symm, if_pos (by omega)]; grind
        · rw [if_neg q, if_neg (fun w => q2 w.symm), if_neg (by omega)]; grind
  rw [this, if_pos hi]
def itr (w : Nat) (m : MT) : Nat → (Nat → Rat) → Nat → Rat
  | 0, v => v
  | k + 1, v => act w m (itr w m k v)
theorem itr_sq {w l : Nat} {m : MT} (hm : MOk w l m) (v : Nat → Rat) : ∀ k, ∀ i < w, itr w (mulM m m) k v i = itr w m (2 * k) v i
  | 0, _, _ => rfl
  | k + 1, i, hi => by
    rw [itr, act_mul hm hm _ hi, show 2 * (k + 1) = 2 * k + 1 + 1 by omega, itr, itr]
    refine act_congr (fun j hj => ?_) i
    exact act_congr (fun j' hj' => itr_sq hm v k j' hj') j
theorem itr_congr {w : Nat} {m : MT} (k : Nat) {v u : Nat → Rat} (h : ∀ j < w, v j = u j) : ∀ i < w, itr w m k v i = itr w m k u i := by
  induction k with
  | zero => exact h
  | succ k ih => exact fun i hi => act_congr (fun j hj => ih j hj) i
def app (w : Nat) (x : Nat × MT × MT) (v : Nat → Rat) : Nat → Rat := act w x.2.1 (itr w x.2.2 x.1 v)
theorem app_step {w j : Nat} {x : Nat × MT × MT} (h : MI w j x) (v : Nat → Rat) {i : Nat} (hi : i < w) (hx : x.1 ≠ 0) : app w (mrStep x) v i = app w x v i := by
  obtain ⟨n, f, s⟩ := x
  have hf : MOk w _ f := h.f
  have hs : MOk w _ s := h.s
  show act w (if n % 2 = 1 then mulM f s else f) (itr w (if 0 < n / 2 then mulM s s else s) (n / 2) v) i = act w f (itr w s n v) i
  have e : ∀ c < w, itr w (if 0 < n / 2 then mulM s s else s) (n / 2) v c = itr w s (2 * (n / 2)) v c := fun c hc => by
    split
    · exact itr_sq hs v _ c hc
    · rename_i q
      rw [show n / 2 = 0 by omega]
  rw [act_congr e]
  split
  · rename_i q
    rw [act_mul hf hs _ hi]
    have e2 : 2 * (n / 2) + 1 = n := by omega
    show act w f (itr w s (2 * (n / 2) + 1) v) i = _
    rw [e2]
  · rename_i q
    have e2 : 2 * (n / 2) = n := by omega
    rw [e2]
theorem app_run {w : Nat} (h0 : 0 < w) (hw : w ≤ 3) (v : Nat → Rat) {i : Nat} (hi : i < w) : ∀ (k j : Nat) (x : Nat × MT × MT), MI w j x → app w (mrIt k x) v i = app w x v i
  | 0, _, _, _ => rfl
  | k + 1, j, x, h => by
    rw [mrIt]
    split
    · rfl
    · rename_i q
      rw [app_run h0 hw v hi k (j + 1) _ (h.step h0 hw q), app_step h v hi q]
theorem mraise_act {w : Nat} {a : MT} (ha : MOk w 2 a) (h0 : 0 < w) (hw : w ≤ 3) {k : Nat} (hk : k < 16) (v : Nat → Rat) {i : Nat} (hi : i < w) : act w (mraise a k) v i = itr w a k v i := by
  have hM : MI w 0 (k, unitM a.length, a) := ⟨Nat.zero_le _, hk, by rw [ha.1]; exact unit_ok w, ha⟩
  obtain ⟨j, h1, h2⟩ := MI.run h0 hw 4 0 _ hM rfl
  have e := app_run h0 hw v hi 4 0 _ hM
  have e1 : app w (mrIt 4 (k, unitM a.length, a)) v i = act w (mraise a k) v i := by
    unfold app mraise
    rw [h2]; rfl
  rw [← e1, e]
  show act w (unitM a.length) (itr w a k v) i = _
  rw [ha.1, act_unit _ hi]
theorem step_act {steps first : List Int} (hf : first.length = steps.length) {n : Nat} (hn : steps.length ≤ n + 1) {i : Nat} (hi : i < steps.length) :
    act steps.length (stepM steps) (fun j => sr steps first (n - j)) i = sr steps first (n + 1 - i) := by
  have h0 : 0 < steps.length := by omega
  cases i with
  | zero =>
    rw [Nat.sub_zero, sr_next hf hn]
    unfold act
    exact S_congr _ fun j hj => by
      rw [show n + 1 - 1 - j = n - j by omega]; rfl
  | succ i =>
    have e : (stepM steps).getD (i + 1) [] = (List.range steps.length).map fun s => if s = i then 1 else 0 := by
      unfold stepM
      rw [List.getD_eq_getElem?_getD, List.getElem?_cons_succ, List.getElem?_map, List.getElem?_range (by omega)]; rfl
    have e' : (unitM steps.length).getD i [] = (List.range steps.length).map fun c => if i = c then 1 else 0 := by
      unfold unitM
      rw [List.getD_eq_getElem?_getD (l := List.map _ _), List.getElem?_map, List.getElem?_range (by omega)]; rfl
    have : act steps.length (stepM steps) (fun j => sr steps first (n - j)) (i + 1) = act steps.length (unitM steps.length) (fun j => sr steps first (n - j)) i := by
      unfold act
      rw [e, e']
      refine S_congr _ fun j hj => ?_
      simp only [List.getD_eq_getElem?_getD (l := List.map _ _), List.getElem?_map, List.getElem?_range hj]
      show ((if j = i then (1 : Int) else 0 : Int) : Rat) * _ = ((if i = j then (1 : Int) else 0 : Int) : Rat) * _
      by_cases q : j = i
      · rw [if_pos q, if_pos q.symm]
      · rw [if_neg q, if_neg (fun w => q w.symm)]
    rw [this, act_unit _ (by omega), show n + 1 - (i + 1) = n - i by omega]
theorem step_itr {steps first : List Int} (hf : first.length = steps.length) (h0 : 0 < steps.length) (k : Nat) : ∀ i < steps.length, itr steps.length (stepM steps) k (fun j => sr steps first (steps.length - 1 - j)) i = sr steps first (steps.length - 1 + k - i) := by
  induction k with
  | zero => intro i hi; rfl
  | succ k ih =>
    intro i hi
    rw [itr, act_congr (u := fun j => sr steps first (steps.length - 1 + k - j)) ih, step_act hf (by omega) hi]
    rfl
theorem numAt_eq {steps first : List Int} (h1 : IOk 2 steps) (hl : steps.length ≤ 3) (hf : first.length = steps.length) {k : Nat} (hk : k ≤ 9) : numAt steps first k = sq steps first k := by
  unfold numAt
  split
  · rename_i h; rw [sq_first (by omega)]
  · rename_i h
    split
    · rename_i h2
      rw [sq_next hf (by omega), h2]; rfl
    · rename_i h2
      have h0 : 0 < steps.length := by omega
      have hM := stepM_ok h1 h0
      have hlM : (stepM steps).length = steps.length := hM.1
      obtain ⟨i, hi, _⟩ := MI.run h0 hl 4 0 (k - steps.length + 1, unitM (stepM steps).length, stepM steps) ⟨Nat.zero_le _, by dsimp only; omega, by rw [hlM]; exact unit_ok _, hM⟩ rfl
      have hr : MOk steps.length 62 (mraise (stepM steps) (k - steps.length + 1)) := hi.f.mono (bF_le i hi.le)
      rw [cast_zip steps.length _ _ (hr.get h0).1 (by rw [List.length_reverse]; exact hf)]
      have e := mraise_act hM h0 hl (k := k - steps.length + 1) (by omega) (fun j => sr steps first (steps.length - 1 - j)) h0
      rw [step_itr hf h0 _ 0 h0, show steps.length - 1 + (k - steps.length + 1) - 0 = k by omega] at e
      apply Rat.intCast_inj.mp
      show _ = sr steps first k
      rw [← e, cast_sum]
      unfold act
      refine S_congr _ fun j hj => ?_
      rw [Rat.intCast_mul]
      congr 1
      show _ = ((sq steps first (steps.length - 1 - j) : Int) : Rat)
      rw [sq_first (by omega), List.getD_eq_getElem?_getD, List.getElem?_reverse (by omega), List.getD_eq_getElem?_getD, hf]
end Nn

-- part W22
namespace Nn
variable {C : Ct} {env : Env} {ρ : Ro} {ω : Om} {n : Nat}
open PySem (Expr)

local macro_rules | `(tactic| walk_at "cap") => `(tactic| first | exact trivial | exact ⟨⟨rfl, rfl, fun L => ⟨rfl, rfl, nofun⟩, by decide⟩, by walk_at "cap"⟩)
local macro_rules | `(tactic| walk_at "clo") => `(tactic| first | exact trivial | exact ⟨rfl, by walk_at "clo"⟩)
local macro_rules | `(tactic| walk_at "tgt") => `(tactic| first | exact trivial | exact ⟨⟨fun L => .inl rfl, rfl, rfl⟩, by walk_at "tgt"⟩ | exact ⟨⟨fun L => .inr ⟨rfl, rfl⟩, rfl, rfl⟩, by walk_at "tgt"⟩)
local macro_rules | `(tactic| walk_at "blk") => `(tactic| exact Blk.of rfl rfl (by decide) (by walk_at "clo") (by walk_at "cap") (by walk_at "cap") (by walk_at "tgt"))
local macro_rules | `(tactic| walk_at "sto") => `(tactic| first | exact .inl rfl | exact .inr ⟨rfl, rfl⟩)
local macro_rules | `(tactic| walk_at "stos") => `(tactic| first | exact List.forall_mem_nil _ | refine List.forall_mem_cons.mpr (And.intro (And.intro (by walk_at "sto") (by rfl)) (by walk_at "stos")))


def lawFns : List Nat := [3, 4, 6, 10, 11, 12, 13, 14, 15, 16, 18, 19, 20, 21, 22, 23, 24, 25, 26, 27, 28, 31, 33, 34, 35, 36, 37, 38, 39, 40, 41, 42, 43, 45, 46, 47, 48, 49, 50, 51, 52]
theorem lawFns_all : ∀ i < 53, 3 ≤ i → (fdAt i).body.isEmpty = false → i ∈ lawFns := by decide +kernel
def hkNames : List Str := ["R0", "R1", "F0", "len", "max", "min", "abs", "sum", "range", "enumerate", "zip", "list"]
def hkVals : List (Option Value) := [some (.ref 52), some (.ref 53), some (.ref 176), none, none, none, none, none, none, none, none, none]
def hkAt : List Nat := [52, 53, 174, 175, 176]
def hkObjs : List (Option Obj) := [some (tupO #[.int 0 246, .int 1 247] 0), some (tupO #[.int 1 249, .int 1 250] 0), some (lstO #[] 0), some (lstO #[.ref 53] 0), some (tupO #[.ref 174, .ref 175] 0)]
def HkSays (h : Heap) : Prop := (∃ m, h.Ns mainGlobals m ∧ hkNames.map m = hkVals) ∧ ∀ p ∈ hkAt.zip hkObjs, h.get? p.1 = p.2
def hk : Hook := ⟨Bool × List (Option Value) × List (Option Obj), fun s => (s.heap.isNs mainGlobals, hkNames.map (s.heap.nsMap mainGlobals), hkAt.map s.heap.get?), fun _ => (true, hkVals, hkObjs), fun _ h => HkSays h,
  fun _ s e => by
    have e1 := congrArg Prod.fst e
    have e2 := congrArg (fun x => x.2.1) e
    have e3 := congrArg (fun x => x.2.2) e
    refine ⟨⟨_, .of_isNs e1, e2⟩, fun p hp => ?_⟩
    rw [← show hkAt.map s.heap.get? = hkObjs from e3] at hp
    simp only [hkAt, List.map, List.zip, List.zipWith, List.mem_cons, List.not_mem_nil, or_false] at hp
    rcases hp with rfl | rfl | rfl | rfl | rfl <;> rfl,
  fun _ h h' x k => ⟨let ⟨m, a, b⟩ := x.1; ⟨m, a.keeps k, b⟩, fun p hp => by
    have := x.2 p hp
    simp only [hkAt, hkObjs, List.zip, List.zipWith, List.mem_cons, List.not_mem_nil, or_false] at hp
    rcases hp with rfl | rfl | rfl | rfl | rfl <;> exact k _ _ this⟩⟩
theorem ctok {q : Program} {loose : List Str} {w : World} {mean : ExcName → Option Value} {mg mb : Str → Option Value} {h : Heap} (T : Top q loose mean mg mb h) (Y : HkSays h)
    (hn : importsNone q = true) (hr : ∃ r, recsOf q = lawFns.map fdAt ++ r) : CtOk ⟨PySem.Challenge.pw_nn0268_01, w, h, mg, mb⟩ := by
  obtain ⟨⟨m, nm, em⟩, Y⟩ := Y
  obtain rfl := ns_unique nm T.g
  simp only [hkNames, hkVals, List.map, List.cons.injEq, and_true] at em
  obtain ⟨n0, n1, n2, em⟩ := em
  simp only [hkAt, hkObjs, List.zip, List.zipWith, List.forall_mem_cons] at Y
  obtain ⟨l0, l1, l3, l4, l2, -⟩ := Y
  have r1 : Rp h.get? (.ref 53) (ratD 1) := .tup l1 (.cons (.int _ _) (.cons (.int _ _) .nil))
  exact {
    ns := T.g
    bns := T.b
    nolimit := T.nolimit
    noseer := T.seer hn
    tree := rfl
    boot := T.builtins
    free := by simpa only [freeNames, List.forall_mem_cons, List.not_mem_nil, false_implies, implies_true, and_true] using em
    fn := fun i h1 h2 h3 => by
      obtain ⟨r, hr⟩ := hr
      have hi := lawFns_all i (by omega) h1 (by
        cases e : (fdAt i).body with
        | nil => exact absurd e h3
        | cons _ _ => rfl)
      exact T.fn (fdAt i) (by rw [hr]; exact List.mem_append_left _ (List.mem_map_of_mem hi))
    r0 := ⟨_, n0, .tup l0 (.cons (.int _ _) (.cons (.int _ _) .nil))⟩
    r1 := ⟨_, n1, r1⟩
    f0 := ⟨_, n2, .tup l2 (.cons (.lst l3 .nil) (.cons (.lst l4 (.cons r1 .nil)) .nil))⟩ }
end Nn

-- part W23
namespace Nn
variable {C : Ct} {env : Env} {ρ : Ro} {ω : Om} {n : Nat}
open PySem (Expr)

local macro_rules | `(tactic| walk_at "cap") => `(tactic| first | exact trivial | exact ⟨⟨rfl, rfl, fun L => ⟨rfl, rfl, nofun⟩, by decide⟩, by walk_at "cap"⟩)
local macro_rules | `(tactic| walk_at "clo") => `(tactic| first | exact trivial | exact ⟨rfl, by walk_at "clo"⟩)
local macro_rules | `(tactic| walk_at "tgt") => `(tactic| first | exact trivial | exact ⟨⟨fun L => .inl rfl, rfl, rfl⟩, by walk_at "tgt"⟩ | exact ⟨⟨fun L => .inr ⟨rfl, rfl⟩, rfl, rfl⟩, by walk_at "tgt"⟩)
local macro_rules | `(tactic| walk_at "blk") => `(tactic| exact Blk.of rfl rfl (by decide) (by walk_at "clo") (by walk_at "cap") (by walk_at "cap") (by walk_at "tgt"))
local macro_rules | `(tactic| walk_at "sto") => `(tactic| first | exact .inl rfl | exact .inr ⟨rfl, rfl⟩)
local macro_rules | `(tactic| walk_at "stos") => `(tactic| first | exact List.forall_mem_nil _ | refine List.forall_mem_cons.mpr (And.intro (And.intro (by walk_at "sto") (by rfl)) (by walk_at "stos")))


theorem execs_append : ∀ (a b : List Stmt) (env : Env), execs (a ++ b) env = (do let f ← execs a env; match f with | .next => execs b env | f => pure f)
  | [], b, env => by
    rw [List.nil_append, show execs [] env = pure .next from rfl, pure_bind]
  | s :: a, b, env => by
    rw [List.cons_append, execs_cons, execs_cons, bind_assoc]
    congr 1
    funext f
    cases f with
    | next => exact execs_append a b env
    | _ => rw [pure_bind]
theorem wpAny_execs_append {M : Model} {A : Around} {E : Value → Shared → Prop} {s : Shared} {a b : List Stmt} {Q : Flow → Shared → Prop} (h : wpAny M A (execs a env) (fun f s' => match f with | .next => wpAny M A (execs b env) Q E s' | f => Q f s') E s) : wpAny M A (execs (a ++ b) env) Q E s := by
  rw [execs_append]
  refine wpAny_bind (wpAny_mono h (fun f s' k => ?_) fun _ _ e => e)
  cases f with
  | next => exact k
  | _ => exact wpAny_pure k

abbrev opqD (a : Addr) : PyData := .dict [(.int (.ofNat a), .none)]
theorem opq_inv {b : View} {v : Value} {a : Addr} (h : Rp b v (opqD a)) : v = .ref a := by
  generalize hd : opqD a = d at h
  cases h with
  | opq a' =>
    simp only [opqD, PyData.dict.injEq, List.cons.injEq, Prod.mk.injEq, PyData.int.injEq, Int.ofNat.injEq] at hd
    rw [hd.1.1]
  | _ => cases hd

-- the store of draws
def Dct (C : Ct) (h : Heap) (Z : Addr) (g m : Int) : Prop := ∃ tg tm, h.DictOf (PySem.strKind C.prog C.w) Z [(("great" : Str), .int g tg), (("mixed" : Str), .int m tm)]
def DcO (C : Ct) (h : Heap) (Z : Addr) : Prop := ∃ g m, 0 ≤ g ∧ 0 ≤ m ∧ Dct C h Z g m
theorem DcO.obj {h : Heap} {Z : Addr} (d : DcO C h Z) : ∃ o es ep, h.get? Z = some o ∧ o.data = .dict es ep := by
  obtain ⟨g, m, _, _, tg, tm, o, es, ep, ho, _, hd, _⟩ := d
  exact ⟨o, es, ep, ho, hd⟩
theorem DcO.at' {h h' : Heap} {Z : Addr} (d : DcO C h Z) (e : ∀ o, h.get? Z = some o → h'.get? Z = some o) : DcO C h' Z := by
  obtain ⟨g, m, h1, h2, tg, tm, o, es, ep, ho, r⟩ := d
  exact ⟨g, m, h1, h2, tg, tm, o, es, ep, e _ ho, r⟩
structure DOk (C : Ct) (h : Heap) (Z : Addr) (b : View) (he : Heap) (env : Env) : Prop where
  dc : DcO C h Z
  b : b Z = none
  he : he.get? Z = none
  L : Z ≠ env.locals
structure StepD (C : Ct) (Z : Addr) (b : View) (s : Shared) (b' : View) (s' : Shared) : Prop where
  same : Sm s s'
  hh : ∀ a o, a ≠ Z → s.heap.get? a = some o → s'.heap.get? a = some o
  bb : Sub b b'
  bh : Sub b' s'.heap.get?
  new : ∀ a o, b' a = some o → b a = some o ∨ s.heap.get? a = none
  dc : DcO C s'.heap Z
theorem StepD.of {Z : Addr} {b b' : View} {s s' : Shared} (x : Step b s b' s') (d : DcO C s.heap Z) : StepD C Z b s b' s' :=
  ⟨x.same, fun a o _ e => x.hh a o e, x.bb, x.bh, x.new, d.at' fun o e => x.hh _ o e⟩
theorem StepD.none {Z : Addr} {b b' : View} {s s' : Shared} (x : StepD C Z b s b' s') (d : DcO C s.heap Z) {a : Addr} (e : s'.heap.get? a = none) : s.heap.get? a = none := by
  cases q : s.heap.get? a with
  | none => rfl
  | some o =>
    by_cases w : a = Z
    · subst w
      obtain ⟨o', _, _, ho, _⟩ := x.dc.obj
      rw [ho] at e; cases e
    · rw [x.hh a o w q] at e; cases e
theorem StepD.trans {Z : Addr} {b b1 b2 : View} {s s1 s2 : Shared} (d : DcO C s.heap Z) (x : StepD C Z b s b1 s1) (y : StepD C Z b1 s1 b2 s2) : StepD C Z b s b2 s2 where
  same := x.same.trans y.same
  hh := fun a o w e => y.hh a o w (x.hh a o w e)
  bb := x.bb.trans y.bb
  bh := y.bh
  new := fun a o e => by
    rcases y.new a o e with q | q
    · exact x.new a o q
    · exact .inr (x.none d q)
  dc := y.dc
theorem DOk.ne_cell {h : Heap} {Z : Addr} (d : DcO C h Z) {c : Addr} {v0 : Option Value} (k : h.IsCell c v0) : c ≠ Z := fun e => by
  obtain ⟨o, es, ep, ho, hd⟩ := d.obj
  obtain ⟨o', ho', hd'⟩ := k
  subst e; rw [ho] at ho'; cases ho'; rw [hd] at hd'; cases hd'
theorem DOk.ne_lst {h : Heap} {Z : Addr} (d : DcO C h Z) {l : Addr} {vs : Array Value} {k : Nat} (g : h.get? l = some (lstO vs k)) : l ≠ Z := fun e => by
  obtain ⟨o, es, ep, ho, hd⟩ := d.obj
  subst e; rw [ho] at g; cases g; cases hd
theorem Inv.stepD {he : Heap} {Z : Addr} {b0 b b' : View} {s s' : Shared} (I : Inv C.g0 he b0 b s.heap env ρ ω) (O : DOk C s.heap Z b he env) (x : StepD C Z b s b' s') :
    Inv C.g0 he b0 b' s'.heap env ρ ω ∧ DOk C s'.heap Z b' he env := by
  have nb : ∀ a o, s.heap.get? a = some o → b a = none → b' a = none := fun a o e n => by
    cases q : b' a with
    | none => rfl
    | some o' =>
      rcases x.new a o' q with p | p
      · rw [n] at p; cases p
      · rw [e] at p; cases p
  obtain ⟨oz, ez, pz, hz, dz⟩ := O.dc.obj
  have hen : ∀ a, s.heap.get? a = none → he.get? a = none := fun a e => I.eh.none e
  have nsK : ∀ {m}, s.heap.Ns env.locals m → s'.heap.Ns env.locals m := fun n => n.at' fun o e => x.hh _ o (Ne.symm O.L) e
  have cellK : ∀ {c v0}, s.heap.IsCell c v0 → s'.heap.IsCell c v0 := fun k => by
    have hne := DOk.ne_cell O.dc k
    obtain ⟨o, ho, hd⟩ := k
    exact ⟨o, x.hh _ o hne ho, hd⟩
  have seesK : ∀ {y v}, Sees s.heap env y v → Sees s'.heap env y v := fun S => by
    cases S with
    | loc m' q n' em => exact .loc m' q (nsK n') em
    | cell c q lk ic => exact .cell c q lk (cellK ic)
  refine ⟨{
    ok := I.ok, g := I.g.trans x.bb, bh := x.bh, b0b := I.b0b.trans x.bb, nse := I.nse, cdist := I.cdist
    eh := fun a o e => x.hh a o (fun w => by rw [w, O.he] at e; cases e) (I.eh a o e)
    new := fun a o e => by
      rcases x.new a o e with q | q
      · exact I.new a o q
      · exact .inr (hen a q)
    ns := let ⟨m, n⟩ := I.ns; ⟨m, nsK n⟩
    nsb := by
      obtain ⟨m, o, es, ep, ho, _⟩ := I.ns
      exact nb _ _ ho I.nsb
    cel := fun y c e => by
      obtain ⟨⟨v0, hv⟩, h2, h3⟩ := I.cel y c e
      obtain ⟨o, ho, _⟩ := id hv
      exact ⟨⟨v0, cellK hv⟩, nb _ _ ho h2, h3⟩
    var := fun y d e => let ⟨v, h1, h2⟩ := I.var y d e; ⟨v, seesK h1, h2.mono x.bb⟩
    own := by
      obtain ⟨ad, W⟩ := I.own
      refine ⟨ad, ⟨fun y ds e => ?_, W.apart⟩⟩
      obtain ⟨h1, ⟨vs, n, h2, h3⟩, h4, h5⟩ := W.at' y ds e
      exact ⟨seesK h1, ⟨vs, n, x.hh _ _ (DOk.ne_lst O.dc h2) h2, h3.mono x.bb⟩, nb _ _ h2 h4, h5⟩ }, ⟨x.dc, nb _ _ hz O.b, O.he, O.L⟩⟩

def EfX (C : Ct) (env : Env) (ρ : Ro) (ω : Om) (n : Nat) (Z : Addr) (e : Expr) (Q : PyData → Prop) : Prop :=
  ∀ A s he b0 b, Good A n → Inv C.g0 he b0 b s.heap env ρ ω → DOk C s.heap Z b he env → wpX C A (eval e env) (fun v s' => ∃ b' d, StepD C Z b s b' s' ∧ Rp b' v d ∧ Q d) s
theorem EfX.of {Z : Addr} {e : Expr} {d : PyData} {Q : PyData → Prop} (h : EvX C env ρ ω n e d) (q : Q d) : EfX C env ρ ω n Z e Q := fun A s he b0 b G I O =>
  (h A s he b0 b G I).any fun v s1 ⟨b1, x1, r⟩ => ⟨b1, d, .of x1 O.dc, r, q⟩
theorem EfX.bin {Z : Addr} {l r : Expr} {op : PySem.Operator} {pos : Pos} {Q1 Q2 Q : PyData → Prop} (h1 : EfX C env ρ ω n Z l Q1) (h2 : EfX C env ρ ω n Z r Q2) (h : ∀ d1 d2, Q1 d1 → Q2 d2 → ∃ d, BinX C op n d1 d2 d ∧ Q d) :
    EfX C env ρ ω n Z (.BinOp l op r pos) Q := fun A s he b0 b G I O =>
  wpAny_BinOp ((h1 A s he b0 b G I O).any fun v1 s1 ⟨b1, d1, x1, r1, q1⟩ => by
    obtain ⟨I1, O1⟩ := I.stepD O x1
    refine (h2 A s1 he b0 b1 G I1 O1).any fun v2 s2 ⟨b2, d2, x2, r2, q2⟩ => ?_
    obtain ⟨I2, O2⟩ := I1.stepD O1 x2
    obtain ⟨d, hb, q⟩ := h d1 d2 q1 q2
    exact (hb A s2 b2 v1 v2 G I2.g x2.bh (r1.mono x2.bb) r2).any fun v s3 ⟨b3, x3, r3⟩ => ⟨b3, d, (x1.trans O.dc x2).trans O.dc (.of x3 x2.dc), r3, q⟩)
theorem EfX.call2 (K : CtOk C) {Z : Addr} {f : Str} {p pos : Pos} {e1 e2 : Expr} {m : Nat} {Q1 Q2 Q : PyData → Prop} (hx : env.kindOf f = some .globalImplicit) (h1 : EfX C env ρ ω n Z e1 Q1) (h2 : EfX C env ρ ω n Z e2 Q2)
    (hf : ∃ a o fd, C.mg f = some (.ref a) ∧ C.g0.get? a = some o ∧ o.data = .func fd ∧ ∀ A s b v1 v2 d1 d2, Good A m → Sub C.g0.get? b → Sub b s.heap.get? → Rp b v1 d1 → Rp b v2 d2 → Q1 d1 → Q2 d2 → wpX C A (call (.ref a) [v1, v2]) (fun v s' => ∃ b' d, Step b s b' s' ∧ Rp b' v d ∧ Q d) s) (hm : m ≤ n)
    (hs : ∀ env, starEach [e1, e2] env = (false, eval e1 env) :: starEach [e2] env := by intro; rfl) (hs' : ∀ env, starEach [e2] env = (false, eval e2 env) :: starEach [] env := by intro; rfl) (hd : (f == ("__debug__" : Str)) = false := by decide) :
    EfX C env ρ ω n Z (.Call (.Name f p) [e1, e2] [] pos) Q := fun A s he b0 b G I O => by
  obtain ⟨a, o, fd, g1, g2, g3, g4⟩ := hf
  rw [show eval (.Call (.Name f p) [e1, e2] [] pos) env = (do callWith pos (← eval (.Name f p) env) [] (backTo pos (starEach [e1, e2] env)) (backToKw pos (keywordEach [] env))) from rfl]
  refine wpAny_bind (Name_function_global I.ok.kind hx (loadGlobal_global (by rw [I.ok.gl]; exact K.ns.keeps I.g0h) g1 ?_) hd)
  refine callWith_def (o := o) (fd := fd) g3 (wpAny_items_cons ((h1 A s he b0 b G I O).any fun v1 s1 ⟨b1, d1, x1, r1, q1⟩ => ?_) (hs _)) (hs env)
  obtain ⟨I1, O1⟩ := I.stepD O x1
  refine wpAny_items_cons ((h2 A s1 he b0 b1 G I1 O1).any fun v2 s2 ⟨b2, d2, x2, r2, q2⟩ => wpAny_items_nil ?_) (hs' _)
  obtain ⟨I2, O2⟩ := I1.stepD O1 x2
  refine ⟨I2.g0h _ _ g2, ?_⟩
  exact (g4 A s2 b2 v1 v2 d1 d2 (G.mono hm) I2.g x2.bh (r1.mono x2.bb) r2 q1 q2).any fun v s3 ⟨b3, d, x3, r3, q⟩ => ⟨b3, d, (x1.trans O.dc x2).trans O.dc (.of x3 x2.dc), r3, q⟩
/-- the call that draws -/
theorem EfX.take (K : CtOk C) {Z : Addr} {f : Str} {p pos : Pos} {e1 e2 : Expr} {m : Nat} {d1 d2 : PyData} {Q : PyData → Prop} (hx : env.kindOf f = some .globalImplicit) (h1 : EvX C env ρ ω n e1 d1) (h2 : EvX C env ρ ω n e2 d2)
    (hf : ∃ a o fd, C.mg f = some (.ref a) ∧ C.g0.get? a = some o ∧ o.data = .func fd ∧ ∀ A s b v1 v2, Good A m → Sub C.g0.get? b → Sub b s.heap.get? → Rp b v1 d1 → Rp b v2 d2 → b Z = none → DcO C s.heap Z → wpX C A (call (.ref a) [v1, v2]) (fun v s' => ∃ b' d, StepD C Z b s b' s' ∧ Rp b' v d ∧ Q d) s) (hm : m ≤ n)
    (hs : ∀ env, starEach [e1, e2] env = (false, eval e1 env) :: starEach [e2] env := by intro; rfl) (hs' : ∀ env, starEach [e2] env = (false, eval e2 env) :: starEach [] env := by intro; rfl) (hd : (f == ("__debug__" : Str)) = false := by decide) :
    EfX C env ρ ω n Z (.Call (.Name f p) [e1, e2] [] pos) Q := fun A s he b0 b G I O => by
  obtain ⟨a, o, fd, g1, g2, g3, g4⟩ := hf
  rw [show eval (.Call (.Name f p) [e1, e2] [] pos) env = (do callWith pos (← eval (.Name f p) env) [] (backTo pos (starEach [e1, e2] env)) (backToKw pos (keywordEach [] env))) from rfl]
  refine wpAny_bind (Name_function_global I.ok.kind hx (loadGlobal_global (by rw [I.ok.gl]; exact K.ns.keeps I.g0h) g1 ?_) hd)
  refine callWith_def (o := o) (fd := fd) g3 (wpAny_items_cons ((h1 A s he b0 b G I).any fun v1 s1 ⟨b1, x1, r1⟩ => ?_) (hs _)) (hs env)
  have I1 := I.step x1
  refine wpAny_items_cons ((h2 A s1 he b0 b1 G I1).any fun v2 s2 ⟨b2, x2, r2⟩ => wpAny_items_nil ?_) (hs' _)
  have I2 := I1.step x2
  have y := StepD.of (x1.trans x2) O.dc
  obtain ⟨_, O2⟩ := I.stepD O y
  refine ⟨I2.g0h _ _ g2, ?_⟩
  exact (g4 A s2 b2 v1 v2 (G.mono hm) I2.g x2.bh (r1.mono x2.bb) r2 O2.b O2.dc).any fun v s3 ⟨b3, d, x3, r3, q⟩ => ⟨b3, d, y.trans O.dc x3, r3, q⟩

-- statements beside the store
def StD (C : Ct) (env : Env) (ρ : Ro) (ω : Om) (n : Nat) (Z : Addr) (ss : List Stmt) (K : PyData → Prop) : Prop :=
  ∀ A s he b0 b, Good A n → Inv C.g0 he b0 b s.heap env ρ ω → DOk C s.heap Z b he env → wpX C A (execs ss env) (fun fl s' => Sm s s' ∧ ∃ v d b', fl = .ret v ∧ K d ∧ Fin C he b0 b' s'.heap ∧ Rp b' v d ∧ DcO C s'.heap Z ∧ b' Z = none) s
theorem Inv.raiseD {he : Heap} {Z : Addr} {b0 b : View} {h : Heap} (I : Inv C.g0 he b0 b h env ρ ω) (O : DOk C h Z b he env) : ∃ he', Inv C.g0 he' b b h env ρ ω ∧ Sub he.get? he'.get? ∧ ∀ o, h.get? Z = some o → he'.get? Z = some o := by
  obtain ⟨ad, W⟩ := I.own
  obtain ⟨m, hn⟩ := I.ns
  obtain ⟨l, hl⟩ : ∃ l : List Addr, l = env.locals :: (env.cells.filterMap fun p => env.cells.lookup p.1) ++ (ω.filterMap fun p => (ω.lookup p.1).map fun _ => ad p.1) := ⟨_, rfl⟩
  have mem : ∀ a, a ∈ l → a = env.locals ∨ (∃ x, env.cells.lookup x = some a) ∨ (∃ x ds, ω.lookup x = some ds ∧ a = ad x) := fun a ha => by
    rw [hl] at ha
    rcases List.mem_append.mp ha with ha | ha
    · rcases List.mem_cons.mp ha with ha | ha
      · exact .inl ha
      · obtain ⟨p, hp, e⟩ := List.mem_filterMap.mp ha
        exact .inr (.inl ⟨p.1, e⟩)
    · obtain ⟨p, hp, e⟩ := List.mem_filterMap.mp ha
      obtain ⟨ds, e1, e2⟩ := Option.map_eq_some_iff.mp e
      exact .inr (.inr ⟨p.1, ds, e1, e2.symm⟩)
  have inl : env.locals ∈ l := by rw [hl]; exact List.mem_append_left _ (.head _)
  have inc : ∀ x c, env.cells.lookup x = some c → c ∈ l := fun x c e => by
    rw [hl]
    refine List.mem_append_left _ (.tail _ (List.mem_filterMap.mpr ⟨(x, c), mem_of_lookup e, e⟩))
  have ino : ∀ x ds, ω.lookup x = some ds → ad x ∈ l := fun x ds e => by
    rw [hl]
    exact List.mem_append_right _ (List.mem_filterMap.mpr ⟨(x, ds), mem_of_lookup e, by rw [e]; rfl⟩)
  have nh : ∀ a o, he.get? a = some o → a ∉ l := fun a o e ha => by
    rcases mem a ha with q | ⟨x, q⟩ | ⟨x, ds, q, p⟩
    · subst q; rw [I.nse] at e; cases e
    · rw [(I.cel x a q).2.2] at e; cases e
    · subst p; rw [(W.at' x ds q).2.2.2] at e; cases e
  refine ⟨hideAll h l, ?_, fun a o e => hideAll_get _ (I.eh a o e) (nh a o e), fun o e => hideAll_get _ e fun ha => ?_⟩
  · exact { ok := I.ok, g := I.g, bh := I.bh, b0b := .refl _, ns := I.ns, nsb := I.nsb, cdist := I.cdist, var := I.var
            eh := fun a o e => of_hideAll _ e
            new := fun a o e => .inl e
            nse := hideAll_none _ inl
            cel := fun x c e => let ⟨h1, h2, h3⟩ := I.cel x c e; ⟨h1, h2, hideAll_none _ (inc x c e)⟩
            own := ⟨ad, ⟨fun x ds e => let ⟨h1, h2, h3, h4⟩ := W.at' x ds e; ⟨h1, h2, h3, hideAll_none _ (ino x ds e)⟩, W.apart⟩⟩ }
  · rcases mem Z ha with q | ⟨x, q⟩ | ⟨x, ds, q, p⟩
    · exact O.L q
    · obtain ⟨⟨v0, hv⟩, _⟩ := I.cel x Z q
      exact DOk.ne_cell O.dc hv rfl
    · obtain ⟨_, ⟨vs, k, g, _⟩, _⟩ := W.at' x ds q
      exact DOk.ne_lst O.dc g p.symm
theorem StD.ofX {Z : Addr} {ss : List Stmt} {K : PyData → Prop} {d : PyData} (h : StX C env ρ ω n ss (fun r => r = .ret d)) (k : K d) : StD C env ρ ω n Z ss K := fun A s he b0 b G I O => by
  obtain ⟨he', I', k1, k2⟩ := I.raiseD O
  obtain ⟨o, _, _, ho, _⟩ := O.dc.obj
  have hz := k2 o ho
  exact (h A s he' b b G I').any fun fl s' ⟨m, r, e, ok⟩ => by
    subst e
    cases fl with
    | ret v =>
      obtain ⟨b', F, rv⟩ := ok
      refine ⟨m, v, d, b', rfl, k, F.lower k1 I.b0b I.new, rv, O.dc.at' fun o e => F.eh _ _ (k2 o e), ?_⟩
      cases q : b' Z with
      | none => rfl
      | some o' =>
        rcases F.new Z o' q with p | p
        · rw [O.b] at p; cases p
        · rw [hz] at p; cases p
    | _ => exact ok.elim
theorem StD.seq {Z : Addr} {ss1 ss2 : List Stmt} {K : PyData → Prop} {ρ' : Ro} {ω' : Om} (h : StX C env ρ ω n ss1 (fun r => r = .next ρ' ω')) (k : StD C env ρ' ω' n Z ss2 K) : StD C env ρ ω n Z (ss1 ++ ss2) K := fun A s he b0 b G I O => by
  obtain ⟨he', I', k1, k2⟩ := I.raiseD O
  refine wpAny_execs_append ((h A s he' b b G I').any fun fl s1 ⟨m, r, e, ok⟩ => ?_)
  subst e
  cases fl with
  | next =>
    obtain ⟨b1, I1⟩ := ok
    obtain ⟨o, _, _, ho, _⟩ := O.dc.obj
    have hz := k2 o ho
    have O1 : DOk C s1.heap Z b1 he env := {
      dc := O.dc.at' fun o e => I1.eh _ _ (k2 o e)
      b := by
        cases q : b1 Z with
        | none => rfl
        | some o' =>
          rcases I1.new Z o' q with p | p
          · rw [O.b] at p; cases p
          · rw [hz] at p; cases p
      he := O.he
      L := O.L }
    exact (k A s1 he b0 b1 G (I1.lower k1 I.b0b I.new) O1).any fun fl s2 ⟨m2, r2⟩ => ⟨m.trans m2, r2⟩
  | _ => exact ok.elim
theorem StD.take {Z : Addr} {ss : List Stmt} {K : PyData → Prop} {ρ' : Ro} {ω' : Om} (k : Nat) (h : StX C env ρ ω n (ss.take k) (fun r => r = .next ρ' ω')) (h2 : StD C env ρ' ω' n Z (ss.drop k) K) : StD C env ρ ω n Z ss K := by
  rw [← List.take_append_drop k ss]
  exact .seq h h2
theorem StD.assignE {Z : Addr} {x : Str} {p : Pos} {e : Expr} {pos : Pos} {rest : List Stmt} {Q K : PyData → Prop} (h : EfX C env ρ ω n Z e Q) (hx : Storable env x) (hω : ω.lookup x = none) (k : ∀ d, Q d → StD C env ((x, d) :: ρ) ω n Z rest K)
    (hs : ∀ env, swapsWith e (some (.Name x p)) pos.line env = pure false := by intro; rfl) : StD C env ρ ω n Z (.Assign [.Name x p] e pos :: rest) K := fun A s he b0 b G I O => by
  refine wpAny_execs_cons (wpAny_Assign_Name ((h A s he b0 b G I O).any fun v s1 ⟨b1, d, x1, r, q⟩ => ?_) (hs _))
  obtain ⟨I1, O1⟩ := I.stepD O x1
  refine store_base I1 hx hω r fun h' tk I' keep => ?_
  have O' : DOk C h' Z b1 he env := ⟨O1.dc.at' fun o e => keep Z o O1.L (fun c hc q => by
    obtain ⟨⟨v0, hv⟩, _⟩ := I1.cel x c hc
    exact DOk.ne_cell O1.dc hv q.symm) e, O1.b, O1.he, O1.L⟩
  exact (k d q A { s1 with heap := h', toks := tk } he b0 b1 G I' O').any fun fl s2 ⟨m2, r2⟩ => ⟨(x1.same.trans ⟨_, _, rfl⟩).trans m2, r2⟩
end Nn

-- part W24
namespace Nn
variable {C : Ct} {env : Env} {ρ : Ro} {ω : Om} {n : Nat}
open PySem (Expr)

local macro_rules | `(tactic| walk_at "cap") => `(tactic| first | exact trivial | exact ⟨⟨rfl, rfl, fun L => ⟨rfl, rfl, nofun⟩, by decide⟩, by walk_at "cap"⟩)
local macro_rules | `(tactic| walk_at "clo") => `(tactic| first | exact trivial | exact ⟨rfl, by walk_at "clo"⟩)
local macro_rules | `(tactic| walk_at "tgt") => `(tactic| first | exact trivial | exact ⟨⟨fun L => .inl rfl, rfl, rfl⟩, by walk_at "tgt"⟩ | exact ⟨⟨fun L => .inr ⟨rfl, rfl⟩, rfl, rfl⟩, by walk_at "tgt"⟩)
local macro_rules | `(tactic| walk_at "blk") => `(tactic| exact Blk.of rfl rfl (by decide) (by walk_at "clo") (by walk_at "cap") (by walk_at "cap") (by walk_at "tgt"))
local macro_rules | `(tactic| walk_at "sto") => `(tactic| first | exact .inl rfl | exact .inr ⟨rfl, rfl⟩)
local macro_rules | `(tactic| walk_at "stos") => `(tactic| first | exact List.forall_mem_nil _ | refine List.forall_mem_cons.mpr (And.intro (And.intro (by walk_at "sto") (by rfl)) (by walk_at "stos")))


def ItD (C : Ct) (env : Env) (ρ : Ro) (ω : Om) (n : Nat) (Z : Addr) (tgt : Expr) (names : List Str) (iter : Expr) (N : Nat → Prop) : Prop :=
  ∀ A s he b0 b, Good A n → Inv C.g0 he b0 b s.heap env ρ ω → DOk C s.heap Z b he env → wpX C A (eval iter env) (fun x s1 => wpX C A (pyIter x) (fun it s2 => ∃ sa ba b' I fp wr Pv St its, it = .ref I ∧ (N its.length ∧ its.length ≤ 1000) ∧ StepD C Z b s ba sa ∧ ItAt C A sa ba b' s2 true tgt names its I fp wr Pv St) s1) s
theorem ItD.of {Z : Addr} {tgt : Expr} {names : List Str} {iter : Expr} {its : List (List PyData)} {N : Nat → Prop} (h : ItX C env ρ ω n true tgt names iter its) (hN : N its.length) (hN' : its.length ≤ 1000) : ItD C env ρ ω n Z tgt names iter N := fun A s he b0 b G I O =>
  (h A s he b0 b G I).any fun x s1 h1 => wpX.any h1 fun it s2 ⟨b', I', fp, wr, Pv, St, e, T⟩ => ⟨s, b, b', I', fp, wr, Pv, St, its, e, ⟨hN, hN'⟩, .of (.refl I.bh) O.dc, T⟩
theorem ItD.range (K : CtOk C) {Z : Addr} {x p fp e pos} (N : Nat) (hx : env.kindOf "range" = some .globalImplicit) (h : EfX C env ρ ω n Z e (fun d => ∃ c : Int, d = .int c ∧ 0 ≤ c ∧ c ≤ N)) (hN : N ≤ 1000)
    (hs : ∀ env, starEach [e] env = (false, eval e env) :: starEach [] env := by intro; rfl) : ItD C env ρ ω n Z (.Name x p) [x] (.Call (.Name "range" fp) [e] [] pos) (· ≤ N) := fun A s he b0 b G I O =>
  blt_head K hx (by decide) rfl (by decide) (by decide) I (PyProof.Rows.callWith_type1 (wpAny_items_cons ((h A s he b0 b G I O).any fun v1 s1 ⟨b1, d, x1, r1, c, e, h0, hc⟩ => wpAny_items_nil (by
    subst e
    cases r1 with | int _ t => ?_
    refine call_range_1 ?_
    have y := Step.push x1.bh { cls := .type "range", data := .fields #[.int 0 s1.toks, .int c t, .int 1 (s1.toks + 1)] } (s1.toks + 1 + 1)
    have := range_fin (C := C) (x := x) (p := p) G y (IsRange.new s1.heap 0 c 1 s1.toks t (s1.toks + 1)) (by omega) (by omega) (by omega) (by omega)
    exact wpX.any this fun it s2 ⟨b', I', fp, wr, Pv, St, e, T⟩ => ⟨s1, b1, b', I', fp, wr, Pv, St, _, e, by rw [List.length_map, List.length_range]; constructor <;> omega, x1, T⟩)) (hs _)) (hs _))

structure CompEndD (C : Ct) (Z : Addr) (Q : PyData → Prop) (N : Nat) (s : Shared) (b : View) (D L : Addr) (bn : View) (acc : Array Value) (m : Nat) (ds : List PyData) (s' : Shared) : Prop where
  step : StepD C Z b s bn s'
  lst : s'.heap.get? D = some (lstO acc m)
  dat : RpAll bn acc.toList ds
  q : ∀ d ∈ ds, Q d
  len : ds.length = N
  dn : s.heap.get? D = none ∧ bn D = none
  ln : s.heap.get? L = none ∧ bn L = none ∧ D ≠ L
  ns : ∃ mm, s'.heap.Ns L mm
structure CompInvD (C : Ct) (Z : Addr) (Q : PyData → Prop) (s : Shared) (b b' : View) (cenv : Env) (ρc : Ro) (ωc : Om) (he : Heap) (b0 : View) (ad : Str → Addr) (D : Addr) (wr : List Addr) (St : Nat → Heap → Prop) (N : Nat) (s2 : Shared)
    (i : Nat) (bi : View) (acc : Array Value) (m : Nat) (d1 : List PyData) (s' : Shared) : Prop where
  le : i ≤ N
  sm : Sm s2 s'
  st : St i s'.heap
  lst : s'.heap.get? D = some (lstO acc m)
  dat : RpAll bi acc.toList d1
  q : ∀ d ∈ d1, Q d
  dl : d1.length = i
  inv : Inv C.g0 he b0 bi s'.heap cenv ρc ωc
  ow : Own bi s'.heap cenv he ωc ad
  keep : ∀ a o, a ∉ wr → a ≠ Z → s2.heap.get? a = some o → s'.heap.get? a = some o
  bb : Sub b' bi
  new : ∀ a o, bi a = some o → b a = some o ∨ s.heap.get? a = none
  bD : bi D = none
  bw : ∀ a ∈ wr, bi a = none
  dc : DcO C s'.heap Z
  bz : bi Z = none

theorem Own.stepD {he : Heap} {Z : Addr} {b b' : View} {s s' : Shared} {ad : Str → Addr} (W : Own b s.heap env he ω ad) (O : DOk C s.heap Z b he env) (x : StepD C Z b s b' s') : Own b' s'.heap env he ω ad := by
  refine ⟨fun y ds e => ?_, W.apart⟩
  obtain ⟨h1, ⟨vs, n, h2, h3⟩, h4, h5⟩ := W.at' y ds e
  refine ⟨?_, ⟨vs, n, x.hh _ _ (DOk.ne_lst O.dc h2) h2, h3.mono x.bb⟩, ?_, h5⟩
  · cases h1 with
    | loc m' q n' em => exact .loc m' q (n'.at' fun o e => x.hh _ o (Ne.symm O.L) e) em
    | cell c q lk ic =>
      have hne := DOk.ne_cell O.dc ic
      obtain ⟨o, ho, hd⟩ := ic
      exact .cell c q lk ⟨o, x.hh _ o hne ho, hd⟩
  · cases q : b' (ad y) with
    | none => rfl
    | some o' =>
      rcases x.new _ o' q with p | p
      · rw [h4] at p; cases p
      · rw [h2] at p; cases p

theorem comp_coreD {elt tgt iter : Expr} {scope : Scope} {pos : Pos} {cl : List (Str × Addr)} {its names ρc ωc} {Z : Addr} {Q : PyData → Prop} (Bk : Blk C env ρ ω scope cl ρc ωc names) {A : Around} {s s2 : Shared} {he : Heap} {b0 b b' : View} {I fp wr Pv St} (G : Good A n)
    (I0 : Inv C.g0 he b0 b s.heap env ρ ω) (Z0 : DOk C s.heap Z b he env) (T : ItAt C A s b b' s2 true tgt names its I fp wr Pv St)
    (hel : ∀ L item, item ∈ its → EfX C (cEnv scope L cl env) (upd names item ρc) ωc n Z elt Q)
    (hz : its.length ≤ 1000) {RR : Value → Addr → Result → Shared → Prop}
    (hR : ∀ D L bn acc m ds s', CompEndD C Z Q its.length s b D L bn acc m ds s' → RR (.ref D) L (.ok .next) s') :
    wpX C A (newList []) (fun acc s3 => wpX C A (newFunctionEnv scope env.globals cl [] env.qual none .none (some env)) (fun cenv s4 =>
      codeAny (model C.prog C.w) A (.compStart (.ListComp elt [⟨tgt, iter, [], 0⟩] scope pos) 0 (.ref I) acc { cenv with scope := relabel scope env }) (RR acc cenv.locals) s4) s3) s2 := by
  have I2 := I0.step T.step
  obtain ⟨ad, O0⟩ := I0.own
  have O2 := O0.step (ω := ω) T.step
  obtain ⟨_, Z2⟩ := I0.stepD Z0 (.of T.step Z0.dc)
  obtain ⟨oz, ez, pz, hzo, hzd⟩ := Z0.dc.obj
  refine wpAny_newObj_type (newEnv_comp ?_) (by size_fits)
  obtain ⟨D, hD⟩ : ∃ D : Nat, s2.heap.objs.size = D := ⟨_, rfl⟩
  have hp : s2.heap.get? D = none := hD ▸ get_size _
  have y3 : Step b' s2 b' { s2 with heap := s2.heap.push (lstO #[] 0) } := .push T.step.bh _ s2.toks
  have I3 := I2.step y3
  have O3 := O2.step (ω := ω) y3
  have hL : (s2.heap.push (lstO #[] 0)).objs.size = D + 1 := by rw [Heap.size_push, hD]
  obtain ⟨I4, O4⟩ := Bk.start I3 O3
  have up4 : Sub s2.heap.get? (pushCells ((s2.heap.push (lstO #[] 0)).push { cls := .type "dict", data := .dict #[] }) scope.names).get? := fun a o e => pushCells_keeps _ _ a o (Heap.get?_push_of_some _ (Heap.get?_push_of_some _ e))
  have l4 : (pushCells ((s2.heap.push (lstO #[] 0)).push { cls := .type "dict", data := .dict #[] }) scope.names).get? D = some (lstO #[] 0) :=
    pushCells_keeps _ _ _ _ (Heap.get?_push_of_some _ (hD ▸ Heap.get?_push_size _ rfl))
  dsimp only at I4 O4 ⊢
  rw [show (({ cls := Value.type "list", dict := none, data := Data.seq ([] : List Value).toArray } : Obj)) = lstO #[] 0 from rfl]
  generalize hH4 : pushCells ((s2.heap.push (lstO #[] 0)).push { cls := .type "dict", data := .dict #[] }) scope.names = h4 at I4 O4 up4 l4
  rw [hL] at I4 O4 ⊢
  rw [hD]
  have lt2 : ∀ {a : Addr} {o : Obj}, s2.heap.get? a = some o → @LT.lt Nat _ a D := fun e => hD ▸ natLt (Heap.lt_size e)
  have hz2 : s2.heap.get? Z = some oz := T.step.hh _ _ hzo
  have zD : @LT.lt Nat _ Z D := lt2 hz2
  have wlt : ∀ a ∈ wr, @LT.lt Nat _ a D := fun a ha => by
    obtain ⟨_, _, o, e⟩ := T.wr a ha
    exact lt2 e
  have ws : ∀ a o, s.heap.get? a = some o → a ∉ wr := fun a o e ha => by rw [(T.wr a ha).1] at e; cases e
  have wZ : ∀ a ∈ wr, a ≠ Z := fun a ha q => ws Z oz hzo (q ▸ ha)
  have cells : ∀ x c, (cEnv scope (D + 1) cl env).cells.lookup x = some c → (∃ v o, s.heap.get? c = some o ∧ o.data = .cell v ∧ cl.lookup x = some c) ∨ @LE.le Nat _ (D + 2) c := fun x c e => by
    have hz2 : ((s2.heap.push (lstO #[] 0)).push { cls := .type "dict", data := .dict #[] }).objs.size = D + 2 := by rw [Heap.size_push, hL]
    have e' : (cellsFrom ((s2.heap.push (lstO #[] 0)).push { cls := .type "dict", data := .dict #[] }).objs.size scope.names cl).lookup x = some c := by rw [hz2]; exact e
    rcases cellsFrom_case _ _ _ x c e' with q | ⟨q1, _⟩
    · obtain ⟨⟨v0, o, ho, hd⟩, _⟩ := I0.cel x c (Bk.clo x c q)
      exact .inl ⟨v0, o, ho, hd, q⟩
    · rw [hz2] at q1; exact .inr q1
  have cw : ∀ x c, (cEnv scope (D + 1) cl env).cells.lookup x = some c → c ∉ wr := fun x c e ha => by
    rcases cells x c e with ⟨v, o, ho, _⟩ | q
    · exact ws c o ho ha
    · have := wlt c ha; omega
  have cD : ∀ x c, (cEnv scope (D + 1) cl env).cells.lookup x = some c → c ≠ D := fun x c e q => by
    rcases cells x c e with ⟨v, o, ho, _⟩ | p
    · subst q; rw [T.step.hh _ _ ho] at hp; cases hp
    · subst q; omega
  have cN : ∀ x ∈ names, ∀ c, (cEnv scope (D + 1) cl env).cells.lookup x = some c → @LE.le Nat _ (D + 2) c := fun x hx c e => by
    rcases cells x c e with ⟨v, o, ho, _, q⟩ | p
    · rw [Bk.nm x hx] at q; cases q
    · exact p
  have adw : ∀ x ds', ωc.lookup x = some ds' → ad x ∉ wr ∧ ad x ≠ D := fun x ds' e => by
    obtain ⟨_, ⟨vs, k, g, _⟩, _⟩ := O0.at' x ds' (Bk.captω x ds' e).1
    exact ⟨ws _ _ g, fun q => by rw [← q, T.step.hh _ _ g] at hp; cases hp⟩
  have hew : ∀ a o, he.get? a = some o → a ∉ wr ∧ a ≠ D := fun a o e => by
    have := I0.eh a o e
    exact ⟨ws a o this, fun q => by rw [← q, T.step.hh _ _ this] at hp; cases hp⟩
  have Lw : (D + 1) ∉ wr := fun ha => by have := wlt _ ha; omega
  have ZL : Z ≠ D + 1 := Nat.ne_of_lt (Nat.lt_succ_of_lt zD)
  have ZD : Z ≠ D := Nat.ne_of_lt zD
  have bnone : b' D = none := T.step.bh.none hp
  have loop : ∀ s4 : Shared, s4 = { s2 with heap := h4 } → codeAny (model C.prog C.w) A (.compLoop (.ListComp elt [⟨tgt, iter, [], 0⟩] scope pos) 0 (.ref I) (.ref D) (cEnv scope (D + 1) cl env)) (RR (.ref D) (D + 1)) s4 := by
    intro s4 e4
    subst e4
    obtain ⟨J, hJ⟩ : ∃ J : Nat → Shared → Prop, J = fun k s' => ∃ i bi acc m d1, CompInvD C Z Q s b b' (cEnv scope (D + 1) cl env) ρc ωc he b0 ad D wr St its.length s2 i bi acc m d1 s' ∧ k = its.length + 1 - i := ⟨_, rfl⟩
    refine compLoop_gen J ?_ (its.length + 1) (by rw [hJ]; exact ⟨0, b', #[], 0, [], {
        le := Nat.zero_le _, sm := ⟨_, _, rfl⟩, st := T.iter.frame 0 _ _ T.st fun a _ o e => up4 a o e, lst := l4, dat := .nil, q := (fun _ h => by cases h), dl := rfl
        inv := I4, ow := O4, keep := fun a o _ _ e => up4 a o e, bb := .refl _, new := T.step.new, bD := bnone, bw := fun a ha => (T.wr a ha).2.1, dc := Z2.dc.at' fun o e => up4 _ o e, bz := Z2.b }, rfl⟩)
    intro k s' hk
    rw [hJ] at hk
    obtain ⟨i, bi, acc, m, d1, V, rfl⟩ := hk
    · rcases Nat.lt_or_ge i its.length with hi | hi
      · refine (T.iter.item (cEnv scope (D + 1) cl env) i s' (fun s₂ => wpX C A (forIn ([] : List Expr) true fun c r => if r = true then do let ok ← isTrue c (cEnv scope (D + 1) cl env) (eval c (cEnv scope (D + 1) cl env)); pure (ForInStep.yield ok) else pure (ForInStep.yield r)) (fun ok s₃ =>
            if ok = true then wpX C A (eval elt (cEnv scope (D + 1) cl env)) (fun x s₄ =>
              wpX C A (call (.builtin "list.append") [.ref D, x]) (fun _ s₅ => ∃ m, m < its.length + 1 - i ∧ J m s₅) s₄) s₃
            else ∃ m, m < its.length + 1 - i ∧ J m s₃) s₂) hi V.st ?_).any (fun r s1 h1 => ?_)
        rotate_left
        · cases r with
          | none => exact h1.elim
          | some v => exact h1
        intro vs h' tk hPv st' kp
        have I5 : Inv C.g0 he b0 bi h' (cEnv scope (D + 1) cl env) ρc ωc := V.inv.heap (· ∉ wr) kp (fun a o e ha => by rw [V.bw a ha] at e; cases e) (fun a o e => (hew a o e).1) Lw cw ⟨ad, V.ow, fun x ds' e => (adw x ds' e).1⟩
        have O5 : Own bi h' (cEnv scope (D + 1) cl env) he ωc ad := V.ow.heap V.inv (· ∉ wr) kp Lw cw fun x ds' e => (adw x ds' e).1
        have dc5 : DcO C h' Z := V.dc.at' fun o e => kp Z o (fun ha => wZ Z ha rfl) e
        have hitem : its[i]? = some its[i] := List.getElem?_eq_getElem hi
        have l5 : h'.get? D = some (lstO acc m) := kp D _ (fun ha => by have := wlt _ ha; omega) V.lst
        refine asg_inv (s := { s' with heap := h', toks := tk }) I5 (T.len _ (List.getElem_mem hi)) (Bk.st (D + 1)) ((T.data i vs _ hitem hPv).mono V.bb) fun h6 tk6 I6 kp6 => ?_
        have kN : ∀ a o, @LE.le Nat _ a D → h'.get? a = some o → h6.get? a = some o := fun a o hle e => kp6 a o (fun q => by subst q; exact absurd hle (by show ¬ (D + 1 ≤ D); omega)) (fun y hy c ec q => by have := cN y hy c ec; subst q; omega) e
        have l6 : h6.get? D = some (lstO acc m) := kN D _ (Nat.le_refl _) l5
        have dc6 : DcO C h6 Z := dc5.at' fun o e => kN Z o (Nat.le_of_lt zD) e
        have k26 : ∀ a o, a ∉ wr → a ≠ Z → s2.heap.get? a = some o → h6.get? a = some o := fun a o ha hne e => kN a o (Nat.le_of_lt (lt2 e)) (kp a o ha (V.keep a o ha hne e))
        have st6 : St (i + 1) h6 := T.iter.frame _ _ _ st' fun a ha o e => kN a o (by
          obtain ⟨o', e', _⟩ := T.nc a ha
          exact Nat.le_of_lt (lt2 e')) e
        have sm6 : Sm s2 { s' with heap := h6, toks := tk6 } := by
          obtain ⟨h0, tk0, e0⟩ := V.sm
          exact ⟨h6, tk6, by rw [e0]⟩
        have w6 : ∀ a ∈ wr, ∃ o, h6.get? a = some o := fun a ha => by
          obtain ⟨o, e, _⟩ := T.iter.alive _ _ st' a ha
          exact ⟨o, kN a o (Nat.le_of_lt (wlt a ha)) e⟩
        have sn6 : ∀ a, h6.get? a = none → s.heap.get? a = none := fun a e => by
          cases q : s.heap.get? a with
          | none => rfl
          | some o =>
            by_cases w : a = Z
            · subst w
              obtain ⟨o', _, _, ho', _⟩ := dc6.obj
              rw [ho'] at e; cases e
            · rw [k26 a o (ws a o q) w (T.step.hh a o q)] at e; cases e
        have O6 : Own bi h6 (cEnv scope (D + 1) cl env) he ωc ad := by
          refine ⟨fun x dx e => ?_, O5.apart⟩
          obtain ⟨ad6, P6⟩ := I6.own
          obtain ⟨h1, ⟨vs1, k1, h2, h3⟩, h4', h5⟩ := O5.at' x dx e
          obtain ⟨_, _, q2⟩ := Bk.captω x dx e
          refine ⟨?_, ⟨vs1, k1, kN _ _ (by
            obtain ⟨_, ⟨vs2, k2, g2, _⟩, _⟩ := O2.at' x dx (Bk.captω x dx e).1
            exact Nat.le_of_lt (lt2 g2)) h2, h3⟩, h4', h5⟩
          cases h1 with
          | loc m' z n' em =>
            rcases (q2 (D + 1)).2.1 with z' | z'
            · rw [z] at z'; cases z'
            · rw [z] at z'; cases z'.1
          | cell c z lk ic =>
            refine .cell c z lk ?_
            obtain ⟨o, ho, hd⟩ := ic
            have hc : @LE.le Nat _ c D := by
              obtain ⟨⟨v0, o', ho', _⟩, _⟩ := I2.cel x c ((q2 (D + 1)).1 ▸ lk)
              exact Nat.le_of_lt (lt2 ho')
            exact ⟨o, kN c o hc ho, hd⟩
        have Z6 : DOk C h6 Z bi he (cEnv scope (D + 1) cl env) := ⟨dc6, V.bz, Z0.he, ZL⟩
        refine wpAny_tests_nil ?_
        rw [if_pos rfl]
        refine (hel (D + 1) its[i] (List.getElem_mem hi) A { s' with heap := h6, toks := tk6 } he b0 bi G I6 Z6).any fun v s7 ⟨b7, d, x7, r7, q7⟩ => ?_
        obtain ⟨I7, Z7⟩ := I6.stepD Z6 x7
        have O7 := O6.stepD (ω := ωc) Z6 x7
        have g7 : s7.heap.get? D = some (lstO acc m) := x7.hh _ _ (Ne.symm ZD) l6
        have hsz : acc.size ≤ sizeLine := by
          have e1 := V.dat.length
          have e2 := V.dl
          rw [Array.length_toList] at e1
          rw [sizeLine_eq]; omega
        refine append_at g7 (fun h8 sb g8 => ?_) hsz
        have b7D : b7 D = none := by
          cases q : b7 D with
          | none => rfl
          | some o =>
            rcases x7.new D o q with p | p
            · rw [V.bD] at p; cases p
            · rw [show ({ s' with heap := h6, toks := tk6 } : Shared).heap.get? D = some (lstO acc m) from l6] at p; cases p
        have k78 : ∀ a o, a ≠ D → s7.heap.get? a = some o → h8.get? a = some o := fun a o ne e => sb.extBut a o ne e
        have I8 : Inv C.g0 he b0 b7 h8 (cEnv scope (D + 1) cl env) (upd names its[i] ρc) ωc := I7.heap (· ≠ D) k78 (fun a o e q => by rw [q, b7D] at e; cases e) (fun a o e => (hew a o e).2) (Nat.succ_ne_self D) cD ⟨ad, O7, fun x ds' e => (adw x ds' e).2⟩
        have O8 : Own b7 h8 (cEnv scope (D + 1) cl env) he ωc ad := O7.heap I7 (· ≠ D) k78 (Nat.succ_ne_self D) cD fun x ds' e => (adw x ds' e).2
        refine ⟨its.length + 1 - (i + 1), by omega, ?_⟩
        rw [hJ]
        refine ⟨i + 1, b7, acc.push v, m + 1, d1 ++ [d], {
            le := hi
            sm := (sm6.trans x7.same).trans ⟨_, _, rfl⟩
            st := T.iter.frame _ _ _ st6 fun a ha o e => k78 a o (fun q => by
              obtain ⟨o', e', _⟩ := T.nc a ha
              subst q; rw [hp] at e'; cases e') (x7.hh a o (fun q => by
                rcases T.fp a ha with hw | ⟨_, hb⟩
                · exact wZ a hw q
                · obtain ⟨o', e'⟩ := hb rfl
                  rw [q, Z2.b] at e'; cases e') e)
            lst := g8
            dat := by rw [Array.toList_push]; exact (V.dat.mono x7.bb).append (.cons r7 .nil)
            q := fun d' hd' => by
              rcases List.mem_append.mp hd' with w | w
              · exact V.q d' w
              · rw [List.mem_singleton.mp w]; exact q7
            dl := by rw [List.length_append, V.dl]; rfl
            inv := I8.weaken (fun x d e => by rw [upd_lookup (Bk.apart x d e)]; exact e) fun _ _ e => e
            ow := O8
            keep := fun a o ha hne e => k78 a o (fun q => by subst q; rw [hp] at e; cases e) (x7.hh a o hne (k26 a o ha hne e))
            bb := V.bb.trans x7.bb
            new := fun a o e => by
              rcases x7.new a o e with q | q
              · exact V.new a o q
              · exact .inr (sn6 a q)
            bD := b7D
            bw := fun a ha => by
              cases q : b7 a with
              | none => rfl
              | some o =>
                rcases x7.new a o q with p | p
                · rw [V.bw a ha] at p; cases p
                · obtain ⟨o', e'⟩ := w6 a ha
                  rw [show ({ s' with heap := h6, toks := tk6 } : Shared).heap.get? a = some o' from e'] at p; cases p
            dc := Z7.dc.at' fun o e => k78 Z o ZD e
            bz := Z7.b }, rfl⟩
      · have hin : i = its.length := Nat.le_antisymm V.le hi
        subst hin
        refine T.iter.done s' _ V.st fun h' tk kp => ?_
        obtain ⟨h0, tk0, e0⟩ := V.sm
        obtain ⟨hs, tks, es⟩ := T.step.same
        refine hR D (D + 1) bi acc m d1 _ {
          step := {
            same := ⟨h', tk, by rw [e0, es]⟩
            hh := fun a o hne e => kp a o (ws a o e) (V.keep a o (ws a o e) hne (T.step.hh a o e))
            bb := T.step.bb.trans V.bb
            bh := fun a o e => kp a o (fun ha => by rw [V.bw a ha] at e; cases e) (V.inv.bh a o e)
            new := V.new
            dc := V.dc.at' fun o e => kp Z o (fun ha => wZ Z ha rfl) e }
          lst := kp D _ (fun ha => by have := wlt _ ha; omega) V.lst
          dat := V.dat
          q := V.q
          len := V.dl
          dn := ⟨T.step.hh.none hp, V.bD⟩
          ln := ⟨T.step.hh.none (get_out (by rw [hD]; exact Nat.le_succ _)), V.inv.nsb, Nat.ne_of_lt (Nat.lt_succ_self _)⟩
          ns := let ⟨mm, hn⟩ := V.inv.ns; ⟨mm, hn.at' fun o e => kp _ o Lw e⟩ }
  exact codeAny_compStart_list (loop _ rfl) (wpX.any (T.iter.self 0 _ (fun it' s' => it' = .ref I ∧ s' = { s2 with heap := h4 }) (T.iter.frame 0 _ _ T.st fun a _ o e => up4 a o e) ⟨rfl, rfl⟩) fun it' s' ⟨e1, e2⟩ => by subst e1; subst e2; exact loop _ rfl)
end Nn

-- part W25
namespace Nn
variable {C : Ct} {env : Env} {ρ : Ro} {ω : Om} {n : Nat}
open PySem (Expr)

local macro_rules | `(tactic| walk_at "cap") => `(tactic| first | exact trivial | exact ⟨⟨rfl, rfl, fun L => ⟨rfl, rfl, nofun⟩, by decide⟩, by walk_at "cap"⟩)
local macro_rules | `(tactic| walk_at "clo") => `(tactic| first | exact trivial | exact ⟨rfl, by walk_at "clo"⟩)
local macro_rules | `(tactic| walk_at "tgt") => `(tactic| first | exact trivial | exact ⟨⟨fun L => .inl rfl, rfl, rfl⟩, by walk_at "tgt"⟩ | exact ⟨⟨fun L => .inr ⟨rfl, rfl⟩, rfl, rfl⟩, by walk_at "tgt"⟩)
local macro_rules | `(tactic| walk_at "blk") => `(tactic| exact Blk.of rfl rfl (by decide) (by walk_at "clo") (by walk_at "cap") (by walk_at "cap") (by walk_at "tgt"))
local macro_rules | `(tactic| walk_at "sto") => `(tactic| first | exact .inl rfl | exact .inr ⟨rfl, rfl⟩)
local macro_rules | `(tactic| walk_at "stos") => `(tactic| first | exact List.forall_mem_nil _ | refine List.forall_mem_cons.mpr (And.intro (And.intro (by walk_at "sto") (by rfl)) (by walk_at "stos")))


theorem StD.step1 {Z : Addr} {st : Stmt} {rest : List Stmt} {K : PyData → Prop} {P : Ro → Om → Prop}
    (h : ∀ A s he b0 b, Good A n → Inv C.g0 he b0 b s.heap env ρ ω → DOk C s.heap Z b he env → wpX C A (exec st env) (fun fl s' => fl = .next ∧ Sm s s' ∧ ∃ ρ' ω' b', P ρ' ω' ∧ Inv C.g0 he b0 b' s'.heap env ρ' ω' ∧ DOk C s'.heap Z b' he env) s)
    (k : ∀ ρ' ω', P ρ' ω' → StD C env ρ' ω' n Z rest K) : StD C env ρ ω n Z (st :: rest) K := fun A s he b0 b G I O =>
  wpAny_execs_cons ((h A s he b0 b G I O).any fun fl s' ⟨e, m, ρ', ω', b', hp, I', O'⟩ => by
    subst e
    exact (k ρ' ω' hp A s' he b0 b' G I' O').any fun fl s'' ⟨m', r⟩ => ⟨m.trans m', r⟩)
theorem StD.freeze {Z : Addr} {x ds ss} {K : PyData → Prop} (hx : ω.lookup x = some ds) (h : StD C env ((x, .list ds) :: ρ) (ω.filter fun p => p.1 != x) n Z ss K) : StD C env ρ ω n Z ss K := fun A s he b0 b G I O => by
  obtain ⟨ad, W⟩ := I.own
  obtain ⟨m, hn⟩ := I.ns
  obtain ⟨S, ⟨vs, k, g1, g2⟩, g3, g4⟩ := W.at' x ds hx
  obtain ⟨he', I', k1, k2⟩ := I.raiseD O
  -- freeze under the raised frame keeps the store out of the base
  obtain ⟨b', J⟩ := I'.freeze hx (lookup_erase x ω)
  obtain ⟨o, _, _, ho, _⟩ := O.dc.obj
  have hz := k2 o ho
  have hb' : b' Z = none := by
    cases q : b' Z with
    | none => rfl
    | some o' =>
      rcases J.new Z o' q with p | p
      · rw [O.b] at p; cases p
      · rw [hz] at p; cases p
  have O1 : DOk C s.heap Z b' he env := ⟨O.dc, hb', O.he, O.L⟩
  exact h A s he b0 b' G (J.lower k1 I.b0b I.new) O1

theorem StD.assignComp {x p elt tgt iter} {scope : Scope} {cpos pos : Pos} {cl : List (Str × Addr)} {names ρc ωc rest} {Z : Addr} {Q K : PyData → Prop} {N : Nat → Prop} (hit : ItD C env ρ ω n Z tgt names iter N) (Bk : Blk C env ρ ω scope cl ρc ωc names)
    (hel : ∀ L item, names.length = item.length → EfX C (cEnv scope L cl env) (upd names item ρc) ωc n Z elt Q)
    (hx : Storable env x) (hω : ω.lookup x = none) (k : ∀ ds : List PyData, N ds.length → (∀ d ∈ ds, Q d) → StD C env (rm x ρ) ((x, ds) :: ω) n Z rest K)
    (hw : swapsWith (.ListComp elt [⟨tgt, iter, [], 0⟩] scope cpos) (some (.Name x p)) pos.line env = pure true := by rfl) (hs : ∀ env x, foldedSetIterable iter env x = pure x := by intros; rfl) :
    StD C env ρ ω n Z (.Assign [.Name x p] (.ListComp elt [⟨tgt, iter, [], 0⟩] scope cpos) pos :: rest) K :=
  .step1 (P := fun ρ' ω' => ∃ ds : List PyData, N ds.length ∧ (∀ d ∈ ds, Q d) ∧ ρ' = rm x ρ ∧ ω' = (x, ds) :: ω) (fun A s he b0 b G I O => by
    rw [exec_Assign_Name_used _ _ _ _ hw]
    refine wpAny_bind (wpAny_standAt (wpAny_bind ?_))
    show wpAny _ A (do let _ ← comprehension (.ListComp elt [⟨tgt, iter, [], 0⟩] scope cpos) scope env _ (newList []) false (eval iter env) (some (PySem.assign (.Name x p) env))) _ _ s
    refine wpAny_bind (wpX.any (C := C) (Q := fun _ s' => Sm s s' ∧ ∃ ρ' ω' b', (∃ ds : List PyData, N ds.length ∧ (∀ d ∈ ds, Q d) ∧ ρ' = rm x ρ ∧ ω' = (x, ds) :: ω) ∧ Inv C.g0 he b0 b' s'.heap env ρ' ω' ∧ DOk C s'.heap Z b' he env) ?_ fun _ s' h => wpAny_pure (wpAny_pure ⟨rfl, h⟩))
    refine wpAny_comprehension_free (use := some (PySem.assign (.Name x p) env)) rfl (hs env) Bk.clos Bk.kind Bk.nms ((hit A s he b0 b G I O).any fun xv s1 h1 => wpX.any h1 fun it s2 ⟨sa, ba, b', I', fp, wr, Pv, St, its, e, ⟨hlen, hlen'⟩, xa, T⟩ => ?_)
    subst e
    obtain ⟨Ia, Oa⟩ := I.stepD O xa
    refine comp_coreD (RR := fun acc L => compPost (model C.prog C.w) A None2 (some (PySem.assign (.Name x p) env)) (fun _ s' => Sm s s' ∧ ∃ ρ' ω' b', (∃ ds : List PyData, N ds.length ∧ (∀ d ∈ ds, Q d) ∧ ρ' = rm x ρ ∧ ω' = (x, ds) :: ω) ∧ Inv C.g0 he b0 b' s'.heap env ρ' ω' ∧ DOk C s'.heap Z b' he env) acc L) Bk G Ia Oa T (fun L item hi => hel L item (T.len item hi)) hlen' fun D L bn acc m ds s' Y => ?_
    show wpX C A (PySem.assign (.Name x p) env (.ref D)) (fun _ s'' => ∃ m, s''.heap.Ns L m ∧ ∀ h', Heap.SameBut L s''.heap h' → Sm s { s'' with heap := h' } ∧ ∃ ρ' ω' b', (∃ ds : List PyData, N ds.length ∧ (∀ d ∈ ds, Q d) ∧ ρ' = rm x ρ ∧ ω' = (x, ds) :: ω) ∧ Inv C.g0 he b0 b' h' env ρ' ω' ∧ DOk C h' Z b' he env) s'
    refine assign_Name ?_
    obtain ⟨ad, W⟩ := Ia.own
    obtain ⟨I2, O2⟩ := Ia.stepD Oa Y.step
    obtain ⟨mm, hns⟩ := Y.ns
    obtain ⟨ml, hnl⟩ := Ia.ns
    obtain ⟨oz, _, _, hoz, _⟩ := Oa.dc.obj
    have hZL : Z ≠ L := fun q => by rw [q, Y.ln.1] at hoz; cases hoz
    have hLl : env.locals ≠ L := fun q => by
      obtain ⟨o, _, _, ho, _⟩ := hnl
      rw [q, Y.ln.1] at ho; cases ho
    have hLc : ∀ y c, env.cells.lookup y = some c → c ≠ L := fun y c e q => by
      obtain ⟨⟨v0, o, ho, _⟩, _⟩ := Ia.cel y c e
      rw [q, Y.ln.1] at ho; cases ho
    refine store_own' I2 hx hω Y.lst Y.dat Y.dn.2 (Ia.eh.none Y.dn.1) (W.stepD Oa Y.step) (fun y dy e q => by
      obtain ⟨_, ⟨vs', m', g, _⟩, _⟩ := W.at' y dy e
      rw [q, Y.dn.1] at g; cases g) fun h' tk I'' keep ad' O'' hD hold => ?_
    refine ⟨mm, hns.at' fun o e => keep L o (Ne.symm hLl) (fun c e => Ne.symm (hLc _ c e)) e, fun h'' sb => ⟨(xa.same.trans Y.step.same).trans ⟨_, _, rfl⟩, _, _, bn, ⟨ds, by rw [Y.len]; exact hlen, Y.q, rfl, rfl⟩, ?_, ?_⟩⟩
    · refine I''.heap (· ≠ L) (fun a o ne e => sb.extBut a o ne e) (fun a o e q => by rw [q, Y.ln.2.1] at e; cases e) (fun a o e q => by rw [q, Ia.eh.none Y.ln.1] at e; cases e) hLl hLc ⟨ad', O'', fun y dy e => ?_⟩
      rw [lookup_cons] at e
      by_cases q : y = x
      · subst q; rw [hD]; exact Y.ln.2.2
      · rw [if_neg q] at e
        rw [hold y q]
        intro p
        obtain ⟨_, ⟨vs', m', g, _⟩, _⟩ := W.at' y dy e
        rw [p, Y.ln.1] at g; cases g
    · exact ⟨O2.dc.at' fun o e => sb.extBut Z o hZL (keep Z o O2.L (fun c hc q => by
        obtain ⟨⟨v0, hv⟩, _⟩ := I2.cel x c hc
        exact DOk.ne_cell O2.dc hv q.symm) e), O2.b, O2.he, O2.L⟩) fun ρ' ω' ⟨ds, h1, h2, e1, e2⟩ => by subst e1; subst e2; exact k ds h1 h2

end Nn

-- part W26
namespace Nn
variable {C : Ct} {env : Env} {ρ : Ro} {ω : Om} {n : Nat}
open PySem (Expr)

local macro_rules | `(tactic| walk_at "cap") => `(tactic| first | exact trivial | exact ⟨⟨rfl, rfl, fun L => ⟨rfl, rfl, nofun⟩, by decide⟩, by walk_at "cap"⟩)
local macro_rules | `(tactic| walk_at "clo") => `(tactic| first | exact trivial | exact ⟨rfl, by walk_at "clo"⟩)
local macro_rules | `(tactic| walk_at "tgt") => `(tactic| first | exact trivial | exact ⟨⟨fun L => .inl rfl, rfl, rfl⟩, by walk_at "tgt"⟩ | exact ⟨⟨fun L => .inr ⟨rfl, rfl⟩, rfl, rfl⟩, by walk_at "tgt"⟩)
local macro_rules | `(tactic| walk_at "blk") => `(tactic| exact Blk.of rfl rfl (by decide) (by walk_at "clo") (by walk_at "cap") (by walk_at "cap") (by walk_at "tgt"))
local macro_rules | `(tactic| walk_at "sto") => `(tactic| first | exact .inl rfl | exact .inr ⟨rfl, rfl⟩)
local macro_rules | `(tactic| walk_at "stos") => `(tactic| first | exact List.forall_mem_nil _ | refine List.forall_mem_cons.mpr (And.intro (And.intro (by walk_at "sto") (by rfl)) (by walk_at "stos")))


theorem gm_ne : (Str.ofString "great" = Str.ofString "mixed") = False := eq_false (by decide)
theorem mg_ne : (Str.ofString "mixed" = Str.ofString "great") = False := eq_false (by decide)
def NN : PyData → Prop := fun d => ∃ g : Int, d = .int g ∧ 0 ≤ g
theorem EfX.key {Z : Addr} {x : Str} {p p2 pos : Pos} {c : Nat} {key : Str} (h : ρ.lookup x = some (opqD Z)) (hk : key = "great" ∨ key = "mixed") (hd : (x == ("__debug__" : Str)) = false := by decide)
    (hs : ∀ o u, subscripted (.Constant (.str key) c p2) false o (.str key u) = operate [o, .str key u] (getItem o (.str key u)) := by intros; with_unfolding_all rfl) : EfX C env ρ ω n Z (.Subscript (.Name x p) (.Constant (.str key) c p2) pos) NN := fun A s he b0 b G I O =>
  Subscript_ ((EvX.name (C := C) (n := n) (pos := p) h hd A s he b0 b G I).any fun v1 s1 ⟨b1, x1, r1⟩ => wpAny_Constant_str (by
    have e := opq_inv r1
    subst e
    have y : Step b1 s1 b1 { s1 with toks := s1.toks + 1 } := .tok x1.bh _
    obtain ⟨g, m, hg, hm, tg, tm, hdo⟩ := O.dc.at' (h' := s1.heap) fun o e => x1.hh _ o e
    have hdo' : ({ s1 with toks := s1.toks + 1 } : Shared).heap.DictOf (PySem.strKind C.prog C.w) Z [(("great" : Str), .int g tg), (("mixed" : Str), .int m tm)] := hdo
    have xx := (x1.trans y).trans (.tok (s := { s1 with toks := s1.toks + 1 }) x1.bh (s1.toks + 1 + 1))
    rcases hk with rfl | rfl
    · refine tail_any hdo'.typeIs slot_dict_getitem.lookup (wpAny_getItem_of (strKind_is C.prog C.w _ _) hdo'.mapOf (v := .int g tg) (by simp [valueAt]) ?_) (hs _ _)
      exact ⟨_, .int g, .of xx O.dc, .int _ _, g, rfl, hg⟩
    · refine tail_any hdo'.typeIs slot_dict_getitem.lookup (wpAny_getItem_of (strKind_is C.prog C.w _ _) hdo'.mapOf (v := .int m tm) (by simp [valueAt, gm_ne]) ?_) (hs _ _)
      exact ⟨_, .int m, .of xx O.dc, .int _ _, m, rfl, hm⟩))
theorem setKey {Z : Addr} {A : Around} {s : Shared} {b : View} {key : Str} {t : Tok} {v : Value} {d : PyData} (hk : key = "great" ∨ key = "mixed") (dc : DcO C s.heap Z) (hb : b Z = none) (bh : Sub b s.heap.get?) (r : Rp b v d) (q : NN d) :
    wpX C A (setItem (.ref Z) (.str key t) v) (fun _ s' => StepD C Z b s b s') s := by
  obtain ⟨g, m, hg, hm, tg, tm, hdo⟩ := dc
  obtain ⟨g', rfl, hg'⟩ := q
  cases r with | int _ t' => ?_
  refine wpAny_setItem_pairs (strKind_is C.prog C.w _ _) hdo (fun h' hd' sb => ?_) (by rw [sizeLine_eq]; simp)
  have dc' : DcO C h' Z := by
    rcases hk with rfl | rfl
    · exact ⟨g', m, hg', hm, t', tm, by simpa [stored, gm_ne, mg_ne] using hd'⟩
    · refine ⟨g, g', hg, hg', tg, t', ?_⟩
      have e : stored [(("great" : Str), Value.int g tg), (("mixed" : Str), Value.int m tm)] ("mixed" : Str) (.int g' t') = [(("great" : Str), Value.int g tg), (("mixed" : Str), Value.int g' t')] := by
        simp [stored, gm_ne, mg_ne]
      rwa [e] at hd'
  exact ⟨⟨_, _, rfl⟩, fun a o ne e => sb.extBut a o ne e, .refl _, fun a o e => sb.extBut a o (fun w => by rw [w, hb] at e; cases e) (bh a o e), fun a o e => .inl e, dc'⟩

theorem StD.ret {Z : Addr} {e : Expr} {pos : Pos} {rest : List Stmt} {K : PyData → Prop} (h : EfX C env ρ ω n Z e K) : StD C env ρ ω n Z (.Return (some e) pos :: rest) K := fun A s he b0 b G I O =>
  wpAny_execs_cons (wpAny_Return_some ((h A s he b0 b G I O).any fun v s1 ⟨b1, d, x1, r, q⟩ => by
    obtain ⟨I1, O1⟩ := I.stepD O x1
    exact ⟨x1.same, v, d, b1, rfl, q, I1.fin, r, O1.dc, O1.b⟩))
theorem StD.iteR {Z : Addr} {test : Expr} {body : List Stmt} {pos : Pos} {rest : List Stmt} {K : PyData → Prop} (h : ∀ A s he b0 b, Good A n → Inv C.g0 he b0 b s.heap env ρ ω → DOk C s.heap Z b he env → wpX C A (isTrue test env (eval test env)) (fun _ s' => ∃ b', StepD C Z b s b' s') s)
    (k1 : StD C env ρ ω n Z body K) (k2 : StD C env ρ ω n Z rest K) : StD C env ρ ω n Z (.If test body [] pos :: rest) K := fun A s he b0 b G I O =>
  wpAny_execs_cons (wpAny_If ((h A s he b0 b G I O).any fun v s1 ⟨b1, x1⟩ => by
    obtain ⟨I1, O1⟩ := I.stepD O x1
    cases v with
    | true =>
      exact (k1 A s1 he b0 b1 G I1 O1).any fun fl s2 ⟨m, v, d, b2, e, r⟩ => by
        subst e
        exact ⟨x1.same.trans m, v, d, b2, rfl, r⟩
    | false =>
      refine wpAny_execs_nil ?_
      exact (k2 A s1 he b0 b1 G I1 O1).any fun fl s2 ⟨m, r⟩ => ⟨x1.same.trans m, r⟩))
theorem StD.setKey {Z : Addr} {x : Str} {p p2 tpos pos : Pos} {c : Nat} {key : Str} {e : Expr} {rest : List Stmt} {K : PyData → Prop} (hx : ρ.lookup x = some (opqD Z)) (hk : key = "great" ∨ key = "mixed") (h : EfX C env ρ ω n Z e NN) (k : StD C env ρ ω n Z rest K) (hd : (x == ("__debug__" : Str)) = false := by decide)
    (hs : ∀ env, swapsWithSole [.Subscript (.Name x p) (.Constant (.str key) c p2) tpos] e pos.line env = pure false := by intro; rfl)
    (hw : ∀ env, swappedStores [.Subscript (.Name x p) (.Constant (.str key) c p2) tpos] e env = pure none := by intro; rfl) : StD C env ρ ω n Z (.Assign [.Subscript (.Name x p) (.Constant (.str key) c p2) tpos] e pos :: rest) K :=
  .step1 (P := fun ρ' ω' => ρ' = ρ ∧ ω' = ω) (fun A s he b0 b G I O => by
    rw [exec_Assign]
    refine wpAny_bind (wpAny_standAt ?_)
    rw [hs]
    refine wpAny_bind (wpAny_pure ?_)
    rw [if_neg (by decide)]
    refine wpAny_bind ((h A s he b0 b G I O).any fun v s1 ⟨b1, d, x1, r, q⟩ => ?_)
    rw [hw]
    refine wpAny_bind (wpAny_pure ?_)
    obtain ⟨I1, O1⟩ := I.stepD O x1
    show wpAny _ A (do assignAll v [PySem.assign (Expr.Subscript (.Name x p) (.Constant (.str key) c p2) tpos) env]; pure Flow.next) _ _ s1
    refine wpAny_bind ?_
    show wpAny _ A (PySem.assign (Expr.Subscript (.Name x p) (.Constant (.str key) c p2) tpos) env v) _ _ s1
    rw [arm_assign_Subscript]
    refine wpAny_bind (wpAny_holding ((EvX.name (C := C) (n := n) (pos := p) hx hd A s1 he b0 b1 G I1).any fun ov s2 ⟨b2, x2, r2⟩ => ?_))
    have e := opq_inv r2
    subst e
    refine wpAny_bind (wpAny_holding (wpAny_Constant_str ?_))
    have x3 : Step b2 s2 b2 { s2 with toks := s2.toks + 1 } := .tok x2.bh _
    have xs := x1.trans O.dc (.of (x2.trans x3) x1.dc)
    obtain ⟨I3, O3⟩ := I.stepD O xs
    refine wpAny_bind (wpAny_standAt (wpAny_bind (wpAny_holding ((Nn.setKey hk O3.dc O3.b xs.bh (r.mono x2.bb) q).any fun _ s4 x4 => ?_))))
    obtain ⟨I4, O4⟩ := I3.stepD O3 x4
    exact wpAny_release (wpAny_pure ⟨rfl, xs.same.trans x4.same, _, _, _, ⟨rfl, rfl⟩, I4, O4⟩)) fun ρ' ω' ⟨e1, e2⟩ => by subst e1; subst e2; exact k
end Nn

-- part W27
namespace Nn
variable {C : Ct} {env : Env} {ρ : Ro} {ω : Om} {n : Nat}
open PySem (Expr)

local macro_rules | `(tactic| walk_at "cap") => `(tactic| first | exact trivial | exact ⟨⟨rfl, rfl, fun L => ⟨rfl, rfl, nofun⟩, by decide⟩, by walk_at "cap"⟩)
local macro_rules | `(tactic| walk_at "clo") => `(tactic| first | exact trivial | exact ⟨rfl, by walk_at "clo"⟩)
local macro_rules | `(tactic| walk_at "tgt") => `(tactic| first | exact trivial | exact ⟨⟨fun L => .inl rfl, rfl, rfl⟩, by walk_at "tgt"⟩ | exact ⟨⟨fun L => .inr ⟨rfl, rfl⟩, rfl, rfl⟩, by walk_at "tgt"⟩)
local macro_rules | `(tactic| walk_at "blk") => `(tactic| exact Blk.of rfl rfl (by decide) (by walk_at "clo") (by walk_at "cap") (by walk_at "cap") (by walk_at "tgt"))
local macro_rules | `(tactic| walk_at "sto") => `(tactic| first | exact .inl rfl | exact .inr ⟨rfl, rfl⟩)
local macro_rules | `(tactic| walk_at "stos") => `(tactic| first | exact List.forall_mem_nil _ | refine List.forall_mem_cons.mpr (And.intro (And.intro (by walk_at "sto") (by rfl)) (by walk_at "stos")))


theorem assignKey {Z : Addr} {A : Around} {s : Shared} {he : Heap} {b0 b : View} {x : Str} {p p2 tpos : Pos} {c : Nat} {key : Str} {v : Value} {d : PyData} (G : Good A n) (I : Inv C.g0 he b0 b s.heap env ρ ω) (O : DOk C s.heap Z b he env)
    (hx : ρ.lookup x = some (opqD Z)) (hk : key = "great" ∨ key = "mixed") (r : Rp b v d) (q : NN d) (hd : (x == ("__debug__" : Str)) = false := by decide) :
    wpX C A (PySem.assign (Expr.Subscript (.Name x p) (.Constant (.str key) c p2) tpos) env v) (fun _ s' => ∃ b', StepD C Z b s b' s') s := by
  rw [arm_assign_Subscript]
  refine wpAny_bind (wpAny_holding ((EvX.name (C := C) (n := n) (pos := p) hx hd A s he b0 b G I).any fun ov s2 ⟨b2, x2, r2⟩ => ?_))
  have e := opq_inv r2
  subst e
  refine wpAny_bind (wpAny_holding (wpAny_Constant_str ?_))
  have x3 : Step b2 s2 b2 { s2 with toks := s2.toks + 1 } := .tok x2.bh _
  have xs := StepD.of (x2.trans x3) O.dc
  obtain ⟨I3, O3⟩ := I.stepD O xs
  refine wpAny_bind (wpAny_standAt (wpAny_bind (wpAny_holding ((Nn.setKey hk O3.dc O3.b xs.bh (r.mono x2.bb) q).any fun _ s4 x4 => ?_))))
  exact wpAny_release ⟨b2, xs.trans O.dc x4⟩

theorem StD.tupKey {Z : Addr} {x y : Str} {py p p2 tpos tp vp pos : Pos} {c k1 k2 : Nat} {key : Str} {e1 e2 : Expr} {rest : List Stmt} {Q K : PyData → Prop} (hx : ρ.lookup x = some (opqD Z)) (hk : key = "great" ∨ key = "mixed") (hy : Storable env y) (hyω : ω.lookup y = none) (hxy : x ≠ y)
    (h1 : EfX C env ρ ω n Z e1 Q) (h2 : EfX C env ρ ω n Z e2 NN) (k : ∀ d, Q d → StD C env ((y, d) :: ρ) ω n Z rest K) (hd : (x == ("__debug__" : Str)) = false := by decide)
    (hs : ∀ env, swapsWithSole [.Tuple [.Name y py, .Subscript (.Name x p) (.Constant (.str key) c p2) tpos] k1 tp] (.Tuple [e1, e2] k2 vp) pos.line env = pure false := by intro; rfl)
    (hw : swappedStores [.Tuple [.Name y py, .Subscript (.Name x p) (.Constant (.str key) c p2) tpos] k1 tp] (.Tuple [e1, e2] k2 vp) env = pure none := by rfl)
    (hs1 : ∀ env, starEach [e1, e2] env = (false, eval e1 env) :: starEach [e2] env := by intro; rfl) (hs2 : ∀ env, starEach [e2] env = (false, eval e2 env) :: starEach [] env := by intro; rfl) :
    StD C env ρ ω n Z (.Assign [.Tuple [.Name y py, .Subscript (.Name x p) (.Constant (.str key) c p2) tpos] k1 tp] (.Tuple [e1, e2] k2 vp) pos :: rest) K :=
  .step1 (P := fun ρ' ω' => ∃ d, Q d ∧ ρ' = (y, d) :: ρ ∧ ω' = ω) (fun A s he b0 b G I O => Assign_Tuple (wpAny_Tuple (wpAny_items_cons ((h1 A s he b0 b G I O).any fun v1 s1 ⟨b1, d1, x1, r1, q1⟩ => by
    obtain ⟨I1, O1⟩ := I.stepD O x1
    refine wpAny_items_cons ((h2 A s1 he b0 b1 G I1 O1).any fun v2 s2 ⟨b2, d2, x2, r2, q2⟩ => wpAny_items_nil ?_) (hs2 _)
    refine ⟨by rw [sizeLine_eq]; simp, ?_⟩
    obtain ⟨I2, O2⟩ := I1.stepD O1 x2
    have y3 : Step b2 s2 b2 { s2 with heap := s2.heap.push (tupO #[v1, v2] 0) } := .push x2.bh _ s2.toks
    have g5 : (s2.heap.push (tupO #[v1, v2] 0)).get? s2.heap.objs.size = some (tupO #[v1, v2] 0) := Heap.get?_push_size _ rfl
    refine wpAny_assign_Tuple (items := #[v1, v2]) G.1 ⟨_, g5, rfl, 0, rfl⟩ rfl rfl fun h' he' => ?_
    have y4 : Step b2 { s2 with heap := s2.heap.push (tupO #[v1, v2] 0) } b2 { s2 with heap := h' } := .grow y3.bh fun c o e => he' c o (fun q => by subst q; rw [get_size] at e; cases e) e
    obtain ⟨I4, O4⟩ := I2.stepD O2 (.of (y3.trans y4) O2.dc)
    show wpX C A (do holding [v2] (PySem.assign (.Name y py) env v1); assignInOrder [PySem.assign (Expr.Subscript (.Name x p) (.Constant (.str key) c p2) tpos) env] [v2]) _ _
    refine wpAny_bind (wpAny_holding (assign_Name (store_base I4 hy hyω (r1.mono x2.bb) fun h5 tk5 I5 keep => ?_)))
    show wpX C A (do holding [] (PySem.assign (Expr.Subscript (.Name x p) (.Constant (.str key) c p2) tpos) env v2); assignInOrder [] []) _ _
    have O5 : DOk C h5 Z b2 he env := ⟨O4.dc.at' fun o e => keep Z o O4.L (fun c hc q => by
      obtain ⟨⟨v0, hv⟩, _⟩ := I4.cel y c hc
      exact DOk.ne_cell O4.dc hv q.symm) e, O4.b, O4.he, O4.L⟩
    refine wpAny_bind (wpAny_holding ((assignKey (s := { s2 with heap := h5, toks := tk5 }) G I5 O5 (by rw [lookup_cons, if_neg hxy]; exact hx) hk r2 q2 hd).any fun _ s6 ⟨b6, x6⟩ => wpAny_pure ?_))
    obtain ⟨I6, O6⟩ := I5.stepD (s := { s2 with heap := h5, toks := tk5 }) O5 x6
    exact ⟨rfl, ((x1.same.trans x2.same).trans ⟨h5, tk5, rfl⟩).trans x6.same, _, _, b6, ⟨d1, q1, rfl, rfl⟩, I6, O6⟩) (hs1 _))) (hs env) hw) fun ρ' ω' ⟨d, q, e1, e2⟩ => by subst e1; subst e2; exact k d q

theorem TfX.gt0 {Z : Addr} {l : Expr} {c : Nat} {p pos : Pos} (h : EfX C env ρ ω n Z l NN) (hm : behindInMarks .Gt (.Constant (.int 0) c p) = false := by with_unfolding_all rfl) : ∀ A s he b0 b, Good A n → Inv C.g0 he b0 b s.heap env ρ ω → DOk C s.heap Z b he env →
    wpX C A (isTrue (.Compare l [.Gt] [.Constant (.int 0) c p] pos) env (eval (.Compare l [.Gt] [.Constant (.int 0) c p] pos) env)) (fun _ s' => ∃ b', StepD C Z b s b' s') s := fun A s he b0 b G I O =>
  wpAny_isTrue_Compare1 ((h A s he b0 b G I O).any fun v1 s1 ⟨b1, d1, x1, r1, g, e, hg⟩ => by
    subst e
    obtain ⟨I1, O1⟩ := I.stepD O x1
    refine (EvX.int (C := C) (n := n) A s1 he b0 b1 G I1).any fun v2 s2 ⟨b2, x2, r2⟩ => ?_
    refine (CmpX.gt (C := C) (n := n) (t := decide (g > 0)) rfl A s2 b2 v1 v2 G x2.bh (r1.mono x2.bb) r2).any fun v s3 ⟨e, e'⟩ => ?_
    subst e e'
    exact wpAny_truthy_bool ⟨b2, x1.trans O.dc (.of x2 x1.dc)⟩) hm
theorem hideOne {h : Heap} {Z a : Addr} {o : Obj} (e : h.get? a = some o) (ne : a ≠ Z) : (hideAll h [Z]).get? a = some o := hideAll_get _ e (by simpa using ne)
def Rg (k : Int) : PyData → Prop := fun d => ∃ v : Int, d = .int v ∧ 0 ≤ v ∧ v < k
theorem fn_take (K : CtOk C) (Z : Addr) (k : Nat) (hk : 0 < k) (hk' : k < 100) : ∃ a o fd, C.mg "_law_take" = some (.ref a) ∧ C.g0.get? a = some o ∧ o.data = .func fd ∧ ∀ A s b v1 v2, Good A 1 → Sub C.g0.get? b → Sub b s.heap.get? → Rp b v1 (opqD Z) → Rp b v2 (.int (k : Int)) → b Z = none → DcO C s.heap Z →
    wpX C A (call (.ref a) [v1, v2]) (fun v s' => ∃ b' d, StepD C Z b s b' s' ∧ Rp b' v d ∧ Rg k d) s := by
  obtain ⟨a, _, _, _, _, ha, _⟩ := K.fn 45 (by decide) (by decide) (fun h => nomatch h)
  obtain ⟨o, fd, h1, h2, h3⟩ := fn_call (C := C) (m := 0) (a' := a) K 45 (ds := [opqD Z, .int (k : Int)]) (R := fun s b => b Z = none ∧ DcO C s.heap Z) (Q := fun s b v s' => ∃ b' d, StepD C Z b s b' s' ∧ Rp b' v d ∧ Rg k d) "_law_take" rfl (hl := rfl) (hnd := by decide) (hk := by decide)
    (hbind := fun pm code doc vs h => by obtain ⟨a, b, rfl⟩ := len2 h; rfl) (hsc := ⟨rfl, rfl, rfl⟩) (ha := ha) (hbody := fun pm code doc A s s1 b G hR sm up I => by
      obtain ⟨hb, dc⟩ := hR
      obtain ⟨oz, _, _, hoz, _⟩ := dc.obj
      have I' : Inv C.g0 (hideAll s.heap [Z]) b b s1.heap (fenv 45 pm code doc s.heap.objs.size a) ((pms 45).zip [opqD Z, .int (k : Int)]) [] := I.lower (fun a o e => of_hideAll _ e) (.refl _) fun a o e => .inl e
      have O : DOk C s1.heap Z b (hideAll s.heap [Z]) (fenv 45 pm code doc s.heap.objs.size a) := ⟨dc.at' fun o e => up _ _ e, hb, hideAll_none _ (.head _), Nat.ne_of_lt (Heap.lt_size hoz)⟩
      have hl1 : ((pms 45).zip [opqD Z, .int (k : Int)]).lookup ("draws" : Str) = some (opqD Z) := rfl
      have hm : ((pms 45).zip [opqD Z, .int (k : Int)]).lookup ("many" : Str) = some (.int (k : Int)) := rfl
      have body : StD C (fenv 45 pm code doc s.heap.objs.size a) ((pms 45).zip [opqD Z, .int (k : Int)]) [] 0 Z (fdAt 45).body (Rg k) := by
        have modk : ∀ g : Int, 0 ≤ g → 0 ≤ g.fmod k ∧ g.fmod k < k := fun g hg => by
          rw [Int.fmod_eq_emod_of_nonneg _ (by omega)]
          exact ⟨Int.emod_nonneg _ (by omega), Int.emod_lt_of_pos _ (by omega)⟩
        refine StD.iteR (TfX.gt0 (.key hl1 (.inl rfl))) ?_ ?_
        · refine StD.tupKey (Q := Rg k) hl1 (.inl rfl) (by walk_at "sto") rfl (by decide) (.bin (.key hl1 (.inl rfl)) (.of (Q := (· = .int (k : Int))) (.name hm) rfl) fun d1 d2 ⟨g, e, hg⟩ e2 => by subst e; subst e2; exact ⟨_, .mod (by omega), _, rfl, modk g hg⟩)
            (.bin (.key hl1 (.inl rfl)) (.of (Q := (· = .int (k : Int))) (.name hm) rfl) fun d1 d2 ⟨g, e, hg⟩ e2 => by subst e; subst e2; exact ⟨_, .floordiv K (by omega), _, rfl, Int.fdiv_nonneg hg (by omega)⟩) fun d hd => ?_
          exact StD.ret (.of (.name rfl) hd)
        · refine StD.setKey hl1 (.inr rfl) (.bin (Q1 := NN) (Q2 := (· = .int 2147483647)) (.bin (Q1 := NN) (Q2 := (· = .int 11)) (.bin (Q1 := NN) (Q2 := (· = .int 48271)) (.key hl1 (.inr rfl)) (.of .int rfl) fun d1 d2 ⟨g, e, hg⟩ e2 => by subst e; subst e2; exact ⟨_, .mul (.of_right (by decide)), _, rfl, Int.mul_nonneg hg (by decide)⟩)
            (.of .int rfl) fun d1 d2 ⟨g, e, hg⟩ e2 => by subst e; subst e2; exact ⟨_, .add, _, rfl, by omega⟩) (.of .int rfl) fun d1 d2 ⟨g, e, hg⟩ e2 => by
              subst e; subst e2
              refine ⟨_, .mod (by decide), _, rfl, ?_⟩
              rw [Int.fmod_eq_emod_of_nonneg _ (by decide)]
              exact Int.emod_nonneg _ (by decide)) ?_
          exact StD.ret (.bin (Q1 := NN) (Q2 := (· = .int (k : Int))) (.bin (Q1 := NN) (Q2 := (· = .int 16)) (.key hl1 (.inr rfl)) (.of .int rfl) fun d1 d2 ⟨g, e, hg⟩ e2 => by subst e; subst e2; exact ⟨_, .floordiv K (by decide), _, rfl, Int.fdiv_nonneg hg (by decide)⟩)
            (.of (.name hm) rfl) fun d1 d2 ⟨g, e, hg⟩ e2 => by subst e; subst e2; exact ⟨_, .mod (by omega), _, rfl, modk g hg⟩)
      refine (body A s1 _ b b G I' O).any fun fl s' ⟨sm', v, d, b', e, q, F, r, dc', bz⟩ => ⟨v, e, b', d, ⟨sm.trans sm', fun a o ne e => F.eh _ _ (hideOne e ne), F.b0b, F.bh, fun a o e => ?_, dc'⟩, r, q⟩
      rcases F.new a o e with w | w
      · exact .inl w
      · by_cases wz : a = Z
        · subst wz; rw [bz] at e; cases e
        · right
          cases q : s.heap.get? a with
          | none => rfl
          | some o' => rw [hideOne q wz] at w; cases w)
  exact ⟨a, o, fd, ha, h1, h2, fun A s b v1 v2 G hg hb r1 r2 hz dc => h3 A s b [v1, v2] G hg hb (.cons r1 (.cons r2 .nil)) ⟨hz, dc⟩⟩
end Nn

-- part W28
namespace Nn
variable {C : Ct} {env : Env} {ρ : Ro} {ω : Om} {n : Nat}
open PySem (Expr)

local macro_rules | `(tactic| walk_at "cap") => `(tactic| first | exact trivial | exact ⟨⟨rfl, rfl, fun L => ⟨rfl, rfl, nofun⟩, by decide⟩, by walk_at "cap"⟩)
local macro_rules | `(tactic| walk_at "clo") => `(tactic| first | exact trivial | exact ⟨rfl, by walk_at "clo"⟩)
local macro_rules | `(tactic| walk_at "tgt") => `(tactic| first | exact trivial | exact ⟨⟨fun L => .inl rfl, rfl, rfl⟩, by walk_at "tgt"⟩ | exact ⟨⟨fun L => .inr ⟨rfl, rfl⟩, rfl, rfl⟩, by walk_at "tgt"⟩)
local macro_rules | `(tactic| walk_at "blk") => `(tactic| exact Blk.of rfl rfl (by decide) (by walk_at "clo") (by walk_at "cap") (by walk_at "cap") (by walk_at "tgt"))
local macro_rules | `(tactic| walk_at "sto") => `(tactic| first | exact .inl rfl | exact .inr ⟨rfl, rfl⟩)
local macro_rules | `(tactic| walk_at "stos") => `(tactic| first | exact List.forall_mem_nil _ | refine List.forall_mem_cons.mpr (And.intro (And.intro (by walk_at "sto") (by rfl)) (by walk_at "stos")))


theorem BinX.pow {a k : Int} (h0 : 0 ≤ k) (hk : k ≤ 1000000) (ha : a.natAbs < 2 ^ 64) : BinX C .Pow n (.int a) (.int k) (.int (a ^ k.toNat)) := fun A s b v1 v2 _ _ hb r1 r2 => by
  cases r1; cases r2; exact pow_int_small h0 hk ha ⟨_, .tok hb _, .int _ _⟩
theorem EvF.sliceO {x : Str} {p1 p2 pos : Pos} {lo hi : Option Expr} {a' c : Option Int} {a : Addr} {vs : Array Value} {ds : List PyData} (h1 : ρ.lookup x = some (opqD a)) (hL : C.g0.IsList a vs) (hr : RpAll C.g0.get? vs.toList ds) (hl : PrtX C env ρ ω n lo a') (hh : PrtX C env ρ ω n hi c) (hz : ds.length ≤ 1000)
    (hd : (x == ("__debug__" : Str)) = false := by decide) : EvF C env ρ ω n (.Subscript (.Name x p1) (.Slice lo hi none p2) pos) (slc ds a' c) := fun A s he b0 b G I =>
  wpAny_Subscript_list_slice ((EvX.name (C := C) (n := n) (pos := p1) h1 hd A s he b0 b G I).any fun v1 s1 ⟨b1, x1, r1⟩ => (hl.ev G (I.step x1)).any fun v2 s2 ⟨b2, x2, r2⟩ => (hh.ev G ((I.step x1).step x2)).any fun v3 s3 ⟨b3, x3, r3⟩ => by
    have e := opq_inv r1
    subst e
    have I3 := ((I.step x1).step x2).step x3
    have hL3 : s3.heap.IsList a vs := by
      obtain ⟨o, ho, r⟩ := hL
      exact ⟨o, I3.g0h _ _ ho, r⟩
    have z := hr.length
    rw [Array.length_toList] at z
    refine ⟨a, vs, a', c, rfl, hL3, by rw [sizeLine_eq]; omega, r2, r3, ?_⟩
    rw [slicePick_slc]
    have x := (x1.trans x2).trans x3
    have y : Step b3 s3 b3 { s3 with heap := (s3.heap.push { cls := .type "slice", data := .fields #[v2, v3, .none] }).push (lstO (slc vs.toList a' c).toArray 0) } := .grow x3.bh ((push_keeps _ _).trans (push_keeps _ _))
    have hsz : (s3.heap.push { cls := .type "slice", data := .fields #[v2, v3, .none] }).objs.size = s3.heap.objs.size + 1 := Heap.size_push ..
    refine ⟨_, x.trans y, _, (slc vs.toList a' c).toArray, 0, rfl, x.hh.none (get_out (Nat.le_succ _)), x3.bh.none (get_out (Nat.le_succ _)), ?_, ?_⟩
    · show Heap.get? _ _ = _
      rw [← hsz]; exact Heap.get?_push_size _ rfl
    · exact (hr.mono I3.g).slc a' c)
theorem slc_map {α β : Type} (f : α → β) (xs : List α) (a c : Option Int) : slc (xs.map f) a c = (slc xs a c).map f := by
  unfold slc
  simp [List.map_take, List.map_drop]
def mxf (m c : Int) : Int := (m * 131 + (c.natAbs : Int) + 17).fmod 2147483647
theorem mxf_nn {m c : Int} (h : 0 ≤ m) : 0 ≤ mxf m c := by
  unfold mxf
  rw [Int.fmod_eq_emod_of_nonneg _ (by decide)]
  exact Int.emod_nonneg _ (by decide)
theorem fold_nn : ∀ (xs : List Int) (m : Int), 0 ≤ m → 0 ≤ xs.foldl mxf m
  | [], _, h => h
  | x :: xs, m, h => fold_nn xs _ (mxf_nn h)
theorem sum_nn : ∀ (xs : List Int), (∀ x ∈ xs, 0 ≤ x) → 0 ≤ xs.sum
  | [], _ => by simp
  | x :: xs, h => by
    rw [List.sum_cons]
    have := h x (.head _)
    have := sum_nn xs fun y hy => h y (.tail _ hy)
    omega

theorem fn_draws (K : CtOk C) {a : Addr} {vs : Array Value} {ns : List Int} (hL : C.g0.IsList a vs) (hr : RpAll C.g0.get? vs.toList (ns.map .int)) (hn : ns.length ≤ 63) :
    ∃ f o fd, C.mg "_law_draws" = some (.ref f) ∧ C.g0.get? f = some o ∧ o.data = .func fd ∧ ∀ A s b v, Good A 1 → Sub C.g0.get? b → Sub b s.heap.get? → Rp b v (opqD a) →
    wpX C A (call (.ref f) [v]) (fun v s' => ∃ b' Z, Step b s b' s' ∧ v = .ref Z ∧ s.heap.get? Z = none ∧ b' Z = none ∧ DcO C s'.heap Z) s := by
  obtain ⟨f, _, _, _, _, ha, _⟩ := K.fn 46 (by decide) (by decide) (fun h => nomatch h)
  obtain ⟨X, hX⟩ : ∃ X, X = slc ns none (some 24) := ⟨_, rfl⟩
  have hXm : slc (ns.map PyData.int) none (some 24) = X.map .int := by rw [slc_map, hX]
  have hXl : X.length ≤ 63 := by
    rw [hX]; unfold slc; simp; omega
  obtain ⟨o, fd, h1, h2, h3⟩ := fn_call (C := C) (m := 0) (a' := f) K 46 (ds := [opqD a]) (R := fun s b => True) (Q := fun s b v s' => ∃ b' Z, Step b s b' s' ∧ v = .ref Z ∧ s.heap.get? Z = none ∧ b' Z = none ∧ DcO C s'.heap Z) "_law_draws" rfl (hl := rfl) (hnd := by decide) (hk := by decide)
    (hbind := fun pm code doc vs h => by obtain ⟨a, rfl⟩ := len1 h; rfl) (hsc := ⟨rfl, rfl, rfl⟩) (ha := ha) (hbody := fun pm code doc A s s1 b G hR sm up I => by
      have sl : ∀ {ρ : Ro} {ω : Om} {p1 p2 p3 p4 : Pos} {k1 : Nat}, ρ.lookup ("script" : Str) = some (opqD a) → EvF C (fenv 46 pm code doc s.heap.objs.size f) ρ ω 0 (.Subscript (.Name "script" p1) (.Slice none (some (.Constant (.int 24) k1 p2)) none p3) p4) (X.map .int) := fun h => by
        rw [← hXm]
        exact .sliceO (lo := none) (hi := some _) (a' := none) (c := some 24) h hL hr trivial (by exact EvX.int) (by simp; omega)
      have its : ∀ {ρ : Ro} {ω : Om} {p1 p2 p3 p4 p5 : Pos} {k1 : Nat}, ρ.lookup ("script" : Str) = some (opqD a) → ItX C (fenv 46 pm code doc s.heap.objs.size f) ρ ω 0 true (.Name "cell" p5) ["cell"] (.Subscript (.Name "script" p1) (.Slice none (some (.Constant (.int 24) k1 p2)) none p3) p4) (X.map fun x => [PyData.int x]) := fun h => by
        have e : (X.map fun x => [PyData.int x]) = (X.map PyData.int).map fun d => [d] := by rw [List.map_map]; rfl
        rw [e]
        exact .list (.ofF (sl h))
      have pre : StX C (fenv 46 pm code doc s.heap.objs.size f) ((pms 46).zip [opqD a]) [] 0 ((fdAt 46).body.take 2) (fun r => r = .next [("script", opqD a), ("mixed_here", .int (X.foldl mxf 7))] []) := by
        refine StX.assign .int (by walk_at "sto") rfl ?_
        refine StX.for (its (by rfl)) (fun _ => True) (fun i => [("script", opqD a), ("mixed_here", .int ((X.take i).foldl mxf 7))]) (fun _ => []) trivial ?_ (.nil _) ?_ ?_ ?_
        · exact .cons rfl (.cons rfl (.nil _))
        · intro i; walk_at "stos"
        · intro i item hi _
          rw [List.getElem?_map, Option.map_eq_some_iff] at hi
          obtain ⟨x, hx, rfl⟩ := hi
          refine StX.assign (d := .int (mxf ((X.take i).foldl mxf 7) x)) (.bin (.bin (.bin (.bin (.name rfl) .int (.mul (.of_right (by decide)))) (.abs1 K rfl (.name rfl)) .add) .int .add) .int (.mod (by decide))) (by walk_at "sto") rfl (StX.nil ⟨trivial, .cons rfl (.cons ?_ (.nil _)), .nil _⟩)
          rw [List.take_add_one, hx, List.foldl_append]; rfl
        · intro _
          rw [List.length_map, List.take_length]
          exact StX.nil rfl
      rw [show (fdAt 46).body = (fdAt 46).body.take 2 ++ (fdAt 46).body.drop 2 from (List.take_append_drop 2 _).symm]
      refine wpAny_execs_append ((pre A s1 s.heap b b G I).any fun fl s2 ⟨sm2, r, e, ok⟩ => ?_)
      subst e
      cases fl with
      | next =>
        obtain ⟨b2, I2⟩ := ok
        refine wpAny_execs_cons (wpAny_Return_some (wpAny_Dict_pairs (knd := PySem.strKind C.prog C.w) (pairs := [(_, _), (_, _)]) rfl (by simp) (by simp) ?_))
        have y : Step b2 s2 b2 { s2 with heap := s2.heap.push { cls := .type "dict", data := .dict #[] } } := .push I2.bh _ s2.toks
        have I3 := I2.step y
        obtain ⟨Z, hZ⟩ : ∃ Z : Addr, Z = s2.heap.objs.size := ⟨_, rfl⟩
        have hZ2 : s2.heap.get? Z = none := hZ ▸ get_size _
        have hZb : b2 Z = none := I2.bh.none hZ2
        have hZ0 : s.heap.get? Z = none := I2.eh.none hZ2
        have hd0 : (s2.heap.push { cls := .type "dict", data := .dict #[] }).DictOf (PySem.strKind C.prog C.w) Z [] := hZ ▸ Heap.DictOf.new _
        obtain ⟨p, hp⟩ : ∃ p : Int → Bool, p = fun x => decide ((x.natAbs : Int) > 10 ^ (9 : Int).toNat) := ⟨_, rfl⟩
        have hsum : EvX C (fenv 46 pm code doc s.heap.objs.size f) [("script", opqD a), ("mixed_here", .int (X.foldl mxf 7))] [] 0 (match (fdAt 46).body with | [_, _, .Return (some (.Dict _ [e, _] _)) _] => e | _ => .Constant .none 0 ⟨0, 0, 0, 0⟩) (.int ((X.filter p).map fun x => (x.natAbs : Int)).sum) := by
          refine .sum K rfl (f1 := true) (.ofF (.cast (.comp (ρc := []) (ωc := []) (ds := (X.filter p).map fun x => .int (x.natAbs : Int)) (its rfl) (by walk_at "blk") ?_ (by simp; omega)) (by rw [List.map_map]; rfl)))
          intro L1
          refine CR.filterT _ _ p _ (fun x hx => ?_) fun x hx _ => .abs1 K rfl (.name rfl)
          rw [hp]
          exact .one (.cmp (.abs1 K rfl (.name rfl)) (.bin .int .int (.pow (by decide) (by decide) (by decide))) (.gt rfl))
        have hmix : EvX C (fenv 46 pm code doc s.heap.objs.size f) [("script", opqD a), ("mixed_here", .int (X.foldl mxf 7))] [] 0 (match (fdAt 46).body with | [_, _, .Return (some (.Dict _ [_, e] _)) _] => e | _ => .Constant .none 0 ⟨0, 0, 0, 0⟩) (.int (X.foldl mxf 7)) := .name rfl
        refine evalPairs_cons (wpAny_Constant_str (env := fenv 46 pm code doc s.heap.objs.size f) (k := 0) (pos := ⟨0, 0, 0, 0⟩) ?_)
        have y1 : Step b2 { s2 with heap := s2.heap.push { cls := .type "dict", data := .dict #[] } } b2 { s2 with heap := s2.heap.push { cls := .type "dict", data := .dict #[] }, toks := s2.toks + 1 } := .tok y.bh _
        refine wpAny_bind ((hsum A _ s.heap b b2 G (I3.step y1)).any fun v1 s3 ⟨b3, x3, r3⟩ => wpAny_bind (wpAny_standAt (wpAny_pure ?_)))
        have I4 := (I3.step y1).step x3
        refine evalPairs_cons (wpAny_Constant_str (env := fenv 46 pm code doc s.heap.objs.size f) (k := 0) (pos := ⟨0, 0, 0, 0⟩) ?_)
        have y4 : Step b3 s3 b3 { s3 with toks := s3.toks + 1 } := .tok x3.bh _
        refine wpAny_bind ((hmix A _ s.heap b b3 G (I4.step y4)).any fun v2 s5 ⟨b5, x5, r5⟩ => wpAny_bind (wpAny_standAt (wpAny_pure (evalPairs_nil ?_))))
        have I5 := (I4.step y4).step x5
        have xt := ((y1.trans x3).trans y4).trans x5
        cases r3 with | int _ t1 => ?_
        cases r5 with | int _ t2 => ?_
        refine ⟨[(("great" : Str), .int _ t1), (("mixed" : Str), .int _ t2)], ⟨strKind_is C.prog C.w _ _, rfl, strKind_is C.prog C.w _ _, rfl, trivial⟩, ?_, fun h' hd' sb => ?_⟩
        · rw [← hZ]
          obtain ⟨o, es, ep, ho, r⟩ := hd0
          exact ⟨o, es, ep, xt.hh _ _ ho, r⟩
        · rw [← hZ] at hd' sb ⊢
          obtain ⟨oz, _, _, hoz, _⟩ := hd0
          have hb5 : b5 Z = none := by
            cases q : b5 Z with
            | none => rfl
            | some o' =>
              rcases xt.new Z o' q with w | w
              · rw [hZb] at w; cases w
              · rw [show ({ s2 with heap := s2.heap.push { cls := .type "dict", data := .dict #[] } } : Shared).heap.get? Z = some oz from hoz] at w; cases w
          have up5 : Sub s.heap.get? s5.heap.get? := I5.eh
          refine ⟨_, rfl, b5, Z, {
            same := ((sm.trans sm2).trans (y.trans xt).same).trans ⟨h', _, rfl⟩
            hh := fun c o e => sb.extBut c o (fun w => by rw [w, hZ0] at e; cases e) (up5 c o e)
            bb := I5.b0b
            bh := fun c o e => sb.extBut c o (fun w => by rw [w, hb5] at e; cases e) (x5.bh c o e)
            new := I5.new }, rfl, hZ0, hb5, ((X.filter p).map fun x => (x.natAbs : Int)).sum, X.foldl mxf 7, ?_, ?_, t1, t2, ?_⟩
          · refine sum_nn _ fun x hx => ?_
            obtain ⟨z, _, rfl⟩ := List.mem_map.mp hx
            omega
          · exact fold_nn _ _ (by decide)
          · simpa [merged, stored, gm_ne, mg_ne] using hd'
      | _ => exact ok.elim)
  exact ⟨f, o, fd, ha, h1, h2, fun A s b v G hg hb r => h3 A s b [v] G hg hb (.cons r .nil) trivial⟩
end Nn

-- part W29
namespace Nn
variable {C : Ct} {env : Env} {ρ : Ro} {ω : Om} {n : Nat}
open PySem (Expr)

local macro_rules | `(tactic| walk_at "cap") => `(tactic| first | exact trivial | exact ⟨⟨rfl, rfl, fun L => ⟨rfl, rfl, nofun⟩, by decide⟩, by walk_at "cap"⟩)
local macro_rules | `(tactic| walk_at "clo") => `(tactic| first | exact trivial | exact ⟨rfl, by walk_at "clo"⟩)
local macro_rules | `(tactic| walk_at "tgt") => `(tactic| first | exact trivial | exact ⟨⟨fun L => .inl rfl, rfl, rfl⟩, by walk_at "tgt"⟩ | exact ⟨⟨fun L => .inr ⟨rfl, rfl⟩, rfl, rfl⟩, by walk_at "tgt"⟩)
local macro_rules | `(tactic| walk_at "blk") => `(tactic| exact Blk.of rfl rfl (by decide) (by walk_at "clo") (by walk_at "cap") (by walk_at "cap") (by walk_at "tgt"))
local macro_rules | `(tactic| walk_at "sto") => `(tactic| first | exact .inl rfl | exact .inr ⟨rfl, rfl⟩)
local macro_rules | `(tactic| walk_at "stos") => `(tactic| first | exact List.forall_mem_nil _ | refine List.forall_mem_cons.mpr (And.intro (And.intro (by walk_at "sto") (by rfl)) (by walk_at "stos")))


theorem all_ex {α : Type} {P : α → Prop} (f : α → PyData) : ∀ {ds : List PyData}, (∀ d ∈ ds, ∃ x, d = f x ∧ P x) → ∃ xs : List α, ds = xs.map f ∧ ∀ x ∈ xs, P x
  | [], _ => ⟨[], rfl, fun _ h => by cases h⟩
  | d :: ds, h => by
    obtain ⟨x, e, p⟩ := h d (.head _)
    obtain ⟨xs, e', p'⟩ := all_ex f fun y hy => h y (.tail _ hy)
    exact ⟨x :: xs, by rw [e, e']; rfl, fun y hy => by
      rcases List.mem_cons.mp hy with q | q
      · subst q; exact p
      · exact p' y q⟩
theorem lrow_take {steps first : List Int} {t k : Nat} (h : k ≤ first.length + t) : (lrow steps first t).take k = (List.range k).map (sq steps first) := by
  apply List.ext_getElem
  · simp [lrow_len]; omega
  · intro i h1 h2
    simp [lrow_len] at h1
    have := sq_eq (steps := steps) (first := first) (k := i) (t := t) (by omega)
    rw [List.getD_eq_getElem?_getD, List.getElem?_eq_getElem (by rw [lrow_len]; omega)] at this
    simp only [List.getElem_take, List.getElem_map, List.getElem_range]
    exact this
theorem range_sr_get {steps first : List Int} {k i : Nat} (h : i < k) : ((List.range k).map (sr steps first)).getD i 0 = sr steps first i := by
  rw [List.getD_eq_getElem?_getD, List.getElem?_map, List.getElem?_range h]; rfl
theorem led_told {steps first : List Int} (hf : first.length = steps.length) (hl : steps.length ≤ 8) : (told ((List.range 8).map (sr steps first))).length ≤ steps.length := by
  rcases Nat.lt_or_ge steps.length (told ((List.range 8).map (sr steps first))).length with q | q
  · refine absurd ⟨fun i => (steps.getD i 0 : Rat), fun i hi => ?_⟩ (told_min _ q)
    rw [List.length_map, List.length_range] at hi
    rw [range_sr_get (by omega), sr_next hf (by omega)]
    exact S_congr _ fun j hj => by rw [range_sr_get (by omega)]
  · exact q
theorem obeys_nil (row : List Rat) : (decide ((row.filter fun q => decide (q.num ≠ 0)) = []) = true) ↔ obeysP row [] := by
  rw [decide_eq_true_eq, List.filter_eq_nil_iff]
  constructor
  · intro h i hi
    show S 0 _ = _
    rw [S]
    have hi' : i < row.length := by simpa using hi
    have := h _ (getD_mem (p := row) hi')
    have h0 : row.getD i 0 = 0 := Rat.num_eq_zero.mp (by simpa using this)
    rw [show ([] : List Rat).length + i = i by simp, h0]
  · intro h x hx
    obtain ⟨i, hi, rfl⟩ := List.getElem_of_mem hx
    have := h i (by simpa using hi)
    have h2 : (0 : Rat) = row.getD ([].length + i : Nat) 0 := this
    rw [show ([] : List Rat).length + i = i by simp, List.getD_eq_getElem?_getD, List.getElem?_eq_getElem hi] at h2
    have h3 : row[i] = 0 := h2.symm
    simp [h3]

abbrev lawEnv (pm code doc : Value) (L a : Addr) : Env := fenv 53 pm code doc L a
theorem law_pure1 (K : CtOk C) {pm code doc : Value} {L ad : Addr} {Z : Addr} {steps first : List Int} {sz : Int} (h1 : IOk 2 steps) (h2 : IOk 3 first) (hl : steps.length ≤ 3) (hf : first.length = steps.length) {ρ : Ro} (r1 : ρ.lookup ("steps" : Str) = some (intsD steps)) (r2 : ρ.lookup ("first" : Str) = some (intsD first)) :
    StX C (lawEnv pm code doc L ad) ρ [] 10 (((fdAt 53).body.drop 4).take 2) (fun r => r = .next (("due", intsD (lrow steps first (10 - first.length))) :: ρ) []) := by
  refine StX.assign (.call K (fn_lawrow K steps first 10 h1 h2 hl hf (by omega) (by omega)) rfl (.cons (.name r1) (.cons (.name r2) (.cons .int .nil))) (by decide)) (by walk_at "sto") rfl ?_
  have q : ∀ {x : Str} {d : PyData}, x ≠ "due" → ρ.lookup x = some d → List.lookup x (("due", intsD (lrow steps first (10 - first.length))) :: ρ) = some d := fun hne h => by rw [lookup_cons, if_neg hne]; exact h
  refine StX.iteT (t := false) (.cmp (d1 := intsD (lrow steps first (10 - first.length))) (.call K (fn_recrow K steps first 10 h1 h2 hl hf (by omega) (by omega)) rfl (.cons (.name (q (by decide) r1)) (.cons (.name (q (by decide) r2)) (.cons .int .nil))) (by decide)) (.name rfl) (.ned (shaped_ints _) (shaped_ints _) (by rw [eqv_ints]; simp))) (fun h => by cases h) fun _ => .nil (StX.nil rfl)

theorem led_its {steps first : List Int} {t k : Nat} (h : k ≤ first.length + t) : (slc ((lrow steps first t).map PyData.int) none (some (k : Int))).map (fun d => [d]) = (List.range k).map fun i => [PyData.int (sq steps first i)] := by
  rw [slc_take _ (by rw [List.length_map, lrow_len]; exact h), ← List.map_take, lrow_take h, List.map_map, List.map_map]
  rfl
theorem sr_ratsD {steps first : List Int} {k : Nat} : ((List.range k).map fun i => PyData.tuple [.int (sq steps first i), .int 1]) = ((List.range k).map (sr steps first)).map ratD := by
  rw [List.map_map]; rfl

theorem law_pure2 (K : CtOk C) {pm code doc : Value} {L ad : Addr} {steps first : List Int} {pl : Int} (h1 : IOk 2 steps) (h2 : IOk 3 first) (hl : steps.length ≤ 3) (hf : first.length = steps.length) (p0 : 0 ≤ pl) (p1 : pl < 9) {ρ : Ro} (r1 : ρ.lookup ("steps" : Str) = some (intsD steps)) (r2 : ρ.lookup ("first" : Str) = some (intsD first))
    (r3 : ρ.lookup ("due" : Str) = some (intsD (lrow steps first (10 - first.length)))) (r4 : ρ.lookup ("place" : Str) = some (.int pl)) (r5 : ρ.lookup ("size" : Str) = some (.int steps.length)) :
    ∃ ρ', StX C (lawEnv pm code doc L ad) ρ [] 10 (((fdAt 53).body.drop 7).take 4) (fun r => r = .next ρ' []) ∧ ∀ x d, x ≠ ("led" : Str) → ρ.lookup x = some d → ρ'.lookup x = some d := by
  have hll := lrow_len steps first (10 - first.length)
  have num : ∀ {k : Nat} {e : Expr} {pos p1 p2 p3 : Pos}, k ≤ 9 → ∀ {ρ : Ro}, ρ.lookup ("steps" : Str) = some (intsD steps) → ρ.lookup ("first" : Str) = some (intsD first) → ∀ {ω : Om}, EvX C (lawEnv pm code doc L ad) ρ ω 10 e (.int (k : Int)) → (∀ env, starEach [Expr.Name "steps" p2, Expr.Name "first" p3, e] env = (false, eval (Expr.Name "steps" p2) env) :: starEach [Expr.Name "first" p3, e] env) →
      (∀ env, starEach [Expr.Name "first" p3, e] env = (false, eval (Expr.Name "first" p3) env) :: starEach [e] env) → (∀ env, starEach [e] env = (false, eval e env) :: starEach [] env) → EvX C (lawEnv pm code doc L ad) ρ ω 10 (.Call (.Name "number_at" p1) [.Name "steps" p2, .Name "first" p3, e] [] pos) (.int (sq steps first k)) := by
    intro k e pos p1 p2 p3 hk ρ q1 q2 ω he s1 s2 s3
    rw [← numAt_eq h1 hl hf hk]
    exact .call K (fn_numat K steps first k h1 h2 hl hf hk) rfl (.cons (.name q1) (.cons (.name q2) (.cons he .nil s3) s2) s1) (by decide) s1
  obtain ⟨k, hk⟩ : ∃ k : Nat, pl = k := ⟨pl.toNat, by omega⟩
  subst hk
  have due : ∀ i : Nat, i ≤ 9 → ((lrow steps first (10 - first.length)).map PyData.int)[(i : Int).toNat]? = some (.int (sq steps first i)) := fun i hi => by
    rw [show ((i : Nat) : Int).toNat = i by omega, geti (by omega), sq_eq (by omega)]
  obtain ⟨g1, g2⟩ := fn_gen' K steps first h1 h2 hl hf
  have hrow : ((List.range 8).map (sr steps first)).length ≤ 8 := by simp
  have hsz : SzL 35 ((List.range 8).map (sr steps first)) := fun q hq => by
    obtain ⟨i, hi, rfl⟩ := List.mem_map.mp hq
    exact sr_sz h1 h2 hl (by simpa using hi)
  have mono : ∀ {x : Str} {d : PyData}, x ≠ "led" → ρ.lookup x = some d → List.lookup x (("led", .list (((List.range 8).map (sr steps first)).map ratD)) :: rm "led" ρ) = some d := fun hne h => by rw [lookup_cons, if_neg hne, rm_lookup, if_neg hne]; exact h
  refine ⟨("led", .list (((List.range 8).map (sr steps first)).map ratD)) :: rm "led" ρ, ?_, fun x d hne h => mono hne h⟩
  refine StX.iteT (t := false || false) (.or (.cmp (t := false) (num (by omega) r1 r2 (.name r4) (by intro; rfl) (by intro; rfl) (by intro; rfl)) (.item (f1 := true) (.of (.name r3)) (.name r4) (by omega) (by omega) (due k (by omega))) (.nei (by simp))) fun _ =>
    .cmp (t := false) (num (k := 9) (by omega) r1 r2 .int (by intro; rfl) (by intro; rfl) (by intro; rfl)) (.item (f1 := true) (.of (.name r3)) (.int (i := ((9 : Nat) : Int))) (by omega) (by omega) (due 9 (by omega))) (.nei (by simp))) (fun h => by cases h) fun _ => .nil ?_
  have e7 : (slc ((lrow steps first (10 - first.length)).map PyData.int) none (some ((7 : Nat) : Int))).map (fun d => [d]) = (List.range 7).map fun i => [PyData.int (sq steps first i)] := led_its (by omega)
  have e8 : (slc ((lrow steps first (10 - first.length)).map PyData.int) none (some ((8 : Nat) : Int))).map (fun d => [d]) = (List.range 8).map fun i => [PyData.int (sq steps first i)] := led_its (by omega)
  refine StX.iteT (t := false) (.cmp (d1 := ratsD ((List.range 7).map (sr steps first))) (d2 := ratsD ((List.range 7).map (sr steps first))) (.call K g2 rfl (.cons (.call K g1 rfl (.cons (.name r1) (.cons (.name r2) .nil)) (by decide)) (.cons .int .nil)) (by decide))
    (.cast (.ofF (.comp (ρc := []) (ωc := []) (names := ["number"]) (fz := true) (its := (List.range 7).map fun i => [PyData.int (sq steps first i)]) (ds := (List.range 7).map fun i => PyData.tuple [.int (sq steps first i), .int 1]) ?_ (by walk_at "blk") ?_ (by simp))) (by rw [sr_ratsD])) (.ned (shaped_ratsD _) (shaped_ratsD _) (by rw [eqv_ratsD]; simp))) (fun h => by cases h) fun _ => .nil ?_
  · rw [← e7]
    exact .list (.ofF (.slice (f1 := true) (lo := none) (hi := some _) (a := none) (c := some ((7 : Nat) : Int)) (.of (.name r3)) trivial (by exact EvX.int) (by rw [List.length_map]; omega)))
  · intro L1
    exact CR.map _ _ _ fun i hi => ⟨.nil, .tuple (.cons (.name rfl) (.cons .int .nil))⟩
  refine StX.assignComp (names := ["number"]) (fz := true) (its := (List.range 8).map fun i => [PyData.int (sq steps first i)]) (ds := ((List.range 8).map (sr steps first)).map ratD) (ρc := []) (ωc := []) ?_ (by walk_at "blk") ?_ (by simp) (by walk_at "sto") rfl ?_
  · rw [← e8]
    exact .list (.ofF (.slice (f1 := true) (lo := none) (hi := some _) (a := none) (c := some ((8 : Nat) : Int)) (.of (.name r3)) trivial (by exact EvX.int) (by rw [List.length_map]; omega)))
  · intro L1
    rw [← sr_ratsD]
    exact CR.map _ _ _ fun i hi => ⟨.nil, .tuple (.cons (.name rfl) (.cons .int .nil))⟩
  refine StX.freeze (x := "led") rfl ?_
  have tl := led_told (steps := steps) (first := first) hf (by omega)
  refine StX.iteT (t := (!true) || decide (((told ((List.range 8).map (sr steps first))).length : Int) > steps.length)) (.or (.not (.val (.call K (fn_right K _ hrow hsz) rfl (.cons (.name rfl) .nil) (by decide)))) fun _ =>
    .cmp (.cast (.len K rfl (f1 := true) (ds := (told ((List.range 8).map (sr steps first))).map ratD) (.of (.call K (fn_least K _ hrow hsz) rfl (.cons (.name rfl) .nil) (by decide))) (by rw [List.length_map]; omega)) (by rw [List.length_map])) (.name (mono (by decide) r5)) (.gt rfl)) (fun h => ?_) fun _ => .nil (StX.nil rfl)
  simp at h; omega
end Nn

-- part W30
namespace Nn
variable {C : Ct} {env : Env} {ρ : Ro} {ω : Om} {n : Nat}
open PySem (Expr)

local macro_rules | `(tactic| walk_at "cap") => `(tactic| first | exact trivial | exact ⟨⟨rfl, rfl, fun L => ⟨rfl, rfl, nofun⟩, by decide⟩, by walk_at "cap"⟩)
local macro_rules | `(tactic| walk_at "clo") => `(tactic| first | exact trivial | exact ⟨rfl, by walk_at "clo"⟩)
local macro_rules | `(tactic| walk_at "tgt") => `(tactic| first | exact trivial | exact ⟨⟨fun L => .inl rfl, rfl, rfl⟩, by walk_at "tgt"⟩ | exact ⟨⟨fun L => .inr ⟨rfl, rfl⟩, rfl, rfl⟩, by walk_at "tgt"⟩)
local macro_rules | `(tactic| walk_at "blk") => `(tactic| exact Blk.of rfl rfl (by decide) (by walk_at "clo") (by walk_at "cap") (by walk_at "cap") (by walk_at "tgt"))
local macro_rules | `(tactic| walk_at "sto") => `(tactic| first | exact .inl rfl | exact .inr ⟨rfl, rfl⟩)
local macro_rules | `(tactic| walk_at "stos") => `(tactic| first | exact List.forall_mem_nil _ | refine List.forall_mem_cons.mpr (And.intro (And.intro (by walk_at "sto") (by rfl)) (by walk_at "stos")))


theorem fn_lowest2 (K : CtOk C) : ∃ a o fd, C.mg "_law_lowest" = some (.ref a) ∧ C.g0.get? a = some o ∧ o.data = .func fd ∧ ∀ A s b v1 v2 d1 d2, Good A 1 → Sub C.g0.get? b → Sub b s.heap.get? → Rp b v1 d1 → Rp b v2 d2 → (∃ v : Int, d1 = .int v ∧ v.natAbs < 2 ^ 2) → (∃ v : Int, d2 = .int v ∧ 0 < v ∧ v.natAbs < 2 ^ 2) →
    wpX C A (call (.ref a) [v1, v2]) (fun v s' => ∃ b' d, Step b s b' s' ∧ Rp b' v d ∧ ∃ q, d = ratD q ∧ Sz 35 q) s := by
  obtain ⟨a, o, fd, ha, ho, hd, _⟩ := fn_lowest K 0 1 (by decide)
  refine ⟨a, o, fd, ha, ho, hd, fun A s b v1 v2 d1 d2 G hg hb r1 r2 ⟨x, e1, h1⟩ ⟨y, e2, h2, h3⟩ => ?_⟩
  subst e1 e2
  obtain ⟨a', _, _, ha', _, _, hc⟩ := fn_lowest K x y (by omega)
  rw [ha] at ha'
  cases ha'
  exact (hc A s b [v1, v2] G hg hb (.cons r1 (.cons r2 .nil))).any fun v s' ⟨b', x1, r⟩ => ⟨b', _, x1, r, _, rfl, (divInt_sz h1 h3 (by decide)).mono (by decide)⟩

theorem EfX.imp {Z : Addr} {e : Expr} {Q Q' : PyData → Prop} (h : EfX C env ρ ω n Z e Q) (k : ∀ d, Q d → Q' d) : EfX C env ρ ω n Z e Q' := fun A s he b0 b G I O =>
  (h A s he b0 b G I O).any fun v s' ⟨b', d, x, r, q⟩ => ⟨b', d, x, r, k d q⟩
theorem StD.takeEx {Z : Addr} {ss : List Stmt} {K : PyData → Prop} {P : Ro → Prop} (k : Nat) (h : ∃ ρ', StX C env ρ ω n (ss.take k) (fun r => r = .next ρ' ω) ∧ P ρ') (h2 : ∀ ρ', P ρ' → StD C env ρ' ω n Z (ss.drop k) K) : StD C env ρ ω n Z ss K :=
  let ⟨ρ', h1, p⟩ := h; .take k h1 (h2 ρ' p)

theorem law_std (K : CtOk C) {pm code doc : Value} {L ad : Addr} {a Z : Addr} : StD C (lawEnv pm code doc L ad) [("draws", opqD Z), ("script", opqD a)] [] 10 Z ((fdAt 53).body.drop 1) (fun d => d = .bool true) := by
  have len1 : ∀ {item : List PyData}, (["turn"] : List Str).length = item.length → ∃ d, item = [d] := fun {item} h => by
    match item, h with
    | [d], _ => exact ⟨d, rfl⟩
  refine StD.assignE (Q := Rg (4 : Nat)) (.take K rfl (.name rfl) .int (fn_take K Z 4 (by decide) (by decide)) (by decide)) (by walk_at "sto") rfl fun d hd => ?_
  obtain ⟨sz, rfl, sz0, sz1⟩ := hd
  refine StD.assignComp (N := fun k => k = sz.toNat) (Q := fun d => ∃ x : Int, d = .int x ∧ x.natAbs < 2 ^ 2) (ρc := [("draws", opqD Z)]) (ωc := []) (.of (.rangeT K sz.toNat rfl (.name rfl) (by omega) rfl (by omega)) (by simp) (by simp; omega)) (by walk_at "blk") (fun L item hi => ?_) (by walk_at "sto") rfl fun ds hl hq => ?_
  · obtain ⟨d, rfl⟩ := len1 hi
    exact .bin (Q1 := Rg (7 : Nat)) (Q2 := (· = .int 3)) (.take K rfl (.name rfl) .int (fn_take K Z 7 (by decide) (by decide)) (by decide)) (.of .int rfl) fun d1 d2 ⟨v, e, v0, v1⟩ e2 => by subst e; subst e2; exact ⟨_, .sub, _, rfl, by omega⟩
  obtain ⟨steps, rfl, h1⟩ := all_ex PyData.int hq
  rw [List.length_map] at hl
  refine StD.freeze (x := "steps") rfl ?_
  refine StD.assignComp (N := fun k => k = sz.toNat) (Q := fun d => ∃ x : Int, d = .int x ∧ x.natAbs < 2 ^ 3) (ρc := [("draws", opqD Z)]) (ωc := []) (.of (.rangeT K sz.toNat rfl (.name rfl) (by omega) rfl (by omega)) (by simp) (by simp; omega)) (by walk_at "blk") (fun L item hi => ?_) (by walk_at "sto") rfl fun ds hl2 hq => ?_
  · obtain ⟨d, rfl⟩ := len1 hi
    exact .bin (Q1 := Rg (11 : Nat)) (Q2 := (· = .int 5)) (.take K rfl (.name rfl) .int (fn_take K Z 11 (by decide) (by decide)) (by decide)) (.of .int rfl) fun d1 d2 ⟨v, e, v0, v1⟩ e2 => by subst e; subst e2; exact ⟨_, .sub, _, rfl, by omega⟩
  obtain ⟨first, rfl, h2⟩ := all_ex PyData.int hq
  rw [List.length_map] at hl2
  refine StD.freeze (x := "first") rfl ?_
  have l3 : steps.length ≤ 3 := by omega
  have hf : first.length = steps.length := by omega
  refine StD.take 2 (law_pure1 K (Z := Z) (sz := sz) h1 h2 l3 hf rfl rfl) ?_
  refine StD.assignE (Q := Rg (9 : Nat)) (.take K rfl (.name rfl) .int (fn_take K Z 9 (by decide) (by decide)) (by decide)) (by walk_at "sto") rfl fun d hd => ?_
  obtain ⟨pl, rfl, p0, p1⟩ := hd
  have hsz : PyData.int sz = .int (steps.length : Int) := by rw [hl, Int.toNat_of_nonneg sz0]
  refine StD.takeEx 4 (law_pure2 K h1 h2 l3 hf p0 p1 rfl rfl rfl rfl (congrArg some hsz)) fun ρ' g2 => ?_
  have hz : ρ'.lookup ("draws" : Str) = some (opqD Z) := g2 _ _ (by decide) rfl
  refine StD.assignComp (N := fun k => k ≤ 5) (Q := fun d => ∃ q : Rat, d = ratD q ∧ Sz 35 q) (ρc := [("draws", opqD Z)]) (ωc := []) (.range K 5 rfl (.imp (.take (Q := Rg (6 : Nat)) K rfl (.name hz) .int (fn_take K Z 6 (by decide) (by decide)) (by decide)) fun d ⟨c, e, c0, c1⟩ => ⟨c, e, c0, by omega⟩) (by decide)) (Blk.of rfl rfl (by decide) (by walk_at "clo") ⟨⟨hz, rfl, fun L => ⟨rfl, rfl, nofun⟩, by decide⟩, trivial⟩ (by walk_at "cap") (by walk_at "tgt")) (fun L item hi => ?_) (by walk_at "sto") rfl fun ds hl3 hq => ?_
  · obtain ⟨d, rfl⟩ := len1 hi
    refine .call2 K rfl (.bin (Q1 := Rg (7 : Nat)) (Q2 := (· = .int 3)) (.take K rfl (.name rfl) .int (fn_take K Z 7 (by decide) (by decide)) (by decide)) (.of .int rfl) fun d1 d2 ⟨v, e, v0, v1⟩ e2 => by subst e; subst e2; exact ⟨_, .sub, _, rfl, by omega⟩)
      (.bin (Q1 := (· = .int 1)) (Q2 := Rg (2 : Nat)) (.of .int rfl) (.take K rfl (.name rfl) .int (fn_take K Z 2 (by decide) (by decide)) (by decide)) fun d1 d2 e1 ⟨v, e, v0, v1⟩ => by subst e; subst e1; exact ⟨_, .add, _, rfl, by omega, by omega⟩) (fn_lowest2 K) (by decide)
  obtain ⟨drawn, rfl, h3⟩ := all_ex ratD hq
  rw [List.length_map] at hl3
  refine StD.freeze (x := "drawn") rfl (StD.ofX (d := .bool true) (StX.ret (.and (t := true) (u := true) (.call K (fn_right K drawn (by omega) h3) rfl (.cons (.name rfl) .nil) (by decide)) fun _ => ?_) rfl) rfl)
  obtain ⟨t, ht⟩ : ∃ t, t = decide ((drawn.filter fun q => decide (q.num ≠ 0)) = []) := ⟨_, rfl⟩
  refine .cmp (d1 := .bool t) (d2 := .bool t) (.call K (fn_obeys K drawn [] (r := 35) (p := 1) t (by rw [ht]; exact obeys_nil drawn) (by omega) (by simp) h3 (fun q hq => by cases hq) (by decide) (by decide) (by decide)) rfl (.cons (.name rfl) (.cons (.ofF (.list .nil)) .nil)) (by decide))
    (.cmp (d1 := ratsD (drawn.filter fun q => decide (q.num ≠ 0))) (d2 := ratsD []) (.ofF (.comp (ρc := []) (ωc := []) (names := ["one"]) (fz := true) (its := drawn.map fun q => [ratD q]) (ds := (drawn.filter fun q => decide (q.num ≠ 0)).map ratD) ?_ (by walk_at "blk") ?_ (by simp; omega))) (.ofF (.list .nil)) (.eqrs ht)) (.eqd (shaped_bool _) (shaped_bool _) (by simp [PyData.eqv]))
  · have e : (drawn.map fun q => [ratD q]) = (drawn.map ratD).map fun d => [d] := by rw [List.map_map]; rfl
    rw [e]
    exact .list (.of (.name rfl))
  · intro L1
    exact CR.filterT _ _ _ _ (fun q _ => .one (.cmp (.num (.name rfl)) .int (.nei rfl))) fun q _ _ => .name rfl
end Nn

-- part W31
namespace Nn
variable {C : Ct} {env : Env} {ρ : Ro} {ω : Om} {n : Nat}
open PySem (Expr)

local macro_rules | `(tactic| walk_at "cap") => `(tactic| first | exact trivial | exact ⟨⟨rfl, rfl, fun L => ⟨rfl, rfl, nofun⟩, by decide⟩, by walk_at "cap"⟩)
local macro_rules | `(tactic| walk_at "clo") => `(tactic| first | exact trivial | exact ⟨rfl, by walk_at "clo"⟩)
local macro_rules | `(tactic| walk_at "tgt") => `(tactic| first | exact trivial | exact ⟨⟨fun L => .inl rfl, rfl, rfl⟩, by walk_at "tgt"⟩ | exact ⟨⟨fun L => .inr ⟨rfl, rfl⟩, rfl, rfl⟩, by walk_at "tgt"⟩)
local macro_rules | `(tactic| walk_at "blk") => `(tactic| exact Blk.of rfl rfl (by decide) (by walk_at "clo") (by walk_at "cap") (by walk_at "cap") (by walk_at "tgt"))
local macro_rules | `(tactic| walk_at "sto") => `(tactic| first | exact .inl rfl | exact .inr ⟨rfl, rfl⟩)
local macro_rules | `(tactic| walk_at "stos") => `(tactic| first | exact List.forall_mem_nil _ | refine List.forall_mem_cons.mpr (And.intro (And.intro (by walk_at "sto") (by rfl)) (by walk_at "stos")))


theorem law_call (K : CtOk C) {fa : Addr} {o : Obj} {pm code doc : Value} (ho : C.g0.get? fa = some o) (hdata : o.data = .func (docDef (fdAt 53).name (fdAt 53).params (fdAt 53).body (fdAt 53).scope pm code doc)) (hcd : C.g0.CodeRec code (fdAt 53).name)
    {a : Addr} {vs : Array Value} {ns : List Int} (hL : C.g0.IsList a vs) (hr : RpAll C.g0.get? vs.toList (ns.map .int)) (hn : ns.length ≤ 63) {s : Shared} (hs : s.heap = C.g0) :
    wpX C callerA (call (.ref fa) [.ref a]) (fun v s' => Sm s s' ∧ Sub s.heap.get? s'.heap.get? ∧ v = .bool true) s := by
  refine wpAny_call ?_
  have up : Sub C.g0.get? s.heap.get? := by rw [hs]; exact .refl _
  refine codeAny_call_cells (fd := docDef (fdAt 53).name (fdAt 53).params (fdAt 53).body (fdAt 53).scope pm code doc) (body := (fdAt 53).body) (binds := [("script", .ref a)]) (by decide) (up _ _ ho) hdata (K.nolimit.keeps up) (hcd.keeps up) rfl rfl rfl (bind_kinds (fun y hy => by rw [List.mem_singleton.mp hy]; exact .inl rfl) _) (fun s1 X => ?_) rfl rfl rfl
  obtain ⟨h1', tk1, es, keep⟩ := X.done
  have hs1 : Sub s.heap.get? s1.heap.get? := by rw [es]; exact keep
  obtain ⟨L, hLs⟩ : ∃ L, L = s.heap.objs.size := ⟨_, rfl⟩
  have G : Good (callerA.deeper (lawEnv pm code doc s.heap.objs.size fa)) 10 := ⟨rfl, (by decide : callerA.depth + 1 + 10 ≤ 500), (by decide : callerA.units + 3 + 3 * 10 ≤ 500), lawEnv pm code doc s.heap.objs.size fa, [], rfl, rfl, rfl, rfl, rfl⟩
  have I : Inv C.g0 s.heap s.heap.get? s.heap.get? s1.heap (lawEnv pm code doc s.heap.objs.size fa) [("script", opqD a)] [] := {
    ok := ⟨rfl, rfl, rfl⟩, g := up, bh := hs1, eh := hs1, b0b := .refl _, new := fun _ _ e => .inl e
    ns := ⟨_, X.toInCall.ns⟩
    nsb := get_size _
    nse := get_size _
    cel := fun x c e => by
      have := X.above x c (mem_of_lookup e)
      have hn : s.heap.get? c = none := get_out (Nat.le_of_lt this)
      exact ⟨⟨_, X.cell x c e⟩, hn, hn⟩
    cdist := fun x y c e1 e2 => name_of_addr X.apart (mem_of_lookup e1) (mem_of_lookup e2)
    var := fun x d e => by
      rw [lookup_cons] at e
      split at e
      · rename_i q
        subst q
        cases e
        exact ⟨_, .loc _ rfl X.toInCall.ns (bindL_get (show (["script"] : List Str).Nodup by decide) rfl rfl), .opq a⟩
      · simp at e
    own := ⟨fun _ => 0, ⟨fun _ _ e => by simp at e, fun _ _ _ _ e => by simp at e⟩⟩ }
  obtain ⟨f, of, fd, d1, d2, d3, d4⟩ := fn_draws K hL hr hn
  have hev : ∀ {p1 p2 pos : Pos}, wpX C (callerA.deeper (lawEnv pm code doc s.heap.objs.size fa)) (eval (.Call (.Name "_law_draws" p1) [.Name "script" p2] [] pos) (lawEnv pm code doc s.heap.objs.size fa)) (fun v s' => ∃ b' Z, Step s.heap.get? s1 b' s' ∧ v = .ref Z ∧ s1.heap.get? Z = none ∧ b' Z = none ∧ DcO C s'.heap Z) s1 := by
    intro p1 p2 pos
    rw [show eval (.Call (.Name "_law_draws" p1) [.Name "script" p2] [] pos) (lawEnv pm code doc s.heap.objs.size fa) = (do callWith pos (← eval (.Name "_law_draws" p1) (lawEnv pm code doc s.heap.objs.size fa)) [] (backTo pos (starEach [.Name "script" p2] (lawEnv pm code doc s.heap.objs.size fa))) (backToKw pos (keywordEach [] (lawEnv pm code doc s.heap.objs.size fa)))) from rfl]
    refine wpAny_bind (Name_function_global I.ok.kind rfl (loadGlobal_global (by rw [I.ok.gl]; exact K.ns.keeps I.g0h) d1 ?_) (by decide))
    refine callWith_def (o := of) (fd := fd) d3 (wpAny_items_cons ((EvX.name (C := C) (n := 10) (pos := p2) rfl (by decide) _ s1 s.heap s.heap.get? s.heap.get? G I).any fun v1 s2 ⟨b2, x2, r2⟩ => wpAny_items_nil ?_) rfl) rfl
    refine ⟨(I.step x2).g0h _ _ d2, ?_⟩
    exact (d4 _ s2 b2 v1 (G.mono (by decide)) (I.step x2).g x2.bh r2).any fun v s3 ⟨b3, Z, x3, e, z1, z2, dc⟩ => ⟨b3, Z, x2.trans x3, e, x2.hh.none z1, z2, dc⟩
  refine wpX.any (C := C) (Q := fun fl s' => ∃ v, fl = .ret v ∧ Sm s s' ∧ Sub s.heap.get? s'.heap.get? ∧ v = .bool true) ?_ fun fl s' ⟨v, e, q⟩ => by subst e; exact q
  show wpX C (callerA.deeper (lawEnv pm code doc s.heap.objs.size fa)) (execs ((fdAt 53).body.take 1 ++ (fdAt 53).body.drop 1) (lawEnv pm code doc s.heap.objs.size fa)) _ s1
  refine wpAny_execs_append (wpAny_execs_cons (wpAny_Assign_Name (hev.any fun v s2 ⟨b2, Z, x2, e, z1, z2, dc⟩ => ?_) rfl))
  subst e
  have I2 := I.step x2
  have hZL : Z ≠ (lawEnv pm code doc s.heap.objs.size fa).locals := fun q => by
    obtain ⟨m, o, _, _, ho, _⟩ := I.ns
    rw [← q, z1] at ho; cases ho
  refine store_base (x := "draws") I2 (.inr ⟨rfl, rfl⟩) rfl (.opq Z) fun h' tk I3 kp => ?_
  show wpX C _ (execs [] _) _ _
  refine wpAny_execs_nil ?_
  have O3 : DOk C h' Z b2 s.heap (lawEnv pm code doc s.heap.objs.size fa) := ⟨dc.at' fun o e => kp Z o hZL (fun c hc q => by
    obtain ⟨⟨v0, hv⟩, _⟩ := I2.cel _ c hc
    exact DOk.ne_cell dc hv q.symm) e, z2, hs1.none z1, hZL⟩
  refine (law_std K (a := a) (Z := Z) _ { s2 with heap := h', toks := tk } s.heap s.heap.get? b2 G I3 O3).any fun fl s4 ⟨m, v, d, b4, e, q, F, r, _⟩ => ?_
  subst e q
  cases r
  exact ⟨_, rfl, (Sm.trans (⟨h1', tk1, es⟩ : Sm s s1) x2.same).trans (Sm.trans ⟨h', tk, rfl⟩ m), F.eh, rfl⟩
end Nn

-- part W32
namespace Nn
set_option maxHeartbeats 8000000
/-! ## The top, cut into five runs: the heap behind each, written out -/
noncomputable def tE : Obj := { cls := Value.type "tuple", data := Data.seq #[] }
noncomputable def fE : Obj := { cls := Value.none, data := Data.fields #[] }
noncomputable def tupV (l : List Value) : Obj := { cls := Value.type "tuple", data := Data.seq ⟨l⟩ }
noncomputable def pO (i : Nat) : Obj := { cls := Value.none, data := Data.func { name := (fdAt i).name, qualname := (fdAt i).name, params := (fdAt i).params, body := FuncBody.stmts (fdAt i).body, scope := (fdAt i).scope, globals := 0, closure := [], defaults := Value.none, kwdefaults := Value.none } }
noncomputable def fO (i : Nat) (m : Str) (t c : Nat) : Obj := { cls := Value.type "function", data := Data.func { name := (fdAt i).name, qualname := (fdAt i).name, params := (fdAt i).params, body := FuncBody.stmts (fdAt i).body, scope := (fdAt i).scope, globals := 3, closure := [], defaults := Value.none, kwdefaults := Value.none, pyModule := Value.str m t, code := Value.ref c } }
noncomputable def fdIn (i : Nat) : DefRec := match PySem.Challenge.pw_nn0268_01.main.body[i]? with
  | some (.ClassDef _ _ _ body _ _ _ _ _ _ _) => (match body.filterMap (fun s => match s with | .FunctionDef name args body _ _ _ scope _ _ pos => some (⟨name, args, body, scope, pos⟩ : DefRec) | _ => none) with
    | d :: _ => d
    | [] => fdAt 0)
  | _ => fdAt 0
noncomputable def cO (i n : Nat) (line a b c d : Int) (r1 r2 : Nat) (v1 v2 : Value) (r3 m : Nat) : Obj := { cls := Value.type "code", data := Data.fields #[Value.str (fdAt i).name n, Value.str (fdAt i).name (n + 1), Value.str "/claim/cut.py" (n + 2), Value.int line 0, Value.int a 0, Value.int b 0, Value.int c 0, Value.int d 0, Value.ref r1, Value.bool true, Value.int 181 0, Value.ref r2, Value.none, v1, v2, Value.ref r3, Value.int m 0, Value.int line 0, Value.str "/claim/cut.py" (m + 1)] }
noncomputable def tS0 (P : Params) : List Obj := [
  { cls := Value.type "code", data := Data.fields #[Value.str (Str.ofString "<module>") 182, Value.str (Str.ofString "<module>") 183, Value.str (Str.ofString "/claim/cut.py") 184, Value.int 1 0, Value.int 0 0, Value.int 0 0, Value.int 0 0, Value.int 0 0, Value.ref 11, Value.bool false, Value.int 181 0, Value.ref 12, Value.none, Value.none, Value.none, Value.none, Value.int 185 0, Value.int 1 0, Value.str (Str.ofString "/claim/cut.py") 186] },
  { cls := Value.type "frame", slots := #[some (Value.ref 13), some (Value.ref 3), some (Value.ref 3), none, some (Value.str (Str.ofString "__main__") 164), none, some (Value.ref 0)] }]
noncomputable def tS1 (P : Params) : List Obj := [
  tupV [Value.type "Exception"],
  { cls := Value.type "builtin_function_or_method", data := Data.fields #[Value.builtin "type.__prepare__", Value.type "type"] },
  { cls := Value.type "dict", data := Data.dict #[{ hash := PyData.keyHash P (Str.ofString "__module__"), key := Value.str (Str.ofString "__module__") 196, val := Value.str (Str.ofString "cas.errors") 187 }, { hash := PyData.keyHash P (Str.ofString "__qualname__"), key := Value.str (Str.ofString "__qualname__") 198, val := Value.str (Str.ofString "CasFail") 197 }, { hash := PyData.keyHash P (Str.ofString "__firstlineno__"), key := Value.str (Str.ofString "__firstlineno__") 200, val := Value.int 2 199 }, { hash := PyData.keyHash P (Str.ofString "__init__"), key := Value.str (Str.ofString "__init__") 209, val := Value.ref 28 }, { hash := PyData.keyHash P (Str.ofString "__static_attributes__"), key := Value.str (Str.ofString "__static_attributes__") 212, val := Value.ref 29 }] 5 },
  tE,
  { cls := Value.none, data := Data.fields #[Value.int 4 0, Value.int 4 0, Value.ref 27] },
  { cls := Value.type "code", data := Data.fields #[Value.str (Str.ofString "CasFail") 191, Value.str (Str.ofString "CasFail") 192, Value.str (Str.ofString "/claim/cut.py") 193, Value.int 2 0, Value.int 0 0, Value.int 0 0, Value.int 0 0, Value.int 0 0, Value.ref 18, Value.bool false, Value.int 181 0, Value.ref 19, Value.none, Value.none, Value.none, Value.none, Value.int 194 0, Value.int 2 0, Value.str (Str.ofString "/claim/cut.py") 195] },
  { cls := Value.type "frame", slots := #[some (Value.ref 20), some (Value.ref 3), some (Value.ref 17), none, some (Value.str (Str.ofString "cas.errors") 187), none, some (Value.ref 0)] },
  tE,
  fE,
  tupV [Value.str (Str.ofString "self") 204, Value.str (Str.ofString "kind") 205, Value.str (Str.ofString "text") 206],
  tE,
  { cls := Value.none, data := Data.func { name := Str.ofString "__init__", qualname := Str.ofString "CasFail.__init__", params := (fdIn 1).params, body := FuncBody.stmts (fdIn 1).body, scope := (fdIn 1).scope, globals := 0, closure := [], defaults := Value.none, kwdefaults := Value.none } },
  { cls := Value.type "code", data := Data.fields #[Value.str (Str.ofString "__init__") 201, Value.str (Str.ofString "CasFail.__init__") 202, Value.str (Str.ofString "/claim/cut.py") 203, Value.int 4 0, Value.int 3 0, Value.int 0 0, Value.int 0 0, Value.int 3 0, Value.ref 22, Value.bool true, Value.int 181 0, Value.ref 23, Value.none, Value.ref 24, Value.ref 25, Value.ref 26, Value.int 207 0, Value.int 4 0, Value.str (Str.ofString "/claim/cut.py") 208] },
  { cls := Value.type "function", data := Data.func { name := Str.ofString "__init__", qualname := Str.ofString "CasFail.__init__", params := (fdIn 1).params, body := FuncBody.stmts (fdIn 1).body, scope := (fdIn 1).scope, globals := 3, closure := [], defaults := Value.none, kwdefaults := Value.none, pyModule := Value.str (Str.ofString "cas.errors") 187, code := Value.ref 27 } },
  tupV [Value.str (Str.ofString "kind") 210, Value.str (Str.ofString "text") 211],
  { cls := Value.type "dict", data := Data.dict #[{ hash := PyData.keyHash P (Str.ofString "__module__"), key := Value.str (Str.ofString "__module__") 196, val := Value.str (Str.ofString "cas.errors") 187 }, { hash := PyData.keyHash P (Str.ofString "__firstlineno__"), key := Value.str (Str.ofString "__firstlineno__") 200, val := Value.int 2 199 }, { hash := PyData.keyHash P (Str.ofString "__init__"), key := Value.str (Str.ofString "__init__") 209, val := Value.ref 28 }, { hash := PyData.keyHash P (Str.ofString "__static_attributes__"), key := Value.str (Str.ofString "__static_attributes__") 212, val := Value.ref 29 }, { hash := PyData.keyHash P (Str.ofString "__weakref__"), key := Value.str (Str.ofString "__weakref__") 214, val := Value.ref 32 }, { hash := PyData.keyHash P (Str.ofString "__doc__"), key := Value.str (Str.ofString "__doc__") 215, val := Value.none }] 3 },
  { cls := Value.type "type", data := Data.cls { name := Str.ofString "CasFail", bases := [Value.type "Exception"], mro := [Value.ref 31, Value.type "Exception", Value.type "BaseException", Value.type "object"], ns := 30, qualname := Str.ofString "CasFail" }, slots := #[some (Value.ref 15), none, some (Value.str (Str.ofString "CasFail") 189), some (Value.str (Str.ofString "CasFail") 197), some (Value.builtin "Exception.__new__"), some (Value.bool true)] },
  { cls := Value.type "getset_descriptor", data := Data.fields #[Value.str (Str.ofString "__weakref__") 213, Value.ref 31, Value.builtin "ExceptionGroup.__weakref__", Value.none] },
  { cls := Value.type "super", data := Data.fields #[Value.ref 31, Value.ref 31, Value.ref 31] },
  { cls := Value.type "builtin_function_or_method", data := Data.fields #[Value.builtin "object.__init_subclass__", Value.ref 31] },
  tE,
  fE,
  pO 3,
  cO 3 222 9 1 0 0 3 35 36 Value.none Value.none 37 225,
  fO 3 "cas.normal" 220 38,
  tE,
  fE,
  pO 4,
  cO 4 228 11 2 0 0 3 40 41 Value.none Value.none 42 231,
  fO 4 "cas.normal" 220 43,
  tE,
  fE,
  tupV [Value.str (Str.ofString "a") 239, Value.str (Str.ofString "b") 240],
  tE,
  pO 6,
  cO 6 236 15 2 0 0 3 45 46 (Value.ref 47) (Value.ref 48) 49 241,
  fO 6 "cas.ints" 234 50,
  tupV [Value.int 0 246, Value.int 1 247],
  tupV [Value.int 1 249, Value.int 1 250],
  tE,
  fE,
  tupV [Value.str (Str.ofString "top") 255, Value.str (Str.ofString "bottom") 256, Value.str (Str.ofString "g") 257],
  tE,
  pO 10,
  cO 10 252 23 2 0 0 3 54 55 (Value.ref 56) (Value.ref 57) 58 258,
  fO 10 "cas.rats" 244 59,
  tE,
  fE,
  tupV [Value.str (Str.ofString "a") 264, Value.str (Str.ofString "b") 265],
  tE,
  pO 11,
  cO 11 261 28 2 0 0 3 61 62 (Value.ref 63) (Value.ref 64) 65 266,
  fO 11 "cas.rats" 244 66,
  tE,
  fE,
  tupV [Value.str (Str.ofString "a") 272, Value.str (Str.ofString "b") 273],
  tE,
  { cls := Value.none, data := Data.func { name := (fdAt 12).name, qualname := (fdAt 12).name, params := (fdAt 12).params, body := FuncBody.stmts (fdAt 12).body, scope := (fdAt 11).scope, globals := 0, closure := [], defaults := Value.none, kwdefaults := Value.none } },
  cO 12 269 30 2 0 0 3 68 69 (Value.ref 70) (Value.ref 71) 72 274,
  { cls := Value.type "function", data := Data.func { name := (fdAt 12).name, qualname := (fdAt 12).name, params := (fdAt 12).params, body := FuncBody.stmts (fdAt 12).body, scope := (fdAt 11).scope, globals := 3, closure := [], defaults := Value.none, kwdefaults := Value.none, pyModule := Value.str (Str.ofString "cas.rats") 244, code := Value.ref 73 } },
  tE,
  fE,
  tupV [Value.str (Str.ofString "a") 280, Value.str (Str.ofString "b") 281],
  tE,
  { cls := Value.none, data := Data.func { name := (fdAt 13).name, qualname := (fdAt 13).name, params := (fdAt 13).params, body := FuncBody.stmts (fdAt 13).body, scope := (fdAt 11).scope, globals := 0, closure := [], defaults := Value.none, kwdefaults := Value.none } },
  cO 13 277 32 2 0 0 3 75 76 (Value.ref 77) (Value.ref 78) 79 282,
  { cls := Value.type "function", data := Data.func { name := (fdAt 13).name, qualname := (fdAt 13).name, params := (fdAt 13).params, body := FuncBody.stmts (fdAt 13).body, scope := (fdAt 11).scope, globals := 3, closure := [], defaults := Value.none, kwdefaults := Value.none, pyModule := Value.str (Str.ofString "cas.rats") 244, code := Value.ref 80 } },
  tE,
  fE,
  tupV [Value.str (Str.ofString "a") 288, Value.str (Str.ofString "b") 289],
  tE,
  { cls := Value.none, data := Data.func { name := (fdAt 14).name, qualname := (fdAt 14).name, params := (fdAt 14).params, body := FuncBody.stmts (fdAt 14).body, scope := (fdAt 11).scope, globals := 0, closure := [], defaults := Value.none, kwdefaults := Value.none } },
  cO 14 285 34 2 0 0 3 82 83 (Value.ref 84) (Value.ref 85) 86 290,
  { cls := Value.type "function", data := Data.func { name := (fdAt 14).name, qualname := (fdAt 14).name, params := (fdAt 14).params, body := FuncBody.stmts (fdAt 14).body, scope := (fdAt 11).scope, globals := 3, closure := [], defaults := Value.none, kwdefaults := Value.none, pyModule := Value.str (Str.ofString "cas.rats") 244, code := Value.ref 87 } },
  tE,
  fE,
  tupV [Value.str (Str.ofString "a") 296],
  tE,
  pO 15,
  cO 15 293 36 1 0 0 3 89 90 (Value.ref 91) (Value.ref 92) 93 297,
  fO 15 "cas.rats" 244 94,
  tE,
  fE,
  tupV [Value.str (Str.ofString "a") 303],
  tE,
  pO 16,
  cO 16 300 38 1 0 0 3 96 97 (Value.ref 98) (Value.ref 99) 100 304,
  fO 16 "cas.rats" 244 101]
noncomputable def tS2 (P : Params) : List Obj := [
  tE,
  fE,
  tupV [Value.str (Str.ofString "row") 312, Value.str (Str.ofString "size") 313],
  tE,
  pO 18,
  cO 18 309 41 1 0 0 3 103 104 (Value.ref 105) (Value.ref 106) 107 314,
  fO 18 "cas.qpoly" 307 108,
  tE,
  fE,
  tupV [Value.str (Str.ofString "p") 320],
  tE,
  pO 19,
  cO 19 317 46 1 0 0 3 110 111 (Value.ref 112) (Value.ref 113) 114 321,
  fO 19 "cas.qpoly" 307 115,
  tE,
  fE,
  tupV [Value.str (Str.ofString "p") 327],
  tE,
  pO 20,
  cO 20 324 48 1 0 0 3 117 118 (Value.ref 119) (Value.ref 120) 121 328,
  fO 20 "cas.qpoly" 307 122,
  tE,
  fE,
  pO 21,
  cO 21 331 50 2 0 0 3 124 125 Value.none Value.none 126 334,
  fO 21 "cas.qpoly" 307 127,
  tE,
  fE,
  pO 22,
  cO 22 337 53 1 0 0 3 129 130 Value.none Value.none 131 340,
  fO 22 "cas.qpoly" 307 132,
  tE,
  fE,
  tupV [Value.str (Str.ofString "a") 346, Value.str (Str.ofString "b") 347],
  tE,
  pO 23,
  cO 23 343 55 2 0 0 3 134 135 (Value.ref 136) (Value.ref 137) 138 348,
  fO 23 "cas.qpoly" 307 139,
  tE,
  fE,
  pO 24,
  cO 24 351 57 2 0 0 3 141 142 Value.none Value.none 143 354,
  fO 24 "cas.qpoly" 307 144,
  tE,
  fE,
  tupV [Value.str (Str.ofString "p") 360, Value.str (Str.ofString "many") 361],
  tE,
  pO 25,
  cO 25 357 59 2 0 0 3 146 147 (Value.ref 148) (Value.ref 149) 150 362,
  fO 25 "cas.qpoly" 307 151,
  tE,
  fE,
  tupV [Value.str (Str.ofString "a") 368, Value.str (Str.ofString "b") 369, Value.str (Str.ofString "rest") 370, Value.str (Str.ofString "found") 371, Value.str (Str.ofString "number") 372, Value.str (Str.ofString "power") 373, Value.str (Str.ofString "lower") 374],
  tE,
  pO 26,
  cO 26 365 61 2 0 0 3 153 154 (Value.ref 155) (Value.ref 156) 157 375,
  fO 26 "cas.qpoly" 307 158,
  tE,
  fE,
  tupV [Value.str (Str.ofString "p") 381],
  tE,
  pO 27,
  cO 27 378 71 1 0 0 3 160 161 (Value.ref 162) (Value.ref 163) 164 382,
  fO 27 "cas.qpoly" 307 165,
  tE,
  fE,
  tupV [Value.str (Str.ofString "a") 388, Value.str (Str.ofString "b") 389],
  tE,
  pO 28,
  cO 28 385 73 2 0 0 3 167 168 (Value.ref 169) (Value.ref 170) 171 390,
  fO 28 "cas.qpoly" 307 172,
  { cls := Value.type "list", data := Data.seq #[] },
  { cls := Value.type "list", data := Data.seq #[Value.ref 53] },
  tupV [Value.ref 174, Value.ref 175]]
noncomputable def tS3 (P : Params) : List Obj := [
  tE,
  fE,
  tupV [Value.str (Str.ofString "top") 399, Value.str (Str.ofString "bottom") 400, Value.str (Str.ofString "common") 401, Value.str (Str.ofString "scale") 402],
  tE,
  pO 31,
  cO 31 396 79 2 0 0 3 177 178 (Value.ref 179) (Value.ref 180) 181 403,
  fO 31 "cas.ratfun" 393 182,
  tE,
  fE,
  pO 33,
  cO 33 408 90 2 0 0 3 184 185 Value.none Value.none 186 411,
  fO 33 "cas.recur" 406 187,
  tE,
  fE,
  tupV [Value.str (Str.ofString "steps") 417, Value.str (Str.ofString "first") 418, Value.str (Str.ofString "many") 419, Value.str (Str.ofString "found") 420],
  tE,
  pO 34,
  cO 34 414 92 3 0 0 3 189 190 (Value.ref 191) (Value.ref 192) 193 421,
  fO 34 "cas.recur" 406 194,
  tE,
  fE,
  pO 35,
  cO 35 424 99 1 0 0 3 196 197 Value.none Value.none 198 427,
  fO 35 "cas.recur" 406 199,
  tE,
  fE,
  tupV [Value.str (Str.ofString "a") 433, Value.str (Str.ofString "n") 434, Value.str (Str.ofString "found") 435, Value.str (Str.ofString "square") 436],
  tE,
  pO 36,
  cO 36 430 105 2 0 0 3 201 202 (Value.ref 203) (Value.ref 204) 205 437,
  fO 36 "cas.recur" 406 206,
  tE,
  fE,
  pO 37,
  cO 37 440 113 3 0 0 3 208 209 Value.none Value.none 210 443,
  fO 37 "cas.recur" 406 211,
  tE,
  fE,
  pO 38,
  cO 38 446 120 2 0 0 3 213 214 Value.none Value.none 215 449,
  fO 38 "cas.recur" 406 216,
  tE,
  fE,
  tupV [Value.str (Str.ofString "f") 455, Value.str (Str.ofString "many") 456, Value.str (Str.ofString "top") 457, Value.str (Str.ofString "bottom") 458, Value.str (Str.ofString "found") 459, Value.str (Str.ofString "n") 460, Value.str (Str.ofString "number") 461, Value.str (Str.ofString "back") 462],
  tE,
  pO 39,
  cO 39 452 131 2 0 0 3 218 219 (Value.ref 220) (Value.ref 221) 222 463,
  fO 39 "cas.recur" 406 223,
  tE,
  fE,
  tupV [Value.str (Str.ofString "row") 469, Value.str (Str.ofString "n") 470, Value.str (Str.ofString "polynomial") 471, Value.str (Str.ofString "found") 472, Value.str (Str.ofString "back") 473],
  tE,
  pO 40,
  cO 40 466 142 3 0 0 3 225 226 (Value.ref 227) (Value.ref 228) 229 474,
  fO 40 "cas.recur" 406 230,
  tE,
  fE,
  tupV [Value.str (Str.ofString "polynomial") 480, Value.str (Str.ofString "number") 481, Value.str (Str.ofString "former") 482, Value.str (Str.ofString "gap") 483, Value.str (Str.ofString "size") 484, Value.str (Str.ofString "found") 485, Value.str (Str.ofString "at") 486, Value.str (Str.ofString "one") 487],
  tE,
  pO 41,
  cO 41 477 147 4 0 0 3 232 233 (Value.ref 234) (Value.ref 235) 236 488,
  fO 41 "cas.recur" 406 237,
  tE,
  fE,
  pO 42,
  cO 42 491 153 1 0 0 3 239 240 Value.none Value.none 241 494,
  fO 42 "cas.recur" 406 242]
noncomputable def tS4 (P : Params) : List Obj := [
  tE,
  fE,
  tupV [Value.str (Str.ofString "row") 500, Value.str (Str.ofString "steps") 501, Value.str (Str.ofString "n") 502, Value.str (Str.ofString "number") 503, Value.str (Str.ofString "at") 504, Value.str (Str.ofString "step") 505],
  tE,
  pO 43,
  cO 43 497 166 2 0 0 3 244 245 (Value.ref 246) (Value.ref 247) 248 506,
  fO 43 "cas.recur" 406 249,
  tE,
  fE,
  tupV [Value.str (Str.ofString "draws") 514, Value.str (Str.ofString "many") 515, Value.str (Str.ofString "found") 516],
  tE,
  pO 45,
  cO 45 511 175 2 0 0 3 251 252 (Value.ref 253) (Value.ref 254) 255 517,
  fO 45 "law_nn0268_01" 509 256,
  tE,
  fE,
  pO 46,
  cO 46 520 181 1 0 0 3 258 259 Value.none Value.none 260 523,
  fO 46 "law_nn0268_01" 509 261,
  tE,
  fE,
  pO 47,
  cO 47 526 186 3 0 0 3 263 264 Value.none Value.none 265 529,
  fO 47 "law_nn0268_01" 509 266,
  tE,
  fE,
  tupV [Value.str (Str.ofString "one") 535, Value.str (Str.ofString "other") 536, Value.str (Str.ofString "many") 537, Value.str (Str.ofString "top") 538, Value.str (Str.ofString "bottom") 539],
  tE,
  pO 48,
  cO 48 532 191 3 0 0 3 268 269 (Value.ref 270) (Value.ref 271) 272 540,
  fO 48 "law_nn0268_01" 509 273,
  tE,
  fE,
  tupV [Value.str (Str.ofString "top") 546, Value.str (Str.ofString "bottom") 547, Value.str (Str.ofString "one") 548, Value.str (Str.ofString "other") 549],
  tE,
  pO 49,
  cO 49 543 195 2 0 0 3 275 276 (Value.ref 277) (Value.ref 278) 279 550,
  fO 49 "law_nn0268_01" 509 280,
  tE,
  fE,
  pO 50,
  cO 50 553 201 2 0 0 3 282 283 Value.none Value.none 284 556,
  fO 50 "law_nn0268_01" 509 285,
  tE,
  fE,
  pO 51,
  cO 51 559 203 2 0 0 3 287 288 Value.none Value.none 289 562,
  fO 51 "law_nn0268_01" 509 290,
  tE,
  fE,
  tupV [Value.str (Str.ofString "row") 568, Value.str (Str.ofString "told") 569],
  tE,
  pO 52,
  cO 52 565 214 1 0 0 3 292 293 (Value.ref 294) (Value.ref 295) 296 570,
  fO 52 "law_nn0268_01" 509 297,
  tE,
  fE,
  pO 53,
  cO 53 573 219 1 0 0 3 299 300 Value.none Value.none 301 576,
  fO 53 "law_nn0268_01" 509 302]
noncomputable def tD0 (P : Params) : List DictEntry := match (boot_o_3 P).data with
  | .dict es _ => es.toList.tail
  | _ => []
noncomputable def tD1 (P : Params) : List DictEntry := [
  { hash := PyData.keyHash P (Str.ofString "CasFail"), key := Value.str (Str.ofString "CasFail") 219, val := Value.ref 31 },
  { hash := PyData.keyHash P (fdAt 3).name, key := Value.str (fdAt 3).name 227, val := Value.ref 39 },
  { hash := PyData.keyHash P (fdAt 4).name, key := Value.str (fdAt 4).name 233, val := Value.ref 44 },
  { hash := PyData.keyHash P (fdAt 6).name, key := Value.str (fdAt 6).name 243, val := Value.ref 51 },
  { hash := PyData.keyHash P (Str.ofString "R0"), key := Value.str (Str.ofString "R0") 248, val := Value.ref 52 },
  { hash := PyData.keyHash P (Str.ofString "R1"), key := Value.str (Str.ofString "R1") 251, val := Value.ref 53 },
  { hash := PyData.keyHash P (fdAt 10).name, key := Value.str (fdAt 10).name 260, val := Value.ref 60 },
  { hash := PyData.keyHash P (fdAt 11).name, key := Value.str (fdAt 11).name 268, val := Value.ref 67 },
  { hash := PyData.keyHash P (fdAt 12).name, key := Value.str (fdAt 12).name 276, val := Value.ref 74 },
  { hash := PyData.keyHash P (fdAt 13).name, key := Value.str (fdAt 13).name 284, val := Value.ref 81 },
  { hash := PyData.keyHash P (fdAt 14).name, key := Value.str (fdAt 14).name 292, val := Value.ref 88 },
  { hash := PyData.keyHash P (fdAt 15).name, key := Value.str (fdAt 15).name 299, val := Value.ref 95 },
  { hash := PyData.keyHash P (fdAt 16).name, key := Value.str (fdAt 16).name 306, val := Value.ref 102 }]
noncomputable def tN1 (P : Params) : Obj := { cls := Value.type "dict", data := Data.dict ⟨{ hash := PyData.keyHash P (Str.ofString "__name__"), key := Value.str (Str.ofString "__name__") 165, val := Value.str (Str.ofString "cas.rats") 244 } :: (tD0 P ++ (tD1 P))⟩ 22 }
noncomputable def tF1 : List Value := [Value.int 2 0, Value.int 0 0, Value.ref 20, Value.int 9 0, Value.int 0 0, Value.ref 38, Value.int 11 0, Value.int 0 0, Value.ref 43, Value.int 15 0, Value.int 0 0, Value.ref 50, Value.int 23 0, Value.int 0 0, Value.ref 59, Value.int 28 0, Value.int 0 0, Value.ref 66, Value.int 30 0, Value.int 0 0, Value.ref 73, Value.int 32 0, Value.int 0 0, Value.ref 80, Value.int 34 0, Value.int 0 0, Value.ref 87, Value.int 36 0, Value.int 0 0, Value.ref 94, Value.int 38 0, Value.int 0 0, Value.ref 101]
noncomputable def tQ1 (P : Params) : Obj := { cls := Value.none, data := Data.fields ⟨tF1⟩ }
noncomputable def tD2 (P : Params) : List DictEntry := [
  { hash := PyData.keyHash P (fdAt 18).name, key := Value.str (fdAt 18).name 316, val := Value.ref 109 },
  { hash := PyData.keyHash P (fdAt 19).name, key := Value.str (fdAt 19).name 323, val := Value.ref 116 },
  { hash := PyData.keyHash P (fdAt 20).name, key := Value.str (fdAt 20).name 330, val := Value.ref 123 },
  { hash := PyData.keyHash P (fdAt 21).name, key := Value.str (fdAt 21).name 336, val := Value.ref 128 },
  { hash := PyData.keyHash P (fdAt 22).name, key := Value.str (fdAt 22).name 342, val := Value.ref 133 },
  { hash := PyData.keyHash P (fdAt 23).name, key := Value.str (fdAt 23).name 350, val := Value.ref 140 },
  { hash := PyData.keyHash P (fdAt 24).name, key := Value.str (fdAt 24).name 356, val := Value.ref 145 },
  { hash := PyData.keyHash P (fdAt 25).name, key := Value.str (fdAt 25).name 364, val := Value.ref 152 },
  { hash := PyData.keyHash P (fdAt 26).name, key := Value.str (fdAt 26).name 377, val := Value.ref 159 },
  { hash := PyData.keyHash P (fdAt 27).name, key := Value.str (fdAt 27).name 384, val := Value.ref 166 },
  { hash := PyData.keyHash P (fdAt 28).name, key := Value.str (fdAt 28).name 392, val := Value.ref 173 },
  { hash := PyData.keyHash P (Str.ofString "F0"), key := Value.str (Str.ofString "F0") 395, val := Value.ref 176 }]
noncomputable def tN2 (P : Params) : Obj := { cls := Value.type "dict", data := Data.dict ⟨{ hash := PyData.keyHash P (Str.ofString "__name__"), key := Value.str (Str.ofString "__name__") 165, val := Value.str (Str.ofString "cas.ratfun") 393 } :: (tD0 P ++ (tD1 P ++ (tD2 P)))⟩ 34 }
noncomputable def tF2 : List Value := [Value.int 41 0, Value.int 0 0, Value.ref 108, Value.int 46 0, Value.int 0 0, Value.ref 115, Value.int 48 0, Value.int 0 0, Value.ref 122, Value.int 50 0, Value.int 0 0, Value.ref 127, Value.int 53 0, Value.int 0 0, Value.ref 132, Value.int 55 0, Value.int 0 0, Value.ref 139, Value.int 57 0, Value.int 0 0, Value.ref 144, Value.int 59 0, Value.int 0 0, Value.ref 151, Value.int 61 0, Value.int 0 0, Value.ref 158, Value.int 71 0, Value.int 0 0, Value.ref 165, Value.int 73 0, Value.int 0 0, Value.ref 172]
noncomputable def tQ2 (P : Params) : Obj := { cls := Value.none, data := Data.fields ⟨tF1 ++ (tF2)⟩ }
noncomputable def tD3 (P : Params) : List DictEntry := [
  { hash := PyData.keyHash P (fdAt 31).name, key := Value.str (fdAt 31).name 405, val := Value.ref 183 },
  { hash := PyData.keyHash P (fdAt 33).name, key := Value.str (fdAt 33).name 413, val := Value.ref 188 },
  { hash := PyData.keyHash P (fdAt 34).name, key := Value.str (fdAt 34).name 423, val := Value.ref 195 },
  { hash := PyData.keyHash P (fdAt 35).name, key := Value.str (fdAt 35).name 429, val := Value.ref 200 },
  { hash := PyData.keyHash P (fdAt 36).name, key := Value.str (fdAt 36).name 439, val := Value.ref 207 },
  { hash := PyData.keyHash P (fdAt 37).name, key := Value.str (fdAt 37).name 445, val := Value.ref 212 },
  { hash := PyData.keyHash P (fdAt 38).name, key := Value.str (fdAt 38).name 451, val := Value.ref 217 },
  { hash := PyData.keyHash P (fdAt 39).name, key := Value.str (fdAt 39).name 465, val := Value.ref 224 },
  { hash := PyData.keyHash P (fdAt 40).name, key := Value.str (fdAt 40).name 476, val := Value.ref 231 },
  { hash := PyData.keyHash P (fdAt 41).name, key := Value.str (fdAt 41).name 490, val := Value.ref 238 },
  { hash := PyData.keyHash P (fdAt 42).name, key := Value.str (fdAt 42).name 496, val := Value.ref 243 }]
noncomputable def tN3 (P : Params) : Obj := { cls := Value.type "dict", data := Data.dict ⟨{ hash := PyData.keyHash P (Str.ofString "__name__"), key := Value.str (Str.ofString "__name__") 165, val := Value.str (Str.ofString "cas.recur") 406 } :: (tD0 P ++ (tD1 P ++ (tD2 P ++ (tD3 P))))⟩ 45 }
noncomputable def tF3 : List Value := [Value.int 79 0, Value.int 0 0, Value.ref 182, Value.int 90 0, Value.int 0 0, Value.ref 187, Value.int 92 0, Value.int 0 0, Value.ref 194, Value.int 99 0, Value.int 0 0, Value.ref 199, Value.int 105 0, Value.int 0 0, Value.ref 206, Value.int 113 0, Value.int 0 0, Value.ref 211, Value.int 120 0, Value.int 0 0, Value.ref 216, Value.int 131 0, Value.int 0 0, Value.ref 223, Value.int 142 0, Value.int 0 0, Value.ref 230, Value.int 147 0, Value.int 0 0, Value.ref 237, Value.int 153 0, Value.int 0 0, Value.ref 242]
noncomputable def tQ3 (P : Params) : Obj := { cls := Value.none, data := Data.fields ⟨tF1 ++ (tF2 ++ (tF3))⟩ }
noncomputable def tD4 (P : Params) : List DictEntry := [
  { hash := PyData.keyHash P (fdAt 43).name, key := Value.str (fdAt 43).name 508, val := Value.ref 250 },
  { hash := PyData.keyHash P (fdAt 45).name, key := Value.str (fdAt 45).name 519, val := Value.ref 257 },
  { hash := PyData.keyHash P (fdAt 46).name, key := Value.str (fdAt 46).name 525, val := Value.ref 262 },
  { hash := PyData.keyHash P (fdAt 47).name, key := Value.str (fdAt 47).name 531, val := Value.ref 267 },
  { hash := PyData.keyHash P (fdAt 48).name, key := Value.str (fdAt 48).name 542, val := Value.ref 274 },
  { hash := PyData.keyHash P (fdAt 49).name, key := Value.str (fdAt 49).name 552, val := Value.ref 281 },
  { hash := PyData.keyHash P (fdAt 50).name, key := Value.str (fdAt 50).name 558, val := Value.ref 286 },
  { hash := PyData.keyHash P (fdAt 51).name, key := Value.str (fdAt 51).name 564, val := Value.ref 291 },
  { hash := PyData.keyHash P (fdAt 52).name, key := Value.str (fdAt 52).name 572, val := Value.ref 298 },
  { hash := PyData.keyHash P (fdAt 53).name, key := Value.str (fdAt 53).name 578, val := Value.ref 303 }]
noncomputable def tN4 (P : Params) : Obj := { cls := Value.type "dict", data := Data.dict ⟨{ hash := PyData.keyHash P (Str.ofString "__name__"), key := Value.str (Str.ofString "__name__") 165, val := Value.str (Str.ofString "law_nn0268_01") 509 } :: (tD0 P ++ (tD1 P ++ (tD2 P ++ (tD3 P ++ (tD4 P)))))⟩ 55 }
noncomputable def tF4 : List Value := [Value.int 166 0, Value.int 0 0, Value.ref 249, Value.int 175 0, Value.int 0 0, Value.ref 256, Value.int 181 0, Value.int 0 0, Value.ref 261, Value.int 186 0, Value.int 0 0, Value.ref 266, Value.int 191 0, Value.int 0 0, Value.ref 273, Value.int 195 0, Value.int 0 0, Value.ref 280, Value.int 201 0, Value.int 0 0, Value.ref 285, Value.int 203 0, Value.int 0 0, Value.ref 290, Value.int 214 0, Value.int 0 0, Value.ref 297, Value.int 219 0, Value.int 0 0, Value.ref 302]
noncomputable def tQ4 (P : Params) : Obj := { cls := Value.none, data := Data.fields ⟨tF1 ++ (tF2 ++ (tF3 ++ (tF4)))⟩ }
noncomputable def tN0 (P : Params) : Obj := boot_o_3 P
noncomputable def tQ0 (P : Params) : Obj := fE
noncomputable def tP0 (P : Params) : Obj := boot_o_2 P
noncomputable def tP1 (P : Params) : Obj := { cls := Value.none, data := Data.dict #[{ hash := PyData.keyHash P (Str.ofString "type.__subclasses__.Exception.0"), key := Value.str (Str.ofString "type.__subclasses__.Exception.0") 216, val := Value.int 31 0 }, { hash := PyData.keyHash P (Str.ofString "type.__subclasses__.Exception.n"), key := Value.str (Str.ofString "type.__subclasses__.Exception.n") 217, val := Value.int 1 0 }] 2 }
noncomputable def tH0 (P : Params) : Heap := { objs := ⟨boot_o_0 P :: boot_o_1 P :: tP0 P :: tN0 P :: boot_o_4 P :: boot_o_5 P :: boot_o_6 P :: boot_o_7 P :: boot_o_8 P :: boot_o_9 P :: boot_o_10 P :: tE :: tQ0 P :: (tS0 P)⟩ }
noncomputable def tW0 (w : World) (os : OsState) : Shared := ⟨tH0 w.params, #[], {}, 187, os⟩
noncomputable def tX0 : Pos := { line := 0, col := 0, endLine := 0, endCol := 0 }
noncomputable def tH1 (P : Params) : Heap := { objs := ⟨boot_o_0 P :: boot_o_1 P :: tP1 P :: tN1 P :: boot_o_4 P :: boot_o_5 P :: boot_o_6 P :: boot_o_7 P :: boot_o_8 P :: boot_o_9 P :: boot_o_10 P :: tE :: tQ1 P :: (tS0 P ++ (tS1 P))⟩ }
noncomputable def tW1 (w : World) (os : OsState) : Shared := ⟨tH1 w.params, #[], {}, 307, os⟩
noncomputable def tX1 : Pos := { line := 38, col := 0, endLine := 39, endCol := 26 }
noncomputable def tH2 (P : Params) : Heap := { objs := ⟨boot_o_0 P :: boot_o_1 P :: tP1 P :: tN2 P :: boot_o_4 P :: boot_o_5 P :: boot_o_6 P :: boot_o_7 P :: boot_o_8 P :: boot_o_9 P :: boot_o_10 P :: tE :: tQ2 P :: (tS0 P ++ (tS1 P ++ (tS2 P)))⟩ }
noncomputable def tW2 (w : World) (os : OsState) : Shared := ⟨tH2 w.params, #[], {}, 396, os⟩
noncomputable def tX2 : Pos := { line := 78, col := 0, endLine := 78, endCol := 2 }
noncomputable def tH3 (P : Params) : Heap := { objs := ⟨boot_o_0 P :: boot_o_1 P :: tP1 P :: tN3 P :: boot_o_4 P :: boot_o_5 P :: boot_o_6 P :: boot_o_7 P :: boot_o_8 P :: boot_o_9 P :: boot_o_10 P :: tE :: tQ3 P :: (tS0 P ++ (tS1 P ++ (tS2 P ++ (tS3 P))))⟩ }
noncomputable def tW3 (w : World) (os : OsState) : Shared := ⟨tH3 w.params, #[], {}, 497, os⟩
noncomputable def tX3 : Pos := { line := 153, col := 0, endLine := 165, endCol := 80 }
noncomputable def tH4 (P : Params) : Heap := { objs := ⟨boot_o_0 P :: boot_o_1 P :: tP1 P :: tN4 P :: boot_o_4 P :: boot_o_5 P :: boot_o_6 P :: boot_o_7 P :: boot_o_8 P :: boot_o_9 P :: boot_o_10 P :: tE :: tQ4 P :: (tS0 P ++ (tS1 P ++ (tS2 P ++ (tS3 P ++ (tS4 P)))))⟩ }
noncomputable def tW4 (w : World) (os : OsState) : Shared := ⟨tH4 w.params, #[], {}, 579, os⟩
noncomputable def tX4 : Pos := { line := 219, col := 0, endLine := 236, endCol := 104 }
abbrev tProg : Program := PySem.Challenge.pw_nn0268_01
noncomputable def tBody : List Stmt := behindTheImports tProg
noncomputable def tEnv : Env := { scope := tProg.main.scope, locals := mainNs, globals := mainNs, cells := [], code := .ref 13, frame := some 14 }
noncomputable def tCode : Code := .body tBody tEnv
noncomputable def tB : List Frame := [topFrame tX0]
noncomputable def tAnn : Option Value := some (.ref 6)
noncomputable def tL1 : List Stmt := tBody.take 17
noncomputable def tL2 : List Stmt := (tBody.drop 17).take 14
noncomputable def tL3 : List Stmt := (tBody.drop 31).take 12
noncomputable def tL4 : List Stmt := tBody.drop 43
theorem t_body : tBody = tL1 ++ (tL2 ++ (tL3 ++ (tL4 ++ []))) := by kernel_rfl
theorem t_open : ∀ w : World, (fencedOpening treeTable tProg w 4000).map (fun s => (s.heap, s.gens, s.drawn, s.toks)) = some (boot_heap w.params, Array.mk [], boot_drawn, boot_toks) :=
  boot_open (by kernel_rfl) (by decide +kernel) fun s => by kernel_rfl
theorem t_size : ∀ w : World, ((boot_heap w.params).isNs mainGlobals && (Array.mk [] : Array GenState).size == 0, (boot_heap w.params).objs.size, (boot_heap w.params).nsMap mainGlobals "__annotations__") = (true, 11, tAnn) := by
  intro w; kernel_rfl
theorem t_pre (w : World) (os : OsState) : topGo treeTable tProg w 11 tAnn 12 ⟨boot_heap w.params, Array.mk [], boot_drawn, boot_toks, os⟩ (topStub tProg) = some (tW0 w os, ⟨denote treeTable tCode, tCode, tX0, tB⟩) := by
  kernel_rfl
theorem t_block (w : World) (os : OsState) : segRun treeTable tProg w 11 tAnn 1 1 (tW0 w os) (blockOf tBody tEnv tCode tX0 tB) = some (.next, tW0 w os, tCode, tX0) := by
  kernel_rfl
theorem t_seg1 (w : World) (os : OsState) : segRun treeTable tProg w 11 tAnn 1 582 (tW0 w os) (piecesOf tL1 tEnv tCode tX0 tB) = some (.next, tW1 w os, tCode, tX1) := by
  kernel_rfl
theorem t_seg2 (w : World) (os : OsState) : segRun treeTable tProg w 11 tAnn 1 355 (tW1 w os) (piecesOf tL2 tEnv tCode tX1 tB) = some (.next, tW2 w os, tCode, tX2) := by
  kernel_rfl
theorem t_seg3 (w : World) (os : OsState) : segRun treeTable tProg w 11 tAnn 1 341 (tW2 w os) (piecesOf tL3 tEnv tCode tX2 tB) = some (.next, tW3 w os, tCode, tX3) := by
  kernel_rfl
theorem t_seg4 (w : World) (os : OsState) : segRun treeTable tProg w 11 tAnn 1 300 (tW3 w os) (piecesOf tL4 tEnv tCode tX3 tB) = some (.next, tW4 w os, tCode, tX4) := by
  kernel_rfl
theorem t_fin (w : World) (os : OsState) : topRun treeTable tProg w 11 tAnn 10 (tW4 w os) ⟨doneF .next, tCode, tX4, tB⟩ = some (tW4 w os) := by
  kernel_rfl
theorem t_run (w : World) (os : OsState) : topRun treeTable tProg w 11 tAnn (12 + (1 + (582 + (355 + (341 + (300 + 10)))))) ⟨boot_heap w.params, Array.mk [], boot_drawn, boot_toks, os⟩ (topStub tProg) = some ⟨tH4 w.params, #[], {}, 579, os⟩ :=
  go_top (t_pre w os) (piece_block (t_block w os) (by
    rw [t_body]
    exact piece_app (t_seg1 w os) (piece_app (t_seg2 w os) (piece_app (t_seg3 w os) (piece_app (t_seg4 w os) (piece_nil (t_fin w os)))))))
/-- the top's statements that the law reaches -/
noncomputable def topKeep : List Nat := [1,3,4,6,8,9,10,11,12,13,14,15,16,18,19,20,21,22,23,24,25,26,27,28,30,31,33,34,35,36,37,38,39,40,41,42,43,45,46,47,48,49,50,51,52,53]
noncomputable def topView : Program := view tProg topKeep
noncomputable def topXt (s : Shared) : Bool := xlAt topView [] s && recOk PySem.Challenge.rw_nn0268_01.row.toRowW.records s
noncomputable def topSee (s : Shared) := openSeen topView ["F0"] (importedModules tProg.main.body) topXt true s
theorem t_look1 (w : World) (os : OsState) : (staticsOk (importedModules tProg.main.body) (boot_heap w.params) (tH4 w.params) && namesBound tProg (tH4 w.params) && gensDone (tW4 w os) && laidKept (boot_heap w.params) (tH4 w.params)) = true := by
  kernel_rfl
theorem t_look2 (w : World) (os : OsState) : (topSee (tW4 w os)).1 = (openGood topView ["F0"]).1 := by
  kernel_rfl
theorem t_look3 (w : World) (os : OsState) : (topSee (tW4 w os)).2 = (openGood topView ["F0"]).2 := by
  kernel_rfl
theorem t_look4 (w : World) (os : OsState) : hk.obs (tW4 w os) = hk.val w := by
  kernel_rfl
theorem top_left : LeftO tProg topView ["F0"] topXt hk.obs hk.val 4000 :=
  LeftO.of_pieces t_open t_size t_run (by decide +kernel) fun w => funext fun os => Prod.ext (t_look1 w os) (Prod.ext (Prod.ext (t_look2 w os) (t_look3 w os)) (t_look4 w os))
end Nn

namespace Nn
theorem ints_rp {b : View} : ∀ {vs : List Value} {ns : List Int}, IntsAre vs ns → RpAll b vs (ns.map .int)
  | _, _, .nil => .nil
  | _, _, .cons _ _ h => .cons (.int _ _) (ints_rp h)
set_option maxHeartbeats 8000000 in
theorem said : PySem.Challenge.rw_nn0268_01.wellSaid = true := by
  unfold OpenLaw.wellSaid OpenRow.wellSaid OpenRow.partSaid looksOpen
  repeat' with_reducible apply look_both
  all_goals decide +kernel
end Nn

set_option maxHeartbeats 8000000 in
theorem PySem.Challenge.cw_nn0268_01_holds : PySem.Challenge.rw_nn0268_01.Holds := by
  w_on
  refine holds_law Nn.said fun said => ?_
  refine holds_open (q := Nn.topView) (loose := ["F0"]) (Xt := Nn.topXt) (XP := XL Nn.topView []) (Yf := Nn.hk.obs) (Ya := Nn.hk.val) (YP := Nn.hk.says) (N := 4000) (d := Nn.fdAt 53) (kwd := [])
    Nn.top_left Nn.hk.of Nn.hk.keeps (fun s e => xl_of s (Bool.and_eq_true_iff.mp e).1) XL.keeps (by kernel_rfl) (by kernel_rfl) (by kernel_rfl) (fun s e => recFacts_of (Bool.and_eq_true_iff.mp e).2) (by rfl) said
    (by decide +kernel) ⟨rfl, rfl, rfl, rfl, rfl, by decide +kernel⟩ ?hw ?hc
  case hw => w_witness2
  intro w s₀ s₁ mg mb G Y fa o pm cd doc dV kV ho hd' hcd hD hmg hg args vals as hpre hlay hrd hwl hlo
  have K : Nn.CtOk ⟨PySem.Challenge.pw_nn0268_01, w, s₁.heap, mg, mb⟩ := Nn.ctok G.T Y (by decide +kernel) ⟨[Nn.fdAt 53], by kernel_rfl⟩
  have hdV : dV = .none := by
    rcases hD.pos with ⟨_, h⟩ | ⟨h, _⟩
    · exact h
    · exact absurd rfl h
  have hkV : kV = .none := by
    rcases hD.kw with ⟨_, h⟩ | ⟨h, _⟩
    · exact h
    · exact absurd rfl h
  subst hdV hkV
  clear Y hD G hmg
  wrow_args hpre hlay hrd hwl hlo
  rename_i hL _ _ _ hI _ hlen _
  refine wpAny_mono (Nn.law_call K ho hd' hcd hL (Nn.ints_rp hI) (by omega) rfl) (fun v s' ⟨m, up, e⟩ => ?_) fun _ _ f => f.elim
  subst e
  obtain ⟨h', tk, e⟩ := m
  refine GoodW.toG ⟨.inl ⟨_, .bool true, [], rfl, fun cls => rfl, .bool true, ?_, fun _ => ⟨.nil, fun _ ha => nomatch ha⟩⟩, up, by rw [e], by rw [e]; exact hg⟩
  wrow_post
