import PyProof.Rows.All
import Wide.All
import OpenK.AllK
import Wide.FinOn
import PySem.Challenge.RW_xm0816_01
open PySem PySem.W PyProof.Rows
set_option Elab.async false
set_option maxRecDepth 100000
set_option maxHeartbeats 8000000
namespace Mine
open_top hd for PySem.Challenge.rw_xm0816_01
local macro_rules | `(tactic| walk_at $s:str) => `(tactic| k_extra $s)
local macro_rules | `(tactic| k_ne) => `(tactic| k_extra "k_ne")
local macro_rules | `(tactic| k_room) => `(tactic| k_extra "k_room")
section
open PySem PySem.Spec PySem.Calls PySem.W PyProof.Rows

local macro_rules | `(tactic| k_all) => `(tactic| assumption)

theorem sq_ok (x z : Int) : IntMulOk ([x, z.fmod 2147483647].getD (Int.toNat 1) 0) ([x, z.fmod 2147483647].getD (Int.toNat 1) 0) := by
  have e : ([x, z.fmod 2147483647].getD (Int.toNat 1) 0) = z.fmod 2147483647 := rfl
  have h1 := Int.fmod_nonneg_of_pos z (b := 2147483647) (by decide)
  have h2 := Int.fmod_lt_of_pos z (b := 2147483647) (by decide)
  rw [e]
  exact PySem.IntMulOk.of_left (PySem.intBits_le_64 (by omega) (by omega))
theorem get0 (x y : Int) : [x, y].getD (Int.toNat 0) 0 = x := rfl
theorem get1 (x y : Int) : [x, y].getD (Int.toNat 1) 0 = y := rfl
theorem fd_nn {x top : Int} (hx : 0 ≤ x) (ht : 0 < top) : 0 ≤ x.fdiv top := by
  rw [Int.fdiv_eq_ediv_of_nonneg _ (Int.le_of_lt ht)]
  exact Int.ediv_nonneg hx (Int.le_of_lt ht)
local macro_rules | `(tactic| mul_fits) => `(tactic| exact sq_ok _ _)
theorem take_spec {w : World} {mean : ExcName → Option Value} {mg mb : Str → Option Value} {dp un : Nat} {gd : Option (List Code)} {cn : Str} {cs : Scope} {a : Addr} {ccd : Value} {cl : List (Str × Addr)} {outer : List Env} {A₀ : Around} {base h₀ : Heap} {L : Addr} {m : Str → Option Value} {s : Shared} {Q E : Value → Shared → Prop}
    {d : Addr} {x y top : Int} {tx ty tt : Tok} {rest : List (Addr × Obj)}
    (X : (hd.heap_39 w.params).In h₀) (B : Below A₀ base outer h₀) (F : Fr h₀ L s.heap m) (N : News h₀ L s.heap ((d, W.listOf #[.int x tx, .int y ty] 0) :: rest)) (T : Top hd.view_39 (looseW hd.view_39 []) mean mg mb h₀) (hk : cs.kind = .function)
    (hd : dp + 1 < recursionLimit) (hu : un + 8 < cLine) (hne : ∀ p ∈ rest, p.1 ≠ d)
    (hx : 0 ≤ x) (hy0 : 0 ≤ y) (hy1 : y < 2147483647) (ht : 0 < top) (ht2 : top ≤ 64)
    (ret : ∀ (v : Int) (t : Tok) (x' : Int) (tx' : Tok) (y' : Int) (ty' : Tok) (h' : Heap) (tk' : Nat), 0 ≤ v → v < top → 0 ≤ x' → 0 ≤ y' → y' < 2147483647 → Fr h₀ L h' m → News h₀ L h' ((d, W.listOf #[.int x' tx', .int y' ty'] 0) :: rest) → Q (.int v t) { s with heap := h', toks := tk' }) :
    wpAny (model PySem.Challenge.rw_xm0816_01.row.prog w) (ktrTop dp un gd cn cs L a ccd cl outer) (call (.ref 222) [.ref d, .int top tt]) Q E s := by
  revert X
  k_fill
  intro X
  refine wpAny_call ?_
  k_dflt cell_enter
  k_steps
  · simp only [get0, get1] at *
    refine ret _ _ _ _ _ _ _ _ ?_ ?_ ?_ ?_ ?_ (by assumption) (by assumption)
    · exact Int.fmod_nonneg_of_pos _ ht
    · exact Int.fmod_lt_of_pos _ ht
    · exact fd_nn hx ht
    · exact hy0
    · exact hy1
  · simp only [get0, get1] at *
    refine ret _ _ _ _ _ _ _ _ ?_ ?_ ?_ ?_ ?_ (by assumption) (by assumption)
    · exact Int.fmod_nonneg_of_pos _ ht
    · exact Int.fmod_lt_of_pos _ ht
    · exact hx
    · exact Int.fmod_nonneg_of_pos _ (by decide)
    · exact Int.fmod_lt_of_pos _ (by decide)

end
section
open PySem PySem.Spec PySem.Calls PySem.W PyProof.Rows

/-- the ledger's place of one object: what stands before it, what behind; no other entry has its address -/
inductive Here (d : Addr) (o : Obj) : List (Addr × Obj) → List (Addr × Obj) → List (Addr × Obj) → Prop
  | head {r : List (Addr × Obj)} : (∀ p ∈ r, p.1 ≠ d) → Here d o ((d, o) :: r) [] r
  | tail {p : Addr × Obj} {l pre post : List (Addr × Obj)} : p.1 ≠ d → Here d o l pre post → Here d o (p :: l) (p :: pre) post
theorem Here.is {d : Addr} {o : Obj} {l pre post : List (Addr × Obj)} (h : Here d o l pre post) : l = pre ++ (d, o) :: post ∧ ∀ p ∈ pre ++ post, p.1 ≠ d := by
  induction h with
  | head h => exact ⟨rfl, h⟩
  | tail h _ ih =>
    obtain ⟨e, f⟩ := ih
    refine ⟨by rw [e]; rfl, fun q hq => ?_⟩
    rcases List.mem_cons.mp hq with rfl | hq
    · exact h
    · exact f q hq

abbrev srcO (x y : Int) (tx ty : Tok) : Obj := W.listOf #[.int x tx, .int y ty] 0

theorem take_at {w : World} {mean : ExcName → Option Value} {mg mb : Str → Option Value} {dp un : Nat} {gd : Option (List Code)} {cn : Str} {cs : Scope} {a : Addr} {ccd : Value} {cl : List (Str × Addr)} {outer : List Env} {A₀ : Around} {base h₀ : Heap} {L : Addr} {m : Str → Option Value} {s : Shared} {Q E : Value → Shared → Prop}
    {d : Addr} {x y top : Int} {tx ty tt : Tok} {news pre post : List (Addr × Obj)}
    (B : Below A₀ base outer h₀) (F : Fr h₀ L s.heap m) (X : (hd.heap_39 w.params).In h₀) (N : News h₀ L s.heap news) (T : Top hd.view_39 (looseW hd.view_39 []) mean mg mb h₀) (hk : cs.kind = .function)
    (W : Here d (srcO x y tx ty) news pre post)
    (hd : dp + 1 < recursionLimit) (hu : un + 8 < cLine)
    (hx : 0 ≤ x) (hy0 : 0 ≤ y) (hy1 : y < 2147483647) (ht : 0 < top) (ht2 : top ≤ 64)
    (ret : ∀ (v : Int) (t : Tok) (x' : Int) (tx' : Tok) (y' : Int) (ty' : Tok) (h' : Heap) (tk' : Nat), 0 ≤ v → v < top → 0 ≤ x' → 0 ≤ y' → y' < 2147483647 → Fr h₀ L h' m → News h₀ L h' (pre ++ (d, srcO x' y' tx' ty') :: post) → Q (.int v t) { s with heap := h', toks := tk' }) :
    wpAny (model PySem.Challenge.rw_xm0816_01.row.prog w) (ktrTop dp un gd cn cs L a ccd cl outer) (call (.ref 222) [.ref d, .int top tt]) Q E s := by
  obtain ⟨e, hne⟩ := W.is
  subst e
  refine take_spec (rest := pre ++ post) (x := x) (y := y) (tx := tx) (ty := ty) X B F (fun p hp => N p ?_) T hk hd hu hne hx hy0 hy1 ht ht2 (fun v t x' tx' y' ty' h' tk' h1 h2 h3 h4 h5 F' N' => ret v t x' tx' y' ty' h' tk' h1 h2 h3 h4 h5 F' (fun p hp => N' p ?_))
  · simp only [List.mem_cons, List.mem_append] at hp ⊢
    rcases hp with h | h | h
    · exact .inr (.inl h)
    · exact .inl h
    · exact .inr (.inr h)
  · simp only [List.mem_cons, List.mem_append] at hp ⊢
    rcases hp with h | h | h
    · exact .inr (.inl h)
    · exact .inl h
    · exact .inr (.inr h)

/-- an item of a list of ints at a place that is not written -/
theorem item_any {prog : Program} {w : World} {A : Around} {E : Value → Shared → Prop} {s : Shared} {Q : Value → Shared → Prop} {value slice : PySem.Expr} {l : Addr} {vs : List Value} {ns : List Int} {k : Int} {u : Tok}
    (hl : s.heap.IsList l vs.toArray) (hi : IntsAre vs ns) (h0 : 0 ≤ k) (hk : k < (ns.length : Int)) (hz : ns.length ≤ 64) (h : ∀ v t, v ∈ ns → Q (.int v t) s)
    (hs : subscripted slice false (.ref l) (.int k u) = operate [.ref l, .int k u] (getItem (.ref l) (.int k u)) := by with_unfolding_all rfl) :
    wpAny (model prog w) A (subscriptTail value slice (.ref l) (.int k u)) Q E s := by
  have hlen := hi.length
  have hj : k.toNat < vs.length := by omega
  obtain ⟨n, t, hv, hn⟩ := hi.at k.toNat vs[k.toNat] (List.getElem?_eq_getElem hj)
  refine tail_any hl.typeIs slot_list_getitem.lookup (wpAny_getItem_list hl h0 (by omega) (x := vs[k.toNat]) (by simp [hj]) ?_) hs
  rw [hv]
  exact h n t (List.mem_of_getElem? hn)

theorem words6 : True := by
  k_with_none
  k_with "call ref" => (k_here; (with_reducible show wpAny _ _ (call (Value.ref 222) [Value.ref _, Value.int _ _]) _ _ _); k_dflt (refine take_at (by k_asm) (by k_asm) (by k_asm) (by k_asm) (by k_asm) (by first | exact rfl | assumption) (by exact Here.head (by assumption)) (by ktr_room) (by ktr_units) (by assumption) (by assumption) (by assumption) (by assumption) (by assumption) ?_); intro v' t' x' tx' y' ty' h' tk' g1' g2' g3' g4' g5' F' N'; (try simp only [List.nil_append, List.cons_append] at N'))
  k_with "subscriptTail" => (k_here; (with_reducible show wpAny _ _ (subscriptTail _ _ (Value.ref _) (Value.int _ _)) _ _ _); (with_unfolding_all refine item_any (by is_list) (by l_ints) (by assumption) (by assumption) (by assumption) ?_ (by with_unfolding_all rfl)); intro v' t' hm')
  trivial

theorem one_spec {w : World} {mean : ExcName → Option Value} {mg mb : Str → Option Value} {dp un : Nat} {gd : Option (List Code)} {cn : Str} {cs : Scope} {a : Addr} {ccd : Value} {cl : List (Str × Addr)} {outer : List Env} {A₀ : Around} {base h₀ : Heap} {L : Addr} {m : Str → Option Value} {s : Shared} {Q E : Value → Shared → Prop}
    {d tl : Addr} {x y : Int} {tx ty : Tok} {rest : List (Addr × Obj)} {vs : List Value} {ns : List Int} {nl : Nat}
    (X : (hd.heap_39 w.params).In h₀) (B : Below A₀ base outer h₀) (F : Fr h₀ L s.heap m) (N : News h₀ L s.heap ((d, srcO x y tx ty) :: (tl, W.listOf vs.toArray nl) :: rest)) (T : Top hd.view_39 (looseW hd.view_39 []) mean mg mb h₀) (hk : cs.kind = .function)
    (hd : dp + 2 < recursionLimit) (hu : un + 16 < cLine) (hne : ∀ p ∈ (tl, W.listOf vs.toArray nl) :: rest, p.1 ≠ d)
    (hx : 0 ≤ x) (hy0 : 0 ≤ y) (hy1 : y < 2147483647) (hI : IntsAre vs ns) (hn : 0 < ns.length) (hn2 : ns.length ≤ 64)
    (ret : ∀ (v : Int) (t : Tok) (x' : Int) (tx' : Tok) (y' : Int) (ty' : Tok) (h' : Heap) (tk' : Nat), v ∈ ns → 0 ≤ x' → 0 ≤ y' → y' < 2147483647 → Fr h₀ L h' m → News h₀ L h' ((d, srcO x' y' tx' ty') :: (tl, W.listOf vs.toArray nl) :: rest) → Q (.int v t) { s with heap := h', toks := tk' }) :
    wpAny (model PySem.Challenge.rw_xm0816_01.row.prog w) (ktrTop dp un gd cn cs L a ccd cl outer) (call (.ref 229) [.ref d, .ref tl]) Q E s := by
  revert X
  k_fill
  intro X
  have hnZ : (0 : Int) < (ns.length : Int) := by omega
  have hnZ2 : (ns.length : Int) ≤ 64 := by omega
  refine wpAny_call ?_
  k_dflt cell_enter
  k_steps
  refine' ret _ _ _ _ _ _ _ _ ?e1 ?e2 ?e3 ?e4 ?e5 ?e6
  case e6 => assumption
  case e5 => assumption
  all_goals assumption

theorem nn_great (c z : Int) (P : Prop) [Decidable P] (h : z = if -1 - c > c then -1 - c else c) : 0 ≤ z * (if P then (1 : Int) else 0) := by
  refine Int.mul_nonneg ?_ ?_
  · rw [h]; split <;> omega
  · split <;> omega
theorem pool_spec {w : World} {mean : ExcName → Option Value} {mg mb : Str → Option Value} {dp un : Nat} {gd : Option (List Code)} {cn : Str} {cs : Scope} {a : Addr} {ccd : Value} {cl : List (Str × Addr)} {outer : List Env} {A₀ : Around} {base h₀ : Heap} {L : Addr} {m : Str → Option Value} {s : Shared} {Q E : Value → Shared → Prop}
    {sl : Addr} {news : List (Addr × Obj)} {vs : List Value} {ns : List Int}
    (X : (hd.heap_39 w.params).In h₀) (B : Below A₀ base outer h₀) (F : Fr h₀ L s.heap m) (N : News h₀ L s.heap news) (T : Top hd.view_39 (looseW hd.view_39 []) mean mg mb h₀) (hk : cs.kind = .function)
    (hd : dp + 2 < recursionLimit) (hu : un + 16 < cLine) (hS : base.IsList sl vs.toArray) (hI : IntsAre vs ns) (hlay : (PyData.list (ns.map PyData.int)).layable0 = true) (hn : ns.length ≤ 63)
    (ret : ∀ (d : Addr) (x : Int) (tx : Tok) (y : Int) (ty : Tok) (h' : Heap) (tk' : Nat), 0 ≤ x → 0 ≤ y → y < 2147483647 → (∀ p ∈ news, p.1 < d) → Fr h₀ L h' m → News h₀ L h' ((d, srcO x y tx ty) :: news) → Q (.ref d) { s with heap := h', toks := tk' }) :
    wpAny (model PySem.Challenge.rw_xm0816_01.row.prog w) (ktrTop dp un gd cn cs L a ccd cl outer) (call (.ref 215) [.ref sl]) Q E s := by
  revert X
  k_fill
  intro X
  refine wpAny_call ?_
  k_dflt cell_enter
  k_steps
  · refine' ret _ _ _ _ _ _ _ ?e1 ?e2 ?e3 ?e4 ?e5 ?e6
    case e6 => assumption
    case e5 => assumption
    case e4 => assumption
    case e2 => exact Int.fmod_nonneg_of_pos _ (by decide)
    case e3 => exact Int.fmod_lt_of_pos _ (by decide)
    exact nn_great _ _ _ rfl
  · refine' ret _ _ _ _ _ _ _ ?f1 ?f2 ?f3 ?f4 ?f5 ?f6
    case f6 => assumption
    case f5 => assumption
    case f4 => assumption
    case f2 => exact Int.fmod_nonneg_of_pos _ (by decide)
    case f3 => exact Int.fmod_lt_of_pos _ (by decide)
    exact nn_great _ _ _ rfl

end
section
open PySem PySem.Spec PySem.Calls PySem.W PyProof.Rows

theorem one_at {w : World} {mean : ExcName → Option Value} {mg mb : Str → Option Value} {dp un : Nat} {gd : Option (List Code)} {cn : Str} {cs : Scope} {a : Addr} {ccd : Value} {cl : List (Str × Addr)} {outer : List Env} {A₀ : Around} {base h₀ : Heap} {L : Addr} {m : Str → Option Value} {s : Shared} {Q E : Value → Shared → Prop}
    {d tl : Addr} {x y : Int} {tx ty : Tok} {news pre post : List (Addr × Obj)} {vs : List Value} {ns : List Int} {nl : Nat}
    (B : Below A₀ base outer h₀) (F : Fr h₀ L s.heap m) (X : (hd.heap_39 w.params).In h₀) (N : News h₀ L s.heap news) (T : Top hd.view_39 (looseW hd.view_39 []) mean mg mb h₀) (hk : cs.kind = .function)
    (Wh : Here d (srcO x y tx ty) news pre post) (M : (tl, W.listOf vs.toArray nl) ∈ pre ++ post)
    (hd : dp + 2 < recursionLimit) (hu : un + 16 < cLine)
    (hx : 0 ≤ x) (hy0 : 0 ≤ y) (hy1 : y < 2147483647) (hI : IntsAre vs ns) (hn : 0 < ns.length) (hn2 : ns.length ≤ 64)
    (ret : ∀ (v : Int) (t : Tok) (x' : Int) (tx' : Tok) (y' : Int) (ty' : Tok) (h' : Heap) (tk' : Nat), v ∈ ns → 0 ≤ x' → 0 ≤ y' → y' < 2147483647 → Fr h₀ L h' m → News h₀ L h' (pre ++ (d, srcO x' y' tx' ty') :: post) → Q (.int v t) { s with heap := h', toks := tk' }) :
    wpAny (model PySem.Challenge.rw_xm0816_01.row.prog w) (ktrTop dp un gd cn cs L a ccd cl outer) (call (.ref 229) [.ref d, .ref tl]) Q E s := by
  obtain ⟨e, hne⟩ := Wh.is
  subst e
  refine one_spec (nl := nl) (rest := pre ++ post) (x := x) (y := y) (tx := tx) (ty := ty) (vs := vs) X B F (fun p hp => ?_) T hk hd hu (fun p hp => ?_) hx hy0 hy1 hI hn hn2 (fun v t x' tx' y' ty' h' tk' h1 h3 h4 h5 F' N' => ret v t x' tx' y' ty' h' tk' h1 h3 h4 h5 F' (fun p hp => N' p ?_))
  · rcases List.mem_cons.mp hp with rfl | hp
    · exact N _ (List.mem_append_right _ List.mem_cons_self)
    · rcases List.mem_cons.mp hp with rfl | hp
      · rcases List.mem_append.mp M with h | h
        · exact N _ (List.mem_append_left _ h)
        · exact N _ (List.mem_append_right _ (List.mem_cons_of_mem _ h))
      · rcases List.mem_append.mp hp with h | h
        · exact N _ (List.mem_append_left _ h)
        · exact N _ (List.mem_append_right _ (List.mem_cons_of_mem _ h))
  · rcases List.mem_cons.mp hp with rfl | hp
    · exact hne _ M
    · exact hne _ hp
  · simp only [List.mem_cons, List.mem_append] at hp ⊢
    rcases hp with h | h | h
    · exact .inr (.inr (.inl h))
    · exact .inl h
    · exact .inr (.inr (.inr h))

def kindS : Str := "a lossless scan tells a predictor from 1 to 7"
def pointS : Str := "a point transform must leave a bit"
/-- what _law_told answers -/
def toldF (p a b c e : Int) : Str := if (1 ≤ a ∧ a ≤ 7) ∧ b = 0 ∧ c = 0 then (if 0 ≤ e ∧ e < p then "" else pointS) else kindS

end
section
open PySem PySem.Spec PySem.Calls PySem.W PyProof.Rows

/-- an exception e of the class C that has its own dict d, noted: its newest entry T says fl -/
def TrD (h base : Heap) (e : Addr) (C : Value) (d : Addr) (fl : Value) : Prop :=
  ∃ vs sl T oT ts, h.get? e = some ⟨C, some d, .fields vs, sl⟩ ∧ vs[1]? = some (.ref T) ∧ base.get? T = none ∧ T ≠ e ∧ h.get? T = some oT ∧ oT.data = .fields ts ∧ ts[3]? = some fl
structure FlD (base : Heap) (l : List Env) (e : Addr) (C : Value) (d : Addr) (fl : Value) (h : Heap) : Prop where
  stays : base.StaysIn h
  new : base.get? e = none
  frames : h.FunFrames base l
  tr : TrD h base e C d fl
theorem FlD.there {base : Heap} {l : List Env} {e d : Addr} {C fl : Value} {h : Heap} (x : FlD base l e C d fl h) : ∃ ob, h.get? e = some ob ∧ ob.cls = C := by
  obtain ⟨vs, sl, _, _, _, he, _⟩ := x.tr
  exact ⟨_, he, rfl⟩

section
variable {M : Model} {A : Around} {E : Value → Shared → Prop} {s : Shared} {base : Heap} {env : Env} {outer : List Env} {L e d : Addr} {C : Value} {vs : Array Value} {sl : Array (Option Value)} {Q : Unit → Shared → Prop}

theorem entryD {head : Value} {hadNext : Bool} (hfr : A.frames = some (env :: outer)) (hf : env.frame = some L) (hl : s.heap.FunFrames base (env :: outer)) (hkb : base.StaysIn s.heap) (hen : base.get? e = none)
    (he : s.heap.get? e = some ⟨C, some d, .fields vs, sl⟩) (hsz : 1 < vs.size) (h : ∀ h', FlD base (env :: outer) e C d (rawInt L) h' → s.heap.UpToSlots h' → Q () { s with heap := h' }) :
    wpAny M A (do let a ← frameOf env; let pl ← entryPlaceOf L hadNext; let b ← EntryCells.newEntry head a .none (rawInt L) .none pl; setField (.ref e) 1 b) Q E s := by
  have hene : e ∉ (env :: outer).filterMap (·.frame) := fun hm => by
    obtain ⟨_, o, ho, hnf⟩ := hl.mem hm
    rw [he] at ho
    cases ho
    exact hnf vs rfl
  refine wpAny_bind (wpAny_frameOf_fun hfr hl hf fun h₁ hs₁ => ?_)
  refine wpAny_bind (wpAny_entryPlaceOf fun pl hpl => ?_)
  unfold EntryCells.newEntry newFields
  refine wpAny_bind (wpAny_newObj_type ?_ (hpl.sizeOk5 _ _ _ _ _))
  have e1 : h₁.get? e = some ⟨C, some d, .fields vs, sl⟩ := (hs₁.2.1 e hene).trans he
  have k1 : base.StaysIn h₁ := fun b o hbo => (hs₁.2.1 b fun hm => by rw [(hl.mem hm).1] at hbo; cases hbo).trans (hkb b o hbo)
  generalize hT : ({ cls := .type "traceback", dict := none, data := .fields ([head, .ref L, .none, rawInt L, .none] ++ (if pl.isEmpty then List.replicate 6 Value.none else pl)).toArray } : Obj) = oT
  have dT : oT.data = .fields ([head, .ref L, .none, rawInt L, .none] ++ (if pl.isEmpty then List.replicate 6 Value.none else pl)).toArray := by rw [← hT]
  have e2 := Heap.get?_push_of_some oT e1
  have nT : h₁.objs.size ≠ e := Nat.ne_of_gt (Heap.lt_size e1)
  have gT : (h₁.push oT).get? h₁.objs.size = some oT := Heap.get?_push_size h₁ (Obj.isFreed_of_fields dT)
  refine wpAny_setField e2 rfl hsz ?_
  have keep : ∀ b o, b ≠ e → h₁.get? b = some o → ((h₁.push oT).update e (Obj.mapFields (·.setIfInBounds 1 (Value.ref h₁.objs.size)))).get? b = some o := fun b o hb hq => by
    rw [Heap.get?_update_other _ _ (Ne.symm hb)]
    exact Heap.get?_push_of_some _ hq
  have plain : ∀ b o, s.heap.get? b = some o → (∀ vs, o.data ≠ .fields vs) → b ≠ e := fun b o hb hnf q => by
    rw [q, he] at hb
    cases hb
    exact hnf vs rfl
  refine h _ ⟨fun b o hbo => keep b o (fun q => by rw [q, hen] at hbo; cases hbo) (k1 b o hbo), hen, hl.of_keeps fun b o hb hnf => ?_, ?_⟩ fun b o hb hnf => ?_
  · obtain ⟨sl', hs⟩ := hs₁.2.2 b o hb
    exact ⟨_, keep b _ (plain b o hb hnf) hs, rfl⟩
  · refine ⟨_, sl, h₁.objs.size, oT, _, Heap.get?_update_self _ e2 rfl, by simp [hsz], k1.fresh, nT, ?_, dT, rfl⟩
    rw [Heap.get?_update_other _ _ (Ne.symm nT)]
    exact gT
  · obtain ⟨sl', hs⟩ := hs₁.2.2 b o hb
    exact ⟨sl', keep b _ (plain b o hb hnf) hs⟩

theorem flightD {l : List Env} {fl : Value} (x : FlD base l e C d fl s.heap) (h : ∀ h', FlD base l e C d .none h' → s.heap.UpToSlots h' → Q () { s with heap := h' }) : wpAny M A (setFlight (.ref e) none) Q E s := by
  obtain ⟨vs, sl, T, oT, ts, he, h1, hnT, hTe, hT, hdT, h3⟩ := x.tr
  have hsz : 3 < ts.size := (Array.getElem?_eq_some_iff.mp h3).1
  unfold setFlight
  refine wpAny_bind (wpAny_field he rfl h1 ?_)
  rw [if_pos (show (Value.ref T != Value.none) = true from by simp)]
  refine wpAny_setField hT hdT hsz ?_
  have other : ∀ b, b ≠ T → (s.heap.update T (Obj.mapFields (·.setIfInBounds 3 ((none : Option Addr).elim Value.none fun f => rawInt f)))).get? b = s.heap.get? b := fun b hb => Heap.get?_update_other _ _ (Ne.symm hb)
  have plain : ∀ b o, s.heap.get? b = some o → (∀ vs, o.data ≠ .fields vs) → b ≠ T := fun b o hb hnf q => by
    rw [q, hT] at hb
    cases hb
    exact hnf ts hdT
  have dT' := Obj.data_mapFields hdT (·.setIfInBounds 3 ((none : Option Addr).elim Value.none fun f => rawInt f))
  refine h _ ⟨fun b o hbo => (other b fun q => by rw [q, hnT] at hbo; cases hbo).trans (x.stays b o hbo), x.new, x.frames.of_keeps fun b o hb hnf => ⟨o, (other b (plain b o hb hnf)).trans hb, rfl⟩, ?_⟩ fun b o hb hnf => ⟨o.slots, (other b (plain b o hb hnf)).trans hb⟩
  exact ⟨vs, sl, T, _, _, (other e (Ne.symm hTe)).trans he, h1, hnT, hTe, Heap.get?_update_self _ hT (Obj.isFreed_of_fields dT'), dT', by simp [hsz]⟩

/-- the exception is noted for the first time -/
theorem noteFirstD (hfr : A.frames = some (env :: outer)) (hf : env.frame = some L) (hl : s.heap.FunFrames base (env :: outer)) (hkb : base.StaysIn s.heap) (hen : base.get? e = none)
    (he : s.heap.get? e = some ⟨C, some d, .fields vs, sl⟩) (h1 : vs[1]? = some .none) (h : ∀ h', FlD base (env :: outer) e C d (rawInt L) h' → s.heap.UpToSlots h' → Q () { s with heap := h' }) :
    wpAny M A (noteFrame (.ref e) env) Q E s := by
  unfold noteFrame
  simp only [hf]
  refine wpAny_bind (wpAny_field he rfl h1 ?_)
  rw [if_neg (by decide)]
  exact entryD hfr hf hl hkb hen he (Array.getElem?_eq_some_iff.mp h1).1 h
/-- .. in a frame further out -/
theorem noteNextD (hfr : A.frames = some (env :: outer)) (hf : env.frame = some L) (x : FlD base (env :: outer) e C d .none s.heap)
    (h : ∀ h', FlD base (env :: outer) e C d (rawInt L) h' → s.heap.UpToSlots h' → Q () { s with heap := h' }) : wpAny M A (noteFrame (.ref e) env) Q E s := by
  obtain ⟨vs, sl, T, oT, ts, he, h1, hnT, hTe, hT, hdT, h3⟩ := x.tr
  unfold noteFrame
  simp only [hf]
  refine wpAny_bind (wpAny_field he rfl h1 ?_)
  rw [if_pos (show (Value.ref T != Value.none) = true from by simp)]
  refine wpAny_bind (wpAny_field hT hdT h3 ?_)
  rw [if_neg (show ¬ ((Value.none == rawInt L) = true) from by simp [rawInt])]
  refine wpAny_bind (wpAny_setField hT hdT (Array.getElem?_eq_some_iff.mp h3).1 ?_)
  have other : ∀ b, b ≠ T → (s.heap.update T (Obj.mapFields (·.setIfInBounds 3 Value.none))).get? b = s.heap.get? b := fun b hb => Heap.get?_update_other _ _ (Ne.symm hb)
  have plain : ∀ b o, s.heap.get? b = some o → (∀ vs, o.data ≠ .fields vs) → b ≠ T := fun b o hb hnf q => by
    rw [q, hT] at hb
    cases hb
    exact hnf ts hdT
  refine entryD hfr hf (x.frames.of_keeps fun b o hb hnf => ⟨o, (other b (plain b o hb hnf)).trans hb, rfl⟩) (fun b o hbo => (other b fun q => by rw [q, hnT] at hbo; cases hbo).trans (x.stays b o hbo)) x.new ((other e (Ne.symm hTe)).trans he)
    (Array.getElem?_eq_some_iff.mp h1).1 fun h' y u => h h' y fun b o hb hnf => u b o ((other b (plain b o hb hnf)).trans hb) hnf
theorem noteAgainD {l : List Env} (hf : env.frame = some L) (x : FlD base l e C d (rawInt L) s.heap) (h : Q () s) : wpAny M A (noteFrame (.ref e) env) Q E s := by
  obtain ⟨vs, sl, T, oT, ts, he, h1, hnT, hTe, hT, hdT, h3⟩ := x.tr
  unfold noteFrame
  simp only [hf]
  refine wpAny_bind (wpAny_field he rfl h1 ?_)
  rw [if_pos (show (Value.ref T != Value.none) = true from by simp)]
  refine wpAny_bind (wpAny_field hT hdT h3 ?_)
  rw [if_pos (show (rawInt L == rawInt L) = true from by simp)]
  exact wpAny_pure h
/-- the exception, just made, leaves its first frame -/
theorem leaveFirstD (hfr : A.frames = some (env :: outer)) (hf : env.frame = some L) (hl : s.heap.FunFrames base (env :: outer)) (hkb : base.StaysIn s.heap) (hen : base.get? e = none)
    (he : s.heap.get? e = some ⟨C, some d, .fields vs, sl⟩) (h1 : vs[1]? = some .none) (h : ∀ h', FlD base outer e C d .none h' → s.heap.UpToSlots h' → Q () { s with heap := h' }) :
    wpAny M A (leaving env (.ref e)) Q E s := by
  unfold leaving
  refine wpAny_bind (noteFirstD hfr hf hl hkb hen he h1 fun h₁ x₁ u₁ => ?_)
  refine flightD x₁ fun h₂ x₂ u₂ => ?_
  exact h h₂ ⟨x₂.stays, x₂.new, x₂.frames.2.2, x₂.tr⟩ (u₁.trans u₂)
end

end
section
open PySem PySem.Spec PySem.Calls PySem.W PyProof.Rows

/-- it has left its first frame: all that stood at G stands, but the frames' slots -/
def RaisedD (base G : Heap) (l : List Env) (e : Addr) (C : Value) (d : Addr) (od : Obj) (h : Heap) : Prop :=
  ∃ B, base.StaysIn B ∧ (∀ b o, G.get? b = some o → b ∉ l.filterMap (·.frame) → B.get? b = some o) ∧ B.get? d = some od ∧ G.get? d = none ∧ G.get? e = none ∧ FlD B l e C d .none h

section
variable {M : Model} {A : Around} {E : Value → Shared → Prop} {s' : Shared} {base g h : Heap} {outer : List Env} {L a e d : Addr} {C : Value} {od : Obj} {m : Str → Option Value} {name : Str} {scope : Scope} {cd : Value} {Q : Unit → Shared → Prop}

theorem leave_D {news : List (Addr × Obj)} {vs : Array Value} {sl : Array (Option Value)} (K : Below A base outer g) (F : Fr g L s'.heap m) (N : News g L s'.heap news) (me : (e, (⟨C, some d, .fields vs, sl⟩ : Obj)) ∈ news) (md : (d, od) ∈ news) (hod : ∃ es n, od.data = .dict es n) (h1 : vs[1]? = some .none)
    (hQ : ∀ h', RaisedD base g outer e C d od h' → g.UpToSlots h' → Q () { s' with heap := h' }) (hk : scope.kind = .function := by rfl) :
    wpAny M (A.deeper (envOf name scope L a cd)) (leaving (envOf name scope L a cd) (.ref e)) Q E s' := by
  have K' := K.push (name := name) (a := a) (cd := cd) F hk
  obtain ⟨he, heL, hge⟩ := N _ me
  obtain ⟨hd, hdL, hgd⟩ := N _ md
  have hde : d ≠ e := fun z => by
    obtain ⟨es, n, q⟩ := hod
    rw [z] at hd
    have := Option.some.inj (hd.symm.trans he)
    dsimp only at this
    rw [this] at q
    cases q
  have hin : ∀ env ∈ (envOf name scope L a cd :: outer), ∀ b, env.frame = some b → b ∈ e :: (envOf name scope L a cd :: outer).filterMap (·.frame) := fun env he b hb => List.mem_cons_of_mem _ (List.mem_filterMap.mpr ⟨env, he, hb⟩)
  have st : base.StaysIn (hideAll s'.heap (e :: (envOf name scope L a cd :: outer).filterMap (·.frame))) := fun b o q => hideAll_get _ (K'.stays b o q) fun hm => by
    rcases List.mem_cons.mp hm with z | z
    · have := K.stays b o q
      rw [z, hge] at this
      cases this
    · rw [(K'.frames.mem z).1] at q
      cases q
  have sg : ∀ b o, g.get? b = some o → b ∉ outer.filterMap (·.frame) → (hideAll s'.heap (e :: (envOf name scope L a cd :: outer).filterMap (·.frame))).get? b = some o := fun b o q nm => hideAll_get _ (F.keep b o q) fun hm => by
    rcases List.mem_cons.mp hm with z | z
    · rw [z, hge] at q
      cases q
    · rcases kts_mem z with z | z
      · rw [z, kts_self F] at q
        cases q
      · exact nm z
  have hdB : (hideAll s'.heap (e :: (envOf name scope L a cd :: outer).filterMap (·.frame))).get? d = some od := hideAll_get _ hd fun hm => by
    rcases List.mem_cons.mp hm with z | z
    · exact hde z
    · rcases kts_mem z with z | z
      · exact hdL z
      · obtain ⟨_, o, ho, _⟩ := K.frames.mem z
        rw [hgd] at ho
        cases ho
  refine leaveFirstD (base := hideAll s'.heap (e :: (envOf name scope L a cd :: outer).filterMap (·.frame))) K'.stack rfl (funFrames_hide K'.frames hin) (fun b o q => of_hideAll _ q) (hideAll_none _ List.mem_cons_self) he h1 fun h' x u => ?_
  exact hQ h' ⟨_, st, sg, hdB, hgd, hge, x⟩ ((Heap.UpToSlots.of_keeps F.keep).trans u)
end

section
variable {prog : Program} {w : World} {A₀ : Around} {E : Value → Shared → Prop} {s' : Shared} {base g G : Heap} {outer : List Env} {L a e d C : Addr} {od : Obj} {m : Str → Option Value} {name : Str} {scope : Scope} {cd : Value}
  {n : Str} {b₀ : Stmt} {suite : List Stmt} {pos np : Pos} {rest : List ExceptHandler} {Q : Flow → Shared → Prop} {KF : Frag} {p : Program} {loose : List Str} {mean : ExcName → Option Value} {mg mb : Str → Option Value} {x : Str}

/-- what stands when a handler's suite begins -/
theorem ground_D {B h₆ : Heap} (K : Below A₀ base outer g) (F : Fr g L G m) (D : KtsDicts (outer.filterMap (·.frame)) g) (hBG : ∀ b o, G.get? b = some o → b ∉ (envOf name scope L a cd :: outer).filterMap (·.frame) → B.get? b = some o)
    (hdB : B.get? d = some od) (hGd : G.get? d = none) (hGe : G.get? e = none) (x : FlD B (envOf name scope L a cd :: outer) e (.ref C) d .none h₆) (u : G.UpToSlots h₆) :
    ∃ g₆ vs sl, KtsTurn (outer.filterMap (·.frame)) g g₆ ∧ Fr g₆ L h₆ m ∧ Below A₀ base outer g₆ ∧ KtsDicts (outer.filterMap (·.frame)) g₆ ∧ News g₆ L h₆ [(e, ⟨.ref C, some d, .fields vs, sl⟩), (d, od)] := by
  obtain ⟨g₆, T₆, F₆, K₆⟩ := kts_ground K F hBG x.stays u
  obtain ⟨vs, sl, T, oT, ts, he, _⟩ := x.tr
  have hL : B.get? L = none := by
    obtain ⟨_, ⟨L', _, hf, hn', _⟩, _⟩ := x.frames
    obtain rfl : L = L' := Option.some.inj hf
    exact hn'
  have hdL : d ≠ L := fun z => by rw [z, hL] at hdB; cases hdB
  have heL : e ≠ L := fun z => by
    obtain ⟨_, _, _, hL6, hLd, _⟩ := F₆.ns
    rw [z, hL6] at he
    cases he
    cases hLd
  refine ⟨g₆, vs, sl, T₆, F₆, K₆, D.turn T₆, fun q hq => ?_⟩
  rcases List.mem_cons.mp hq with rfl | hq
  · exact ⟨he, heL, T₆.none_ _ (kts_none F.keep hGe)⟩
  · rcases List.mem_cons.mp hq with rfl | hq
    · exact ⟨x.stays _ _ hdB, hdL, T₆.none_ _ (kts_none F.keep hGd)⟩
    · exact nomatch hq

/-- the way to the handler's suite, with a name or without one -/
theorem caught_core {nm : Option Str} (R : RaisedD base G (envOf name scope L a cd :: outer) e (.ref C) d od s'.heap) (F : Fr g L G m) (K : Below A₀ base outer g) (hsm : G.UpToSlots s'.heap) (XB : KF.In base) (TB : Top p loose mean mg mb base)
    (ex : nsIn KF mainGlobals x = some (some (.ref C))) (q : ktsIn KF C "BaseException" = true)
    (k : ∀ B h₅ tk, (∀ b o, G.get? b = some o → b ∉ (envOf name scope L a cd :: outer).filterMap (·.frame) → B.get? b = some o) → B.get? d = some od → G.get? d = none → G.get? e = none → FlD B (envOf name scope L a cd :: outer) e (.ref C) d .none h₅ → G.UpToSlots h₅ →
      codeAny (model prog w) ((A₀.deeper (envOf name scope L a cd)).mark (some (.ref e))) (.handlers (.ref e) [.ExceptHandler none nm (b₀ :: suite) pos] (envOf name scope L a cd)) (fun r s₂ => match r with
        | .ok f => (match nm with
          | none => Q f s₂
          | some n => wpAny (model prog w) (A₀.deeper (envOf name scope L a cd)) (do bindName (envOf name scope L a cd) n .none; unbindBehindTheSuite (envOf name scope L a cd) n pos) (fun _ s₃ => Q f s₃) E s₂)
        | .error v => cameBackBy (model prog w) (A₀.deeper (envOf name scope L a cd)) (envOf name scope L a cd) E v s₂) { s' with heap := h₅, toks := tk })
    (hk : scope.kind = .function := by rfl) (hx : (envOf name scope L a cd).kindOf x = some .globalImplicit := by rfl) (hd : (x == ("__debug__" : Str)) = false := by decide) :
    wpAny (model prog w) (A₀.deeper (envOf name scope L a cd)) (noteFrame (.ref e) (envOf name scope L a cd))
      (fun _ s₂ => wpAny (model prog w) (A₀.deeper (envOf name scope L a cd)) (setFlight (.ref e) none) (fun _ s₃ =>
        wpAny (model prog w) (A₀.deeper (envOf name scope L a cd)) (handleBy (.ref e) (envOf name scope L a cd) (.ExceptHandler (some (.Name x np)) nm (b₀ :: suite) pos :: rest)) Q E s₃) E s₂) E s' := by
  obtain ⟨B, _, hBG, hdB, hGd, hGe, y⟩ := R
  refine noteNextD (Around.frames_deeper K.stack) rfl y fun h₄ x₄ u₄ => flightD x₄ fun h₅ x₅ u₅ => ?_
  have u := hsm.trans (u₄.trans u₅)
  obtain ⟨g₅, _, F₅, K₅⟩ := kts_ground K F hBG x₅.stays u
  have X₅ : KF.In g₅ := XB.keeps K₅.stays
  obtain ⟨ob, hob, hobc⟩ := x₅.there
  obtain ⟨_, _, _, _, _, _, _, _, _, _, _, _, _, _, _, _, _, hC, hbase, _⟩ := kts_cls X₅ q
  refine wpAny_handleBy_cons (codeAny_handlers_test (name_K F₅ X₅ (topRead_of (TB.keeps K₅.stays)) ex ?_ hk hx hd)) (by intro q; cases q)
  exact wpAny_excMatches_sub_self (F₅.keep _ _ hC) hob hobc hbase (k B h₅ _ hBG hdB hGd hGe x₅ u)

theorem caught_D (R : RaisedD base G (envOf name scope L a cd :: outer) e (.ref C) d od s'.heap) (F : Fr g L G m) (K : Below A₀ base outer g) (hsm : G.UpToSlots s'.heap) (XB : KF.In base) (TB : Top p loose mean mg mb base)
    (D : KtsDicts (outer.filterMap (·.frame)) g) (ex : nsIn KF mainGlobals x = some (some (.ref C))) (q : ktsIn KF C "BaseException" = true)
    (k : ∀ h' g' tk vs sl, KtsTurn (outer.filterMap (·.frame)) g g' → Fr g' L h' (fun y => if y = n then some (.ref e) else m y) → News g' L h' [(e, ⟨.ref C, some d, .fields vs, sl⟩), (d, od)] → Below A₀ base outer g' → KF.In g' → Top p loose mean mg mb g' → KtsDicts (outer.filterMap (·.frame)) g' →
      wpAny (model prog w) ((A₀.deeper (envOf name scope L a cd)).mark (some (.ref e))) (execs (b₀ :: suite) (envOf name scope L a cd))
        (fun f s₄ => wpAny (model prog w) (A₀.deeper (envOf name scope L a cd)) (do bindName (envOf name scope L a cd) n .none; unbindBehindTheSuite (envOf name scope L a cd) n pos) (fun _ s₅ => Q f s₅) E s₄)
        (AsSuiteRaised (model prog w) ((A₀.deeper (envOf name scope L a cd)).mark (some (.ref e))) (envOf name scope L a cd) n pos (notedBy (model prog w) ((A₀.deeper (envOf name scope L a cd)).mark (some (.ref e))) (envOf name scope L a cd) (cameBackBy (model prog w) (A₀.deeper (envOf name scope L a cd)) (envOf name scope L a cd) E)))
        { s' with heap := h', toks := tk })
    (hk : scope.kind = .function := by rfl) (hlo : (envOf name scope L a cd).kindOf n = some .local := by rfl) (hx : (envOf name scope L a cd).kindOf x = some .globalImplicit := by rfl) (hd : (x == ("__debug__" : Str)) = false := by decide) :
    wpAny (model prog w) (A₀.deeper (envOf name scope L a cd)) (noteFrame (.ref e) (envOf name scope L a cd))
      (fun _ s₂ => wpAny (model prog w) (A₀.deeper (envOf name scope L a cd)) (setFlight (.ref e) none) (fun _ s₃ =>
        wpAny (model prog w) (A₀.deeper (envOf name scope L a cd)) (handleBy (.ref e) (envOf name scope L a cd) (.ExceptHandler (some (.Name x np)) (some n) (b₀ :: suite) pos :: rest)) Q E s₃) E s₂) E s' := by
  refine caught_core R F K hsm XB TB ex q (fun B h₅ tk hBG hdB hGd hGe x₅ u₅ => codeAny_handlers_suite_as (flightD x₅ fun h₆ x₆ u₆ => ?_)) hk hx hd
  obtain ⟨g₆, vs, sl, T₆, F₆, K₆, D₆, N₆⟩ := ground_D K F D hBG hdB hGd hGe x₆ (u₅.trans u₆)
  refine stN F₆ N₆ (fun h₇ F₇ N₇ => ?_) hk hlo
  exact k h₇ g₆ _ vs sl T₆ F₇ N₇ K₆ (XB.keeps K₆.stays) (TB.keeps K₆.stays) D₆

theorem caught_D0 (R : RaisedD base G (envOf name scope L a cd :: outer) e (.ref C) d od s'.heap) (F : Fr g L G m) (K : Below A₀ base outer g) (hsm : G.UpToSlots s'.heap) (XB : KF.In base) (TB : Top p loose mean mg mb base)
    (D : KtsDicts (outer.filterMap (·.frame)) g) (ex : nsIn KF mainGlobals x = some (some (.ref C))) (q : ktsIn KF C "BaseException" = true)
    (k : ∀ h' g' tk vs sl, KtsTurn (outer.filterMap (·.frame)) g g' → Fr g' L h' m → News g' L h' [(e, ⟨.ref C, some d, .fields vs, sl⟩), (d, od)] → Below A₀ base outer g' → KF.In g' → Top p loose mean mg mb g' → KtsDicts (outer.filterMap (·.frame)) g' →
      wpAny (model prog w) ((A₀.deeper (envOf name scope L a cd)).mark (some (.ref e))) (execs (b₀ :: suite) (envOf name scope L a cd)) Q E { s' with heap := h', toks := tk })
    (hk : scope.kind = .function := by rfl) (hx : (envOf name scope L a cd).kindOf x = some .globalImplicit := by rfl) (hd : (x == ("__debug__" : Str)) = false := by decide)
    (hE : PassesOwnAt (model prog w) ((A₀.deeper (envOf name scope L a cd)).mark (some (.ref e))) (A₀.deeper (envOf name scope L a cd)) (envOf name scope L a cd) E := by passes_own) :
    wpAny (model prog w) (A₀.deeper (envOf name scope L a cd)) (noteFrame (.ref e) (envOf name scope L a cd))
      (fun _ s₂ => wpAny (model prog w) (A₀.deeper (envOf name scope L a cd)) (setFlight (.ref e) none) (fun _ s₃ =>
        wpAny (model prog w) (A₀.deeper (envOf name scope L a cd)) (handleBy (.ref e) (envOf name scope L a cd) (.ExceptHandler (some (.Name x np)) none (b₀ :: suite) pos :: rest)) Q E s₃) E s₂) E s' := by
  refine caught_core R F K hsm XB TB ex q (fun B h₅ tk hBG hdB hGd hGe x₅ u₅ => codeAny_handlers_suite (flightD x₅ fun h₆ x₆ u₆ => ?_)) hk hx hd
  obtain ⟨g₆, vs, sl, T₆, F₆, K₆, D₆, N₆⟩ := ground_D K F D hBG hdB hGd hGe x₆ (u₅.trans u₆)
  exact wpAny_passesOwnAt hE (k h₆ g₆ _ vs sl T₆ F₆ N₆ K₆ (XB.keeps K₆.stays) (TB.keeps K₆.stays) D₆)
end

end
section
open PySem PySem.Spec PySem.Calls PySem.W PyProof.Rows
open PySem.Sem (wp)

/-- .. made by Exception.__new__, and neither an AttributeError nor a NameError -/
def excTail (o : Obj) : Bool := match o.data, o.slots.toList with
  | .cls cd, [_, _, _, _, some (.builtin n), _] => n == "Exception.__new__" && (!cd.mro.contains (.type "AttributeError") && !cd.mro.contains (.type "NameError"))
  | _, _ => false
/-- C is a class of the text's own under Exception -/
def excOwn (K : Frag) (C : Addr) : Bool := ktsIn K C "Exception" && (match K.lookup C with | some o => excTail o | none => false)
theorem excOwn_cls {K : Frag} {h : Heap} {C : Addr} (X : K.In h) (q : excOwn K C = true) : ∃ nm qn N bs bm hdct sn sub ab col dd k0 k1 k2 k3 k5,
    h.get? C = some (excClassObj nm qn C N bs bm hdct sn sub ab col dd k0 k1 k2 k3 k5 "Exception.__new__") ∧ bm.contains (.type "BaseException") = true ∧ bm.contains (.type "Exception") = true ∧ bm.contains (.type "AttributeError") = false ∧ bm.contains (.type "NameError") = false := by
  obtain ⟨q1, q2⟩ := Bool.and_eq_true_iff.mp q
  obtain ⟨nm, qn, N, bs, bm, hdct, sn, sub, ab, col, dd, k0, k1, k2, k3, k5, newId, hC, hB, hE⟩ := kts_cls X q1
  cases ho : K.lookup C with
  | none => rw [ho] at q2; cases q2
  | some o =>
    rw [ho] at q2
    have e0 := Option.some.inj ((X _ _ ho).symm.trans hC)
    subst e0
    obtain ⟨e1, e2⟩ := Bool.and_eq_true_iff.mp q2
    obtain ⟨e3, e4⟩ := Bool.and_eq_true_iff.mp e2
    have e5 := beq_iff_eq.mp e1
    subst e5
    have cut : ∀ T : String, (!(Value.ref C :: bm).contains (.type T)) = true → bm.contains (.type T) = false := fun T h => by
      rw [List.contains_cons, Bool.not_eq_true', Bool.or_eq_false_iff] at h
      exact h.2
    exact ⟨nm, qn, N, bs, bm, hdct, sn, sub, ab, col, dd, k0, k1, k2, k3, k5, hC, hB, hE, cut _ e3, cut _ e4⟩

section
variable {prog : Program} {w : World} {A : Around} {E : Value → Shared → Prop} {h : Heap} {g : Array GenState} {d : Drawn} {t : Nat} {os : OsState}
variable {nm q : Str} {C N : Addr} {bs bm : List Value} {hdct : Bool} {sn : List Str} {sub : List Value} {ab : Bool} {col : Option Bool} {dd : Option Addr} {k0 k1 k2 k3 k5 : Option Value}

theorem check_new {M : Model} {rest : List Value} {Q : Unit → Shared → Prop} (hcE : bm.contains (.type "Exception") = true) (hC : h.get? C = some (excClassObj nm q C N bs bm hdct sn sub ab col dd k0 k1 k2 k3 k5 "Exception.__new__"))
    (hq : Q () ⟨h, g, d, t, os⟩) : wpAny M A (checkBuiltinCall "Exception.__new__" ⟨.ref C :: rest, []⟩) Q E ⟨h, g, d, t, os⟩ := by
  have F := PySem.F.excBase_Exception
  have hcont : (Value.ref C :: bm).contains (.type "Exception") = true := by rw [List.contains_cons, hcE, Bool.or_true]
  have hstar := F.noStar
  simp only [checkBuiltinCall, F.newKind, F.newSplit, F.newRow]
  repeat (first | refine wpAny_loadPart_at hC ?_ | (refine wpAny_isSubtype_exc hC ?_; rw [hcont]) | refine wpAny_staticBase_exc hC ?_ | refine wpAny_madeBy_exc hC ?_ | simp only [bne_self_eq_false, Bool.false_eq_true, if_false] | wp_step)
  exact hq

theorem exc_new {R : Result → Shared → Prop} {rest : List Value} (hcE : bm.contains (.type "Exception") = true) (hcA : bm.contains (.type "AttributeError") = false) (hcN : bm.contains (.type "NameError") = false)
    (hC : h.get? C = some (excClassObj nm q C N bs bm hdct sn sub ab col dd k0 k1 k2 k3 k5 "Exception.__new__"))
    (hq : R (.ok (.ret (.ref (h.objs.size + 1)))) ⟨(h.push { cls := .type "tuple", data := .seq rest.toArray }).push
      { cls := .ref C, data := .fields #[.ref h.objs.size, .none, .none, .none, .bool false, .none] }, g, d, t, os⟩) (hrest : rest.length ≤ sizeLine := by size_fits) :
    codeAny (model prog w) A (.builtin "Exception.__new__" ⟨.ref C :: rest, []⟩) R ⟨h, g, d, t, os⟩ := by
  have F := PySem.F.excBase_Exception
  have hends := F.ends
  have hcB' : (Value.ref C :: bm).contains (.type "Exception") = true := by rw [List.contains_cons, hcE, Bool.or_true]
  have hcA' : (Value.ref C :: bm).contains (.type "AttributeError") = false := by rw [List.contains_cons, hcA]; rfl
  have hcN' : (Value.ref C :: bm).contains (.type "NameError") = false := by rw [List.contains_cons, hcN]; rfl
  refine codeAny_builtinAt F.entry ?_
  unfold Builtin.«BaseException.__new__»
  refine PySem.wpAt_bind ?_
  show PySem.wpAt _ _ _ (stack >>= _) _ _ _
  refine PySem.wpAt_bind (PySem.wpAt_stack fun p below => PySem.wpAt_of_wpAny ?_)
  wp_walk
  refine PySem.wpAt_of_wpAny ?_
  rw [F.owner]
  repeat (first | with_reducible refine wpAny_madeHere_exc F.canon hC ?_ | with_reducible refine wpAny_loadPart_at hC ?_ | (with_reducible refine wpAny_isSubtype_exc hC ?_; first | rw [hcB'] | rw [hcA'] | rw [hcN']) | wp_step)
  show R _ _
  rw [Heap.size_push]
  exact hq

theorem type_call_own {K : Frag} {rest : List Value} {fI : Addr} {oI : Obj} {Q : Fin → Shared → Prop} (X : K.In h)
    (hcE : bm.contains (.type "Exception") = true) (hcA : bm.contains (.type "AttributeError") = false) (hcN : bm.contains (.type "NameError") = false)
    (hC : h.get? C = some (excClassObj nm q C N bs bm hdct sn sub ab col dd k0 k1 k2 k3 k5 "Exception.__new__")) (hi : findIn K (.ref C) "__init__" = some (some (.ref fI)))
    (hfI : h.get? fI = some oI) (hfc : oI.cls = .type "function")
    (hq : ∀ h' e, Heap.MadeExcOf h h' e (.ref C) rest →
      wpAny (model prog w) A (call (.ref fI) (.ref e :: rest)) (fun r s' => r = .none ∧ Q (.done (.ret (.ref e))) s') E ⟨h', g, d, t, os⟩) (hrest : rest.length ≤ sizeLine := by size_fits) :
    wpAny (model prog w) A (Builtin.«type.__call__» ⟨.ref C :: rest, []⟩) Q E ⟨h, g, d, t, os⟩ := by
  have F := PySem.F.excBase_Exception
  repeat (first | with_reducible refine wpAny_loadPart_at hC ?_ | with_reducible refine wpAny_madeBy_exc hC ?_ | wp_step)
  refine codeAny_call_builtin_code (Code.quiet_builtin _ F.quiet) (check_new hcE hC ?_)
  refine exc_new hcE hcA hcN hC ?_ hrest
  show wpAny _ _ _ _ _ _
  have hkeep : ∀ b o, h.get? b = some o → ((h.push { cls := .type "tuple", data := .seq rest.toArray }).push { cls := .ref C, data := .fields #[.ref h.objs.size, .none, .none, .none, .bool false, .none] }).get? b = some o :=
    fun b o e => Heap.get?_push_of_some _ (Heap.get?_push_of_some _ e)
  have hC₁ := hkeep _ _ hC
  have hfI₁ := hkeep _ _ hfI
  have X₁ := X.keeps hkeep
  have hget : ((h.push { cls := .type "tuple", data := .seq rest.toArray }).push
      { cls := .ref C, data := .fields #[.ref h.objs.size, .none, .none, .none, .bool false, .none] }).get? (h.objs.size + 1) = some
      { cls := .ref C, data := .fields #[.ref h.objs.size, .none, .none, .none, .bool false, .none] } := by heap_get
  have hcC : (Value.ref C :: bm).contains (.ref C) = true := by simp
  unfold isInstance
  repeat (first | with_reducible refine wpAny_loadPart_at hget ?_ | (with_reducible refine wpAny_isSubtype_exc hC₁ ?_; rw [hcC]) | wp_step)
  show wpAny _ _ (typeLookup (.ref C) _) _ _ _
  refine (looks_findIn X₁ hi).here ?_
  refine wpAny_holding (wpAny_bind ?_)
  unfold bindSpecial
  refine wpAny_bind (wpAny_typeOf (T := "function") ⟨_, hfI₁, hfc⟩ ?_)
  rw [if_pos (by decide)]
  refine wpAny_pure (wpAny_bind (wpAny_mono (hq _ (h.objs.size + 1) ⟨hkeep, Heap.get?_none_of_le (Nat.le_succ _), h.objs.size, hget, Heap.get?_none_of_le (Nat.le_refl _), ?_⟩) (fun r s' hr => ?_) fun _ _ x => x))
  · exact Heap.get?_push_of_some _ (Heap.get?_push_at rfl rfl)
  · obtain ⟨rfl, hQ⟩ := hr
    wp_walk
    exact hQ

theorem call_exc_own {s : Shared} {K : Frag} {rest : List Value} {fI : Addr} {oI : Obj} {Q : Value → Shared → Prop} (X : K.In s.heap) (hx : excOwn K C = true) (hi : findIn K (.ref C) "__init__" = some (some (.ref fI)))
    (hfI : s.heap.get? fI = some oI) (hfc : oI.cls = .type "function")
    (hq : ∀ h' e, Heap.MadeExcOf s.heap h' e (.ref C) rest →
      wpAny (model prog w) (A.under (.builtin "type.__call__" ⟨.ref C :: rest, []⟩)) (call (.ref fI) (.ref e :: rest)) (fun r s' => r = .none ∧ Q (.ref e) s') E { s with heap := h' }) (hrest : rest.length ≤ sizeLine := by size_fits) :
    wpAny (model prog w) A (call (.ref C) rest) Q E s := by
  obtain ⟨nm, q, N, bs, bm, hdct, sn, sub, ab, col, dd, k0, k1, k2, k3, k5, hC, hB, hcE, hcA, hcN⟩ := excOwn_cls X hx
  obtain ⟨h, g, d, t, os⟩ := s
  have f1 := tc_lookup
  have f2 := tc_bind (.ref C)
  have hT : (⟨h, g, d, t, os⟩ : Shared).TypeIs (.ref C) "type" := ⟨_, hC, rfl⟩
  refine wpAny_call (codeAny_of_tree ?_)
  show wpAny _ _ (callAny (.ref C) _) _ _ _
  repeat (any_goals (first | assumption | with_reducible refine wpAny_loadPart_at hC ?_ | wp_step))
  refine ⟨rfl, ?_⟩
  refine codeAny_call_builtin_at (Code.quiet_builtin _ (by decide +kernel)) entry_typeCall (wpAny_check_type_call_sub hC (type_call_own (hrest := hrest) X hcE hcA hcN hC hi hfI hfc fun h' e hm => ?_))
  exact hq h' e hm
end

end
section
open PySem PySem.Spec PySem.Calls PySem.W PyProof.Rows
open Builtin Builtin.ObjectAttr
section
variable {prog : Program} {w : World} {A : Around} {E : Value → Shared → Prop} {h : Heap} {g : Array GenState} {dr : Drawn} {t : Nat} {os : OsState}
variable {K : Frag} {C e : Addr} {dd : Option Addr} {vs : Array Value} {sl : Array (Option Value)}

theorem check_init {M : Model} {rest : List Value} {Q : Unit → Shared → Prop} (X : K.In h) (hx : excOwn K C = true) (he : h.get? e = some ⟨.ref C, dd, .fields vs, sl⟩) (hq : Q () ⟨h, g, dr, t, os⟩) :
    wpAny M A (checkBuiltinCall "Exception.__init__" ⟨.ref e :: rest, []⟩) Q E ⟨h, g, dr, t, os⟩ := by
  have F := PySem.F.excBase_Exception
  obtain ⟨nm, q, N, bs, bm, hdct, sn, sub, ab, col, dd', k0, k1, k2, k3, k5, hC, hB, hcE, hcA, hcN⟩ := excOwn_cls X hx
  have hcB : (Value.ref C :: bm).contains (.type "Exception") = true := by rw [List.contains_cons, hcE, Bool.or_true]
  have hshort := F.noStar
  simp only [checkBuiltinCall, F.initKind, F.initSplit, F.initRow]
  repeat (first | (with_reducible refine wpAny_loadPart_at he ?_) | with_reducible refine wpAny_loadPart_at hC ?_ | (with_reducible refine wpAny_isSubtype_exc hC ?_; rw [hcB]) | wp_step)
  refine wpAny_onRaise ?_
  rw [show ∀ (a b : String) (n : Nat), Bind.check ⟨.positional, "*", "Exception", .self, [⟨"args", .varPos, false⟩]⟩ a b n (List.map (fun x => x.fst) ({ pos := Value.ref e :: rest } : Args).kw) = pure () from
    fun a b n => check_star_args _ _ _ _ _ _]
  exact wpAny_pure hq

theorem exc_init {s : Shared} {rest : List Value} {t0 : Addr} {Q : Value → Shared → Prop} (X : K.In s.heap) (hx : excOwn K C = true) (he : s.heap.get? e = some { cls := .ref C, data := .fields #[.ref t0, .none, .none, .none, .bool false, .none] }) (hrest : rest.length ≤ sizeLine := by size_fits)
    (hq : ∀ h' ts, (∀ b o, b ≠ e → s.heap.get? b = some o → h'.get? b = some o) → h'.get? e = some { cls := .ref C, data := .fields #[ts, .none, .none, .none, .bool false, .none] } → Q .none { s with heap := h' }) :
    wpAny (model prog w) A (call (.builtin "Exception.__init__") (.ref e :: rest)) Q E s := by
  have F := PySem.F.excBase_Exception
  obtain ⟨h, g, dr, t, os⟩ := s
  refine wpAny_call (codeAny_call_builtin F.init.plain F.initEntry (check_init X hx he ?_))
  have he₁ : (h.push { cls := .type "tuple", data := .seq rest.toArray }).get? e = some { cls := .ref C, data := .fields #[.ref t0, .none, .none, .none, .bool false, .none] } := Heap.get?_push_of_some _ he
  wp_walk
  refine hq _ (.ref h.objs.size) (fun b o hb ho => ?_) ?_
  · rw [Heap.get?_update_other _ _ (Ne.symm hb)]
    exact Heap.get?_push_of_some _ ho
  · rw [Heap.get?_update_self _ he₁ rfl]
    rfl

/-- the first field that is stored into an exception: its dict is made -/
theorem exc_set {s : Shared} {name : Str} {v : Value} {cd : ClassData} {Q : Unit → Shared → Prop} (X : K.In s.heap) (hc : clsIn K C = some cd) (hdct : cd.hasDict = true) (hpass : refuseLoop (.ref e) "__setattr__" cd.mro = pure ())
    (hob : mroIn K C (.type "object") = some true) (hs : findIn K (.ref C) "__setattr__" = some (some (.builtin "object.__setattr__"))) (hna : findIn K (.ref C) name = some none)
    (he : s.heap.get? e = some ⟨.ref C, none, .fields vs, sl⟩)
    (hq : ∀ h' d tk', d ≠ e → s.heap.get? d = none → (∀ b o, b ≠ e → s.heap.get? b = some o → h'.get? b = some o) → h'.get? e = some ⟨.ref C, some d, .fields vs, sl⟩ → h'.Ns1 d (fun y => if y = name then some v else none) → Q () { s with heap := h', toks := tk' }) :
    wpAny (model prog w) A (setAttr (.ref e) name v) Q E s := by
  have I : InstAt s.heap e ⟨.ref C, none, .fields vs, sl⟩ C none := ⟨he, rfl, rfl, trivial⟩
  refine set_plain X I hs ?_
  have SF := PySem.F.store_object
  have I' : InstAt ({ s with toks := s.toks + 1 } : Shared).heap e ⟨.ref C, none, .fields vs, sl⟩ C none := I
  have sub : Looks (model prog w) ({ s with toks := s.toks + 1 } : Shared).heap (isInstance (.ref e) (.type "object")) true := I'.type.andThen (looks_mroIn X hob)
  refine codeAny_call_builtin SF.slot.plain SF.entry (@check_slot (model prog w) _ _ { s with toks := s.toks + 1 } "object.__setattr__" "object" "__setattr__" (.ref e) [.str name s.toks, v] [] _ SF.kind SF.split sub (SF.args (.ref e) (.str name s.toks) v) ?_)
  have hm : Looks (model prog w) ({ s with toks := s.toks + 1 } : Shared).heap (mroOf (.ref C)) cd.mro := (looks_clsIn X hc).andThen .now
  have X' : K.In ({ s with toks := s.toks + 1 } : Shared).heap := X
  have L3 : Looks (model prog w) ({ s with toks := s.toks + 1 } : Shared).heap (storeTaker? none) none := .now
  rw [osa_eq, refuse_eq]
  refine wpAny_bind (wpAny_bind (I'.type.here (wpAny_bind (hm.here ?_))))
  rw [hpass]
  refine wpAny_pure (wpAny_bind (I'.type.here (wpAny_bind ((looks_findIn X' hna).here (wpAny_bind (L3.here ?_))))))
  refine wpAny_bind (wpAny_pure (wpAny_bind (wpAny_bind (wpAny_loadPart (s := { s with toks := s.toks + 1 }) he (wpAny_bind ((looks_clsIn X' hc).here ?_))))))
  rw [hdct]
  refine wpAny_bind (wpAny_alloc' ?_)
  have he₁ : (s.heap.push { cls := .type "dict", data := .dict #[] }).get? e = some ⟨.ref C, none, .fields vs, sl⟩ := Heap.get?_push_of_some _ he
  have hed : e ≠ s.heap.objs.size := Nat.ne_of_lt (Heap.lt_size he)
  have hd₁ : (s.heap.push { cls := .type "dict", data := .dict #[] }).get? s.heap.objs.size = some { cls := .type "dict", data := .dict #[] } := Heap.get?_push_size _ rfl
  refine wpAny_bind (wpAny_update' he₁ ?_)
  refine wpAny_pure (a := some s.heap.objs.size) ?_
  have hgd : ((s.heap.push { cls := .type "dict", data := .dict #[] }).update e fun o => { cls := o.cls, dict := some s.heap.objs.size, data := o.data, slots := o.slots }).get? s.heap.objs.size
      = some { cls := .type "dict", data := .dict #[] } := (Heap.get?_update_ne _ _ _ _ hed.symm).trans hd₁
  have hge : ((s.heap.push { cls := .type "dict", data := .dict #[] }).update e fun o => { cls := o.cls, dict := some s.heap.objs.size, data := o.data, slots := o.slots }).get? e
      = some ⟨.ref C, some s.heap.objs.size, .fields vs, sl⟩ := Heap.get?_update_self _ he₁ rfl
  have hnd : ((s.heap.push { cls := .type "dict", data := .dict #[] }).update e fun o => { cls := o.cls, dict := some s.heap.objs.size, data := o.data, slots := o.slots }).Ns s.heap.objs.size (fun _ => none) :=
    ⟨_, #[], _, hgd, rfl, fun e he => absurd he (by simp), fun _ => rfl⟩
  show wpAny _ _ (storeInDict s.heap.objs.size (.str name s.toks) name v) _ _ _
  unfold storeInDict newKeyGuard
  refine wpAny_bind (wpAny_pure (wpAny_bind (wpAny_nsSet1 (Heap.Ns1.of_empty hnd) fun h' hn' hs => ?_)))
  obtain ⟨oD, esD, epD, hoD, hdD, hcD⟩ := hn'.count (Within.cons name v Within.nil)
  refine wpAny_bind (wpAny_lookBehind hoD (by rw [hdD]; exact pastItsLine_dict (Nat.le_trans hcD (by rw [List.length_cons, List.length_nil, sizeLine_eq]; omega))) ?_)
  refine wpAny_pure ?_
  refine hq h' s.heap.objs.size _ hed.symm (Heap.get?_none_of_le (Nat.le_refl _)) (fun b o hb ho => ?_) ((hs.2 e hed).trans hge) hn'
  exact (hs.2 b (Nat.ne_of_lt (Heap.lt_size ho))).trans ((Heap.get?_update_ne _ _ _ _ hb).trans (Heap.get?_push_of_some _ ho))

theorem lookIn_ns {o : Obj} {es : Array DictEntry} {ep : Nat} {name : Str} {v : Value} (hd : o.data = .dict es ep) (hf : nsFind es name = some v) : lookIn name o = some (some v) := by
  unfold lookIn
  rw [hd]
  unfold nsFind findBy at hf
  rw [← Array.find?_toList] at hf
  dsimp only
  cases q : es.toList.find? (fun x => x.key.isStr name) with
  | none => rw [q] at hf; cases hf
  | some en => rw [q] at hf; exact congrArg some hf
/-- a field of an exception's own dict is read -/
theorem exc_get {s : Shared} {name : Str} {v : Value} {cd : ClassData} {d : Addr} {mA : Str → Option Value} {expr : Bool} {Q : Value → Shared → Prop} (X : K.In s.heap) (hc : clsIn K C = some cd) (hdct : cd.hasDict = true)
    (hb : mroIn K C (.type "BaseException") = some true)
    (hg : findIn K (.ref C) "__getattribute__" = some (some (.builtin "BaseException.__getattribute__"))) (hga : findIn K (.ref C) "__getattr__" = some none) (hna : findIn K (.ref C) name = some none)
    (he : s.heap.get? e = some ⟨.ref C, some d, .fields vs, sl⟩) (hd : s.heap.Ns d mA) (hv : mA name = some v) (hh : handedIn v = true) (hq : Q v { s with toks := s.toks + 1 }) :
    wpAny (model prog w) A (getAttr (.ref e) name expr) Q E s := by
  obtain ⟨h, g, dr, t, os⟩ := s
  obtain ⟨o, es, ep, ho, hdt, hks, hfd⟩ := hd
  have I : InstAt h e ⟨.ref C, some d, .fields vs, sl⟩ C (some o) := ⟨he, rfl, rfl, ho⟩
  have FA := PySem.F.attr_Exception.ga
  have f3 := FA.bind (.ref e)
  have hf : findObj K C (some o) name = some (.value v) := findObj_own (by unfold hasDictIn; rw [hc]; exact hdct) hna rfl (lookIn_ns hdt ((hfd name).trans hv))
  have hx0 : (expr && onTheHeap (Value.builtin "BaseException.__getattribute__")) = false := by cases expr <;> rfl
  have hx2 : (Value.builtin "BaseException.__getattribute__" == Value.builtin "object.__getattribute__") = false := by decide +kernel
  have hx1 : (onTheHeap (Value.ref C) && Value.builtin "BaseException.__getattribute__" == Value.builtin "object.__getattribute__") = false := by rw [hx2]; rfl
  unfold getAttr getAttrBy
  repeat (any_goals (first | assumption | (with_reducible refine wpAny_loadPart_at he ?_) | with_reducible refine (looks_findIn (h := h) X hg).here (s := ⟨h, g, dr, _, os⟩) ?_ | with_reducible refine (looks_findIn (h := h) X hga).here (s := ⟨h, g, dr, _, os⟩) ?_ | wp_step))
  have hk : builtinKind "BaseException.__getattribute__" = some .slot := by decide +kernel
  have hsplit : splitId "BaseException.__getattribute__" = some ("BaseException", "__getattribute__") := by decide +kernel
  have sub : Looks (model prog w) (⟨h, g, dr, t + 1, os⟩ : Shared).heap (isInstance (.ref e) (.type "BaseException")) true := I.type.andThen (looks_mroIn X hb)
  have L0 : Looks (model prog w) (⟨h, g, dr, t + 1, os⟩ : Shared).heap (typeOf (.ref e)) (.ref C) := I.type
  have L1 : Looks (model prog w) (⟨h, g, dr, t + 1, os⟩ : Shared).heap (find (.ref e) (.ref C) name) (.value v) := looks_find X I hf
  refine codeAny_call_builtin FA.plain PySem.F.entry_bexc_ga (@check_slot (model prog w) _ _ ⟨h, g, dr, t + 1, os⟩ "BaseException.__getattribute__" "BaseException" "__getattribute__" (.ref e) [.str name t] [] _ hk hsplit sub (PySem.F.args_bexc_ga _ _) ?_)
  refine wpAny_bind (wpAny_pure (wpAny_bind (wpAny_pure (wpAny_bind (L0.here (wpAny_bind (L1.here ?_)))))))
  refine wpAny_pure ?_
  show wpAny _ _ (handedOut v) _ _ _
  rw [handedOut_of hh]
  exact wpAny_pure hq
end

end
section
open PySem PySem.Spec PySem.Calls PySem.W PyProof.Rows
open Builtin Builtin.ObjectAttr
theorem meta_Exception : typeOf (.type "Exception") = pure (.type "type") := by kernel_rfl

/-- a dict with the one entry «message» -/
def MsgD (od : Obj) (v : Value) : Prop := ∃ es ep, od.data = .dict es ep ∧ StrKeys es ∧ ∀ y, nsFind es y = (if y = Str.ofString "message" then some v else none)
theorem MsgD.ns {od : Obj} {v : Value} {h : Heap} {d : Addr} (x : MsgD od v) (e : h.get? d = some od) : h.Ns d (fun y => if y = Str.ofString "message" then some v else none) := by obtain ⟨es, ep, a, b, c⟩ := x; exact ⟨od, es, ep, e, a, b, c⟩
theorem MsgD.dict {od : Obj} {v : Value} (x : MsgD od v) : ∃ es n, od.data = .dict es n := by obtain ⟨es, ep, a, _⟩ := x; exact ⟨es, ep, a⟩

section
variable {prog : Program} {w : World} {A : Around} {E : Value → Shared → Prop} {s : Shared} {K : Frag} {C e L t0 : Addr} {h₀ : Heap} {m : Str → Option Value} {rest : List (Addr × Obj)}
theorem fr_at {h h' : Heap} {o : Obj} (F : Fr h₀ L h m) (N : News h₀ L h ((e, o) :: rest)) (k : ∀ b o, b ≠ e → h.get? b = some o → h'.get? b = some o) : Fr h₀ L h' m := by
  obtain ⟨he, heL, hn⟩ := N _ List.mem_cons_self
  exact ⟨F.ns.at' fun o ho => k L o (Ne.symm heL) ho, fun b o hb => k b o (fun z => by rw [z, hn] at hb; cases hb) (F.keep b o hb), F.above⟩
theorem news_at {h h' : Heap} {o o' : Obj} (N : News h₀ L h ((e, o) :: rest)) (hne : ∀ p ∈ rest, p.1 ≠ e) (k : ∀ b o, b ≠ e → h.get? b = some o → h'.get? b = some o) (he : h'.get? e = some o') : News h₀ L h' ((e, o') :: rest) := fun p hp => by
  rcases List.mem_cons.mp hp with rfl | hp
  · exact ⟨he, (N _ List.mem_cons_self).2⟩
  · obtain ⟨a, b⟩ := N p (List.mem_cons_of_mem _ hp)
    exact ⟨k _ _ (hne p hp) a, b⟩

theorem exc_init_K {v : Value} {Q : Value → Shared → Prop} (X : K.In h₀) (hx : excOwn K C = true) (F : Fr h₀ L s.heap m) (N : News h₀ L s.heap ((e, { cls := .ref C, data := .fields #[.ref t0, .none, .none, .none, .bool false, .none] }) :: rest)) (hne : ∀ p ∈ rest, p.1 ≠ e)
    (hq : ∀ h' ts, Fr h₀ L h' m → News h₀ L h' ((e, { cls := .ref C, data := .fields #[ts, .none, .none, .none, .bool false, .none] }) :: rest) → Q .none { s with heap := h' }) :
    wpAny (model prog w) A (call (.builtin "Exception.__init__") [.ref e, v]) Q E s :=
  exc_init (X.keeps F.keep) hx (N _ List.mem_cons_self).1 (by size_fits) fun h' ts k he => hq h' ts (fr_at F N k) (news_at N hne k he)

theorem exc_set_K {v ts : Value} {cd : ClassData} {Q : Unit → Shared → Prop} (X : K.In h₀) (hc : clsIn K C = some cd) (hdct : cd.hasDict = true) (hpass : ∀ v, refuseLoop v "__setattr__" cd.mro = pure ())
    (hob : mroIn K C (.type "object") = some true) (hs : findIn K (.ref C) "__setattr__" = some (some (.builtin "object.__setattr__"))) (hna : findIn K (.ref C) "message" = some none)
    (F : Fr h₀ L s.heap m) (N : News h₀ L s.heap ((e, { cls := .ref C, data := .fields #[ts, .none, .none, .none, .bool false, .none] }) :: rest)) (hne : ∀ p ∈ rest, p.1 ≠ e)
    (hq : ∀ h' d od tk', MsgD od v → Fr h₀ L h' m → News h₀ L h' ((e, ⟨.ref C, some d, .fields #[ts, .none, .none, .none, .bool false, .none], #[]⟩) :: (d, od) :: rest) → Q () { s with heap := h', toks := tk' }) :
    wpAny (model prog w) A (setAttr (.ref e) "message" v) Q E s := by
  refine exc_set (X.keeps F.keep) hc hdct (hpass _) hob hs hna (N _ List.mem_cons_self).1 fun h' d tk' hde hdn k he hD => ?_
  obtain ⟨od, es, ep, hod, hdt, hks, _, hfd⟩ := hD
  have F' : Fr h₀ L h' m := fr_at F N k
  have N' := news_at N hne k he
  refine hq h' d od tk' ⟨es, ep, hdt, hks, hfd⟩ F' fun p hp => ?_
  rcases List.mem_cons.mp hp with rfl | hp
  · exact N' _ List.mem_cons_self
  · rcases List.mem_cons.mp hp with rfl | hp
    · refine ⟨hod, fun z => ?_, kts_none F.keep hdn⟩
      obtain ⟨_, _, _, hL, _⟩ := F.ns
      rw [← show d = L from z, hdn] at hL
      cases hL
    · exact N' p (List.mem_cons_of_mem _ hp)
end

theorem words7 : True := by
  k_with_none
  k_with "getMethod" => (k_here; (with_reducible show wpAny _ _ (getMethod (Value.type "Exception") _ _) _ _ _); refine method_type (by k_asm) (by k_asm) (by exact meta_Exception) (by decide +kernel) (by k_dflt k_is) (by k_handed) ?_)
  k_with "call builtin:Exception.__init__" => (k_here; (with_reducible show wpAny _ _ (call (Value.builtin "Exception.__init__") [Value.ref _, _]) _ _ _); (refine exc_init_K (by k_asm) (by assumption) (by k_asm) (by k_asm) (by assumption) ?_); intro h' ts' F' N')
  k_with "setAttr ref" => (k_here; (with_reducible show wpAny _ _ (setAttr (Value.ref _) "message" _) _ _ _); (refine exc_set_K (by k_asm) (by assumption) (by assumption) (by assumption) (by assumption) (by assumption) (by assumption) (by k_asm) (by k_asm) (by assumption) ?_); intro h' d' od' tk' M' F' N')
  trivial

theorem mk_exc {w : World} {mean : ExcName → Option Value} {mg mb : Str → Option Value} {dp un : Nat} {gd : Option (List Code)} {cn : Str} {cs : Scope} {a : Addr} {ccd : Value} {cl : List (Str × Addr)} {outer : List Env} {A₀ : Around} {base h₀ : Heap} {L : Addr} {m : Str → Option Value} {s : Shared} {Q E : Value → Shared → Prop}
    {C : Addr} {msg : Str} {tm : Tok} {news : List (Addr × Obj)} {cd : ClassData}
    (X : (hd.heap_39 w.params).In h₀) (hC : excOwn (hd.heap_39 w.params) C = true) (hi : findIn (hd.heap_39 w.params) (.ref C) "__init__" = some (some (.ref 35)))
    (hc : clsIn (hd.heap_39 w.params) C = some cd) (hdct : cd.hasDict = true) (hpass : ∀ v, refuseLoop v "__setattr__" cd.mro = pure ())
    (hob : mroIn (hd.heap_39 w.params) C (.type "object") = some true) (hs : findIn (hd.heap_39 w.params) (.ref C) "__setattr__" = some (some (.builtin "object.__setattr__"))) (hna : findIn (hd.heap_39 w.params) (.ref C) "message" = some none)
    (B : Below A₀ base outer h₀) (F : Fr h₀ L s.heap m) (N : News h₀ L s.heap news) (T : Top hd.view_39 (looseW hd.view_39 []) mean mg mb h₀) (hk : cs.kind = .function)
    (hdp : dp + 2 < recursionLimit) (hu : un + 16 < cLine)
    (ret : ∀ (e d : Addr) (ts : Value) (od : Obj) (h' : Heap) (tk' : Nat), MsgD od (.str msg tm) → Fr h₀ L h' m → News h₀ L h' ((e, ⟨.ref C, some d, .fields #[ts, .none, .none, .none, .bool false, .none], #[]⟩) :: (d, od) :: news) → Q (.ref e) { s with heap := h', toks := tk' }) :
    wpAny (model PySem.Challenge.rw_xm0816_01.row.prog w) (ktrTop dp un gd cn cs L a ccd cl outer) (call (.ref C) [.str msg tm]) Q E s := by
  revert X
  k_fill
  intro X
  obtain ⟨oI, hoI, hoc⟩ : ∃ oI, (hd.heap_39 w.params).lookup 35 = some oI ∧ oI.cls = .type "function" := ⟨_, by k_is, rfl⟩
  refine call_exc_own (X.keeps F.keep) hC hi ((X.keeps F.keep) _ _ hoI) hoc fun h' e hm => ?_
  obtain ⟨t, he, htn, ht⟩ := hm.there
  have F' : Fr h₀ L h' m := F.keeps hm.keeps
  have N₁ := News.more F' News.nil he (fun es n q => by cases q) (kts_none F.keep hm.new)
  have hne : ∀ p ∈ news, p.1 ≠ e := fun p hp z => by
    have := (N p hp).1
    rw [z, hm.new] at this
    cases this
  have N' : News h₀ L h' ((e, { cls := .ref C, data := .fields #[.ref t, .none, .none, .none, .bool false, .none] }) :: news) := fun p hp => by
    rcases List.mem_cons.mp hp with rfl | hp
    · exact N₁ _ List.mem_cons_self
    · exact ⟨hm.keeps _ _ (N p hp).1, (N p hp).2⟩
  clear N₁ he ht
  refine wpAny_call ?_
  k_dflt cell_enter
  k_steps
  exact ret _ _ _ _ _ _ (by assumption) (by assumption) (by assumption)

/-- what a raise statement asks of its expression: an exception of the text's own, with its dict -/
def RaisableD (E : Value → Shared → Prop) (v : Value) (s₁ : Shared) : Prop :=
  ∃ (K : Frag) (e d C : Addr) (ts : Value), v = .ref e ∧ K.In s₁.heap ∧ excOwn K C = true ∧ s₁.heap.get? e = some ⟨.ref C, some d, .fields #[ts, .none, .none, .none, .bool false, .none], #[]⟩ ∧ E (.ref e) s₁
theorem raise_D {prog : Program} {w : World} {A : Around} {E : Value → Shared → Prop} {s : Shared} {env : Env} {x : PySem.Expr} {pos : Pos} {Q : Flow → Shared → Prop} (hh : A.handled = none)
    (h : wpAny (model prog w) A (eval x env) (RaisableD E) E s) : wpAny (model prog w) A (exec (.Raise (some x) none pos) env) Q E s := by
  show wpAny (model prog w) A (do standAt pos; raiseStmt env (some (do let v ← eval x env; standAt pos; pure v)) none) Q E s
  refine wpAny_bind (wpAny_standAt ?_)
  unfold raiseStmt
  refine wpAny_bind (wpAny_bind (wpAny_mono h (fun v s₁ h₁ => wpAny_bind (wpAny_standAt (wpAny_pure ?_))) fun _ _ x => x))
  obtain ⟨K, e, d, C, ts, rfl, X, hx, he, hE⟩ := h₁
  obtain ⟨nm, q, N, bs, bm, hdct, sn, sub, ab, col, dd', k0, k1, k2, k3, k5, hC, hB, hcE, hcA, hcN⟩ := excOwn_cls X hx
  have hcB : (Value.ref C :: bm).contains (.type "BaseException") = true := by rw [List.contains_cons, hB, Bool.or_true]
  obtain ⟨hp, g, dr, tk, os⟩ := s₁
  repeat (first | with_reducible refine wpAny_loadPart_at he ?_ | with_reducible refine wpAny_loadPart_at hC ?_ | (with_reducible refine wpAny_isSubtype_exc hC ?_; rw [hcB]) | wp_step)
  exact wpAny_raiseNew_none hh hE

theorem mk_raise {w : World} {mean : ExcName → Option Value} {mg mb : Str → Option Value} {dp un : Nat} {gd : Option (List Code)} {cn : Str} {cs : Scope} {a : Addr} {ccd : Value} {cl : List (Str × Addr)} {outer : List Env} {A₀ : Around} {base h₀ : Heap} {L : Addr} {m : Str → Option Value} {s : Shared} {E E' : Value → Shared → Prop}
    {C : Addr} {msg : Str} {tm : Tok} {news : List (Addr × Obj)} {cd : ClassData}
    (B : Below A₀ base outer h₀) (F : Fr h₀ L s.heap m) (X : (hd.heap_39 w.params).In h₀) (N : News h₀ L s.heap news) (T : Top hd.view_39 (looseW hd.view_39 []) mean mg mb h₀) (hk : cs.kind = .function)
    (hC : excOwn (hd.heap_39 w.params) C = true) (hi : findIn (hd.heap_39 w.params) (.ref C) "__init__" = some (some (.ref 35)))
    (hc : clsIn (hd.heap_39 w.params) C = some cd) (hdct : cd.hasDict = true) (hpass : ∀ v, refuseLoop v "__setattr__" cd.mro = pure ())
    (hob : mroIn (hd.heap_39 w.params) C (.type "object") = some true) (hs : findIn (hd.heap_39 w.params) (.ref C) "__setattr__" = some (some (.builtin "object.__setattr__"))) (hna : findIn (hd.heap_39 w.params) (.ref C) "message" = some none)
    (hdp : dp + 2 < recursionLimit) (hu : un + 16 < cLine)
    (ret : ∀ (e d : Addr) (ts : Value) (od : Obj) (h' : Heap) (tk' : Nat), MsgD od (.str msg tm) → Fr h₀ L h' m → News h₀ L h' ((e, ⟨.ref C, some d, .fields #[ts, .none, .none, .none, .bool false, .none], #[]⟩) :: (d, od) :: news) → E (.ref e) { s with heap := h', toks := tk' }) :
    wpAny (model PySem.Challenge.rw_xm0816_01.row.prog w) (ktrTop dp un gd cn cs L a ccd cl outer) (call (.ref C) [.str msg tm]) (RaisableD E) E' s :=
  mk_exc X hC hi hc hdct hpass hob hs hna B F N T hk hdp hu fun e d ts od h' tk' M' F' N' => ⟨_, e, d, C, ts, rfl, X.keeps F'.keep, hC, (N' _ List.mem_cons_self).1, ret e d ts od h' tk' M' F' N'⟩

end
section
open PySem PySem.Spec PySem.Calls PySem.W PyProof.Rows

/-- a def that was entered over the whole heap g leaves: the frames' slots alone may have turned -/
def LeaveT (h₀ : Heap) (L : Addr) (m : Str → Option Value) (news : List (Addr × Obj)) (fs : List Addr) (g : Heap) (R : Result → Shared → Prop) (v : Value) (s' : Shared) : Prop :=
  ∃ g' L' m', KtsTurn fs g g' ∧ Fr g' L' s'.heap m' ∧ (Fr h₀ L s'.heap m → News h₀ L s'.heap news → R (.ok (.ret v)) s')

theorem leaveT_ {h₀ : Heap} {L : Addr} {m : Str → Option Value} {news : List (Addr × Obj)} {fs : List Addr} {g g' : Heap} {R : Result → Shared → Prop} {v : Value} {s' : Shared} {L' : Addr} {m' : Str → Option Value} (T : KtsTurn fs g g') (F : Fr g' L' s'.heap m')
    (k : Fr h₀ L s'.heap m → News h₀ L s'.heap news → R (.ok (.ret v)) s') : LeaveT h₀ L m news fs g R v s' := ⟨g', L', m', T, F, k⟩
section
variable {prog : Program} {w : World} {A₀ A : Around} {s : Shared} {base h₀ : Heap} {env : Env} {L : Addr} {m : Str → Option Value} {news : List (Addr × Obj)} {K : Frag} {p : Program} {loose : List Str} {mean : ExcName → Option Value} {mg mb : Str → Option Value}
    {R : Result → Shared → Prop} {name qual : Str} {params : Arguments} {body : List Stmt} {scope : Scope} {dV kV doc pm cdv ct oc : Value} {an od : Option Addr} {osl : Array (Option Value)} {f : Addr} {args : Args} {binds : List (Str × Value)}

theorem back_T {g' : Heap} {L' : Addr} {m' : Str → Option Value} {s' : Shared} (F : Fr h₀ L s.heap m) (N : News h₀ L s.heap news) (T' : KtsTurn [L] s.heap g') (F' : Fr g' L' s'.heap m') : Fr h₀ L s'.heap m ∧ News h₀ L s'.heap news := by
  obtain ⟨oL, es, ep, hL, hLd, hLk, hLf⟩ := F.ns
  obtain ⟨sl, hs⟩ := T'.up hL
  refine ⟨⟨⟨_, es, ep, F'.keep _ _ hs, hLd, hLk, hLf⟩, fun b o e => F'.keep b o (T'.other b o (F.keep b o e) fun q => ?_), F.above⟩, fun p hp => ⟨F'.keep _ _ (T'.other _ _ (N p hp).1 fun q => (N p hp).2.1 (List.mem_singleton.mp q)), (N p hp).2⟩⟩
  rw [List.mem_singleton.mp q, kts_self F] at e
  cases e

theorem enter_T (B : Below A₀ base [] h₀) (F : Fr h₀ L s.heap m) (X₀ : K.In h₀) (N : News h₀ L s.heap news) (T : Top p loose mean mg mb h₀) (hA : A.frames = some [env]) (hf : env.frame = some L) (hke : env.scope.kind = .function)
    (ho : K.lookup f = some ⟨oc, od, .func (fnOf name qual params body scope dV kV doc pm an cdv ct), osl⟩) (hcd : codeIn K cdv qual = true) (hroom : A.depth < recursionLimit)
    (hbind : BindsTo s (fnOf name qual params body scope dV kV doc pm an cdv ct) args binds) (hloc : ∀ y ∈ binds, scope.names.lookup y.1 = some .local)
    (h : ∀ g L' h₁, g = s.heap → Fr h₀ L g m → Fr g L' h₁ (fun y => binds.reverse.lookup y) → News g L' h₁ [] → Below A base [env] g → K.In g → Top p loose mean mg mb g → KtsDicts ([env].filterMap (·.frame)) g →
      wpAny (model prog w) (A.deeper (envOf qual scope L' f cdv)) (execs body (envOf qual scope L' f cdv))
        (fun fl s' => LeaveT h₀ L m news ([env].filterMap (·.frame)) g R (match fl with | .ret v => v | _ => .none) s')
        (fun e s' => wpAny (model prog w) (A.deeper (envOf qual scope L' f cdv)) (leaving (envOf qual scope L' f cdv) e) (fun _ s'' => R (.error e) s'') (fun e' s'' => R (.error e') s'') s')
        { s with heap := h₁, toks := s.toks + binds.length })
    (hco : scope.isCoroutine = false) (hgen : scope.isGenerator = false) (hk : scope.kind = .function)
    (hcell : ∀ x ∈ scope.names, x.2 ≠ .cell) : codeAny (model prog w) A (.call (.ref f) args) R s := by
  have X := X₀.keeps F.keep
  have hfs : [env].filterMap (·.frame) = [L] := by simp [hf]
  obtain ⟨oL, es, ep, hL, hLd, hLk, hLf⟩ := F.ns
  have nL : base.get? L = none := kts_none B.stays (kts_self F)
  have B₂ : Below A base [env] s.heap := ⟨hA, fun b o e => F.keep b o (B.stays b o e), by rw [hke]; decide, ⟨L, oL, hf, nL, hL, fun vs q => by rw [hLd] at q; cases q⟩, trivial⟩
  refine codeAny_call_def (fd := fnOf name qual params body scope dV kV doc pm an cdv ct) (body := body) (binds := binds) hroom (X _ _ ho) rfl (T.nolimit.keeps F.keep) (codeRec_of X hcd) rfl hbind hcell hloc (fun h₁ hns hk₁ => ?_) hco hgen hk
  refine wpAny_mono (h s.heap s.heap.objs.size h₁ rfl F ⟨hns, hk₁, Nat.le_refl _⟩ News.nil B₂ X (T.keeps F.keep) (fun b hb => by
    rw [hfs] at hb
    rw [List.mem_singleton.mp hb]
    exact ⟨oL, es, ep, hL, hLd⟩)) (fun fl s' hl => ?_) fun _ _ y => y
  obtain ⟨g', L', m', T', F', k⟩ := hl
  rw [hfs] at T'
  obtain ⟨a, b⟩ := back_T F N T' F'
  exact k a b
end

end
section
open PySem PySem.Spec PySem.Calls PySem.W PyProof.Rows
theorem pass63 : ∀ v, refuseLoop v "__setattr__" [.ref 63, .ref 38, .type "Exception", .type "BaseException", .type "object"] = pure () := fun v => by
  rw [refuseLoop_ref, refuseLoop_ref]
  exact PySem.F.store_Exception.passes v
theorem pass51 : ∀ v, refuseLoop v "__setattr__" [.ref 51, .ref 38, .type "Exception", .type "BaseException", .type "object"] = pure () := fun v => by
  rw [refuseLoop_ref, refuseLoop_ref]
  exact PySem.F.store_Exception.passes v
theorem told_kind1 {p a b c e : Int} (h : ¬ 1 ≤ a) : toldF p a b c e = kindS := by unfold toldF; rw [if_neg (fun q => h q.1.1)]
theorem told_kind2 {p a b c e : Int} (h : ¬ a ≤ 7) : toldF p a b c e = kindS := by unfold toldF; rw [if_neg (fun q => h q.1.2)]
theorem told_kind3 {p a b c e : Int} (h : b ≠ 0) : toldF p a b c e = kindS := by unfold toldF; rw [if_neg (fun q => h q.2.1)]
theorem told_kind4 {p a b c e : Int} (h : c ≠ 0) : toldF p a b c e = kindS := by unfold toldF; rw [if_neg (fun q => h q.2.2)]
theorem told_point1 {p a b c e : Int} (h1 : 1 ≤ a) (h2 : a ≤ 7) (h3 : b = 0) (h4 : c = 0) (h : ¬ 0 ≤ e) : toldF p a b c e = pointS := by unfold toldF; rw [if_pos ⟨⟨h1, h2⟩, h3, h4⟩, if_neg (fun q => h q.1)]
theorem told_point2 {p a b c e : Int} (h1 : 1 ≤ a) (h2 : a ≤ 7) (h3 : b = 0) (h4 : c = 0) (h : ¬ e < p) : toldF p a b c e = pointS := by unfold toldF; rw [if_pos ⟨⟨h1, h2⟩, h3, h4⟩, if_neg (fun q => h q.2)]
theorem told_nil {p a b c e : Int} (h1 : 1 ≤ a) (h2 : a ≤ 7) (h3 : b = 0) (h4 : c = 0) (h5 : 0 ≤ e) (h6 : e < p) : toldF p a b c e = "" := by unfold toldF; rw [if_pos ⟨⟨h1, h2⟩, h3, h4⟩, if_pos ⟨h5, h6⟩]
theorem ne1 {a b : Nat} {P : Prop} (h : b < a ∧ P) : @Ne Nat a b := Nat.ne_of_gt h.1
theorem ne2 {a b x1 : Nat} {P : Prop} (h : x1 < a ∧ b < a ∧ P) : @Ne Nat a b := Nat.ne_of_gt h.2.1
theorem ne3 {a b x1 x2 : Nat} {P : Prop} (h : x1 < a ∧ x2 < a ∧ b < a ∧ P) : @Ne Nat a b := Nat.ne_of_gt h.2.2.1
theorem ne4 {a b x1 x2 x3 : Nat} {P : Prop} (h : x1 < a ∧ x2 < a ∧ x3 < a ∧ b < a ∧ P) : @Ne Nat a b := Nat.ne_of_gt h.2.2.2.1
theorem ne5 {a b x1 x2 x3 x4 : Nat} {P : Prop} (h : x1 < a ∧ x2 < a ∧ x3 < a ∧ x4 < a ∧ b < a ∧ P) : @Ne Nat a b := Nat.ne_of_gt h.2.2.2.2.1
theorem ne6 {a b x1 x2 x3 x4 x5 : Nat} {P : Prop} (h : x1 < a ∧ x2 < a ∧ x3 < a ∧ x4 < a ∧ x5 < a ∧ b < a ∧ P) : @Ne Nat a b := Nat.ne_of_gt h.2.2.2.2.2.1
theorem ne7 {a b x1 x2 x3 x4 x5 x6 : Nat} {P : Prop} (h : x1 < a ∧ x2 < a ∧ x3 < a ∧ x4 < a ∧ x5 < a ∧ x6 < a ∧ b < a ∧ P) : @Ne Nat a b := Nat.ne_of_gt h.2.2.2.2.2.2.1
theorem ne8 {a b x1 x2 x3 x4 x5 x6 x7 : Nat} {P : Prop} (h : x1 < a ∧ x2 < a ∧ x3 < a ∧ x4 < a ∧ x5 < a ∧ x6 < a ∧ x7 < a ∧ b < a ∧ P) : @Ne Nat a b := Nat.ne_of_gt h.2.2.2.2.2.2.2.1
theorem nl2 {a b x1 : Nat} (h : x1 < a ∧ b < a) : @Ne Nat a b := Nat.ne_of_gt h.2
theorem nl3 {a b x1 x2 : Nat} (h : x1 < a ∧ x2 < a ∧ b < a) : @Ne Nat a b := Nat.ne_of_gt h.2.2
theorem nl4 {a b x1 x2 x3 : Nat} (h : x1 < a ∧ x2 < a ∧ x3 < a ∧ b < a) : @Ne Nat a b := Nat.ne_of_gt h.2.2.2
theorem nl5 {a b x1 x2 x3 x4 : Nat} (h : x1 < a ∧ x2 < a ∧ x3 < a ∧ x4 < a ∧ b < a) : @Ne Nat a b := Nat.ne_of_gt h.2.2.2.2
theorem nl6 {a b x1 x2 x3 x4 x5 : Nat} (h : x1 < a ∧ x2 < a ∧ x3 < a ∧ x4 < a ∧ x5 < a ∧ b < a) : @Ne Nat a b := Nat.ne_of_gt h.2.2.2.2.2
theorem nl7 {a b x1 x2 x3 x4 x5 x6 : Nat} (h : x1 < a ∧ x2 < a ∧ x3 < a ∧ x4 < a ∧ x5 < a ∧ x6 < a ∧ b < a) : @Ne Nat a b := Nat.ne_of_gt h.2.2.2.2.2.2
abbrev ent (P : Params) (n : Str) (t : Tok) (v : Value) : DictEntry := { hash := PyData.keyHash P n, key := .str n t, val := v }
abbrev scanD (P : Params) (v0 v1 v2 v3 v4 v5 v6 : Value) (t0 t1 t2 t3 t4 t5 t6 : Tok) : Obj := dictOf [ent P "places" t0 v0, ent P "dc_slots" t1 v1, ent P "ac_slots" t2 v2, ent P "start" t3 v3, ent P "end" t4 v4, ent P "high" t5 v5, ent P "low" t6 v6] 7
abbrev frameD (P : Params) (v0 v1 v2 v3 v4 v5 : Value) (t0 t1 t2 t3 t4 t5 : Tok) : Obj := dictOf [ent P "kind" t0 v0, ent P "precision" t1 v1, ent P "height" t2 v2, ent P "width" t3 v3, ent P "components" t4 v4, ent P "n" t5 v5] 6

theorem words1 : True := by
  k_with_none
  k_with "k_room" => ktr_room
  k_with "k_ne" => (refine neN ?_; (try dsimp only); first | with_reducible assumption | exact Ne.symm (by with_reducible assumption) | exact Nat.ne_of_gt (by with_reducible assumption) | exact Nat.ne_of_lt (by with_reducible assumption) | k_extra "ne in" | exact Ne.symm (by k_extra "ne in"))
  k_with "ne in" => first | exact ne1 (by with_reducible assumption) | exact ne2 (by with_reducible assumption) | exact ne3 (by with_reducible assumption) | exact ne4 (by with_reducible assumption) | exact ne5 (by with_reducible assumption) | exact ne6 (by with_reducible assumption) | exact ne7 (by with_reducible assumption) | exact ne8 (by with_reducible assumption) | exact nl2 (by with_reducible assumption) | exact nl3 (by with_reducible assumption) | exact nl4 (by with_reducible assumption) | exact nl5 (by with_reducible assumption) | exact nl6 (by with_reducible assumption) | exact nl7 (by with_reducible assumption)
  k_with "exec Raise some none" => (k_here; k_dflt (refine raise_D (by with_unfolding_all rfl) ?_))
  k_with "call ref" => (k_here; (with_reducible show wpAny _ _ (call (Value.ref _) [Value.str _ _]) (RaisableD _) _ _); k_dflt (refine mk_raise (by k_asm) (by k_asm) (by k_asm) (by k_asm) (by k_asm) (by first | exact rfl | assumption) (by kernel_rfl) (by k_is) (by k_is) (by rfl) (by first | exact pass63 | exact pass51) (by k_is) (by k_is) (by k_is) (by ktr_room) (by ktr_units) ?_); intro e' d' ts' od' h' tk' M' F' N')
  k_with "leaving ref" => (k_here; (rename MsgD _ _ => mM); (refine leave_D (by assumption) (by assumption) (by assumption) (by k_mem) (by k_mem) (MsgD.dict mM) (by rfl) ?_); intro h' R' U'; (try dsimp only at R' U' ⊢))
  trivial

/-- check_lossless_scan over a frame and a scan: it ends, or a ScanError leaves it -/
theorem chk_spec {w : World} {mean : ExcName → Option Value} {mg mb : Str → Option Value} {dp un : Nat} {gd : Option (List Code)} {cn : Str} {cs : Scope} {a : Addr} {ccd : Value} {outer : List Env} {A₀ : Around} {base h₀ : Heap} {L : Addr} {m : Str → Option Value} {s : Shared} {Q E : Value → Shared → Prop}
    {fr fd sc sd : Addr} {p st en hi lo : Int} {tp ta tb tc td : Tok} {f0 f2 f3 f4 f5 v0 v1 v2 : Value} {t0 t1 t2 t3 t4 t5 u0 u1 u2 u3 u4 u5 u6 : Tok}
    (B : Below A₀ base outer h₀) (F : Fr h₀ L s.heap m) (X : (hd.heap_39 w.params).In h₀) (N : News h₀ L s.heap [(sc, instObj 204 sd), (sd, scanD w.params v0 v1 v2 (.int st ta) (.int en tb) (.int hi tc) (.int lo td) u0 u1 u2 u3 u4 u5 u6), (fr, instObj 169 fd), (fd, frameD w.params f0 (.int p tp) f2 f3 f4 f5 t0 t1 t2 t3 t4 t5)])
    (T : Top hd.view_39 (looseW hd.view_39 []) mean mg mb h₀) (XB : (hd.heap_39 w.params).In base) (TB : Top hd.view_39 (looseW hd.view_39 []) mean mg mb base) (D : KtsDicts (outer.filterMap (·.frame)) h₀) (hk : cs.kind = .function)
    (hdp : dp + 3 < recursionLimit) (hu : un + 24 < cLine)
    (ret : ∀ h' tk', toldF p st en hi lo = "" → Fr h₀ L h' m → Q .none { s with heap := h', toks := tk' })
    (exc : ∀ v tm e d od h' tk' G, toldF p st en hi lo = v → MsgD od (.str v tm) → Fr h₀ L G m → G.UpToSlots h' → RaisedD base G (envOf cn cs L a ccd :: outer) e (.ref 63) d od h' → E (.ref e) { s with heap := h', toks := tk' }) :
    wpAny (model PySem.Challenge.rw_xm0816_01.row.prog w) (ktrTop dp un gd cn cs L a ccd [] outer) (call (.ref 72) [.ref fr, .ref sc]) Q E s := by
  revert X
  k_fill
  intro X
  refine wpAny_call ?_
  k_dflt (refine code_defS (by k_asm) (by k_asm) (by k_asm) (by k_asm) (by k_asm) (by assumption) (by assumption) (by assumption) KtsTurn.refl (by exact rfl) (by k_is) (by k_is) (by ktr_room) (by exact BindsTo.of_eq rfl) (by exact locs rfl) ?_ hk (by exact rfl) (by exact rfl) (by exact rfl) (by decide); intro g' L' h' FG' F' N' B' X' T' D'; (try dsimp only); (try k_lift B'); (try k_fold))
  k_steps
  all_goals first
    | exact ret _ _ (told_nil (by assumption) (by assumption) (by assumption) (by assumption) (by assumption) (by assumption)) (by assumption)
    | exact exc _ _ _ _ _ _ _ _ (by first
        | exact told_kind1 (by with_reducible assumption)
        | exact told_kind2 (by with_reducible assumption)
        | exact told_kind3 (by with_reducible assumption)
        | exact told_kind4 (by with_reducible assumption)
        | exact told_point1 (by with_reducible assumption) (by with_reducible assumption) (by with_reducible assumption) (by with_reducible assumption) (by with_reducible assumption)
        | exact told_point2 (by with_reducible assumption) (by with_reducible assumption) (by with_reducible assumption) (by with_reducible assumption) (by with_reducible assumption)) (by assumption) (by assumption) (by assumption) (by assumption)

end
section
open PySem PySem.Spec PySem.Calls PySem.W PyProof.Rows
theorem allLt_ne {d : Addr} : ∀ {l : List (Addr × Obj)}, AllLt d l → ∀ p ∈ l, p.1 ≠ d
  | [], _, _, h => nomatch h
  | _ :: _, x, p, h => by
    rcases List.mem_cons.mp h with rfl | h
    · exact Nat.ne_of_lt x.1
    · exact allLt_ne x.2 p h
local macro_rules | `(tactic| k_all) => `(tactic| exact allLt_ne (by assumption))
theorem words8 : True := by
  k_with_none
  k_with "k_room" => ktr_room
  trivial
theorem scan_spec {w : World} {mean : ExcName → Option Value} {mg mb : Str → Option Value} {dp un : Nat} {gd : Option (List Code)} {cn : Str} {cs : Scope} {a : Addr} {ccd : Value} {outer : List Env} {A₀ : Around} {base h₀ : Heap} {L : Addr} {m : Str → Option Value} {s : Shared} {Q E : Value → Shared → Prop}
    {v0 v1 v2 v3 v4 v5 v6 : Value} {rest : List (Addr × Obj)}
    (B : Below A₀ base outer h₀) (F : Fr h₀ L s.heap m) (X : (hd.heap_39 w.params).In h₀) (N : News h₀ L s.heap rest) (T : Top hd.view_39 (looseW hd.view_39 []) mean mg mb h₀) (hk : cs.kind = .function)
    (hdp : dp + 3 < recursionLimit) (hu : un + 24 < cLine)
    (ret : ∀ x d t0 t1 t2 t3 t4 t5 t6 h' tk', Fr h₀ L h' m → News h₀ L h' ((x, instObj 204 d) :: (d, scanD w.params v0 v1 v2 v3 v4 v5 v6 t0 t1 t2 t3 t4 t5 t6) :: rest) → Q (.ref x) { s with heap := h', toks := tk' }) :
    wpAny (model PySem.Challenge.rw_xm0816_01.row.prog w) (ktrTop dp un gd cn cs L a ccd [] outer) (call (.ref 204) [v0, v1, v2, v3, v4, v5, v6]) Q E s := by
  revert X
  k_fill
  intro X
  k_dflt (refine call_cls (by k_asm) (by k_asm) (by k_asm) (by k_is) (by k_is) (by k_is) ?_; intro x' d' h' F' N' l1 l2; (try k_lt l1); (try k_lt2 l2); cell_enter)
  k_steps
  exact ret _ _ _ _ _ _ _ _ _ _ _ (by assumption) (by assumption)

end
section
open PySem PySem.Spec PySem.Calls PySem.W PyProof.Rows
theorem list_at {h₀ h : Heap} {L l : Addr} {news : List (Addr × Obj)} {vs : List Value} {nn : Nat} (N : News h₀ L h news) (M : (l, W.listOf vs.toArray nn) ∈ news) : h.IsList l vs.toArray := ⟨_, (N _ M).1, rfl, _, rfl⟩
theorem exc_get_K {prog : Program} {w : World} {A : Around} {E : Value → Shared → Prop} {s : Shared} {K : Frag} {C e d L : Addr} {h₀ : Heap} {m : Str → Option Value} {rest : List (Addr × Obj)} {od : Obj} {vs : Array Value} {sl : Array (Option Value)} {msg : Str} {tm : Tok} {cd : ClassData} {expr : Bool} {Q : Value → Shared → Prop}
    (M : MsgD od (.str msg tm)) (F : Fr h₀ L s.heap m) (N : News h₀ L s.heap ((e, ⟨.ref C, some d, .fields vs, sl⟩) :: (d, od) :: rest)) (X : K.In h₀) (hc : clsIn K C = some cd) (hdct : cd.hasDict = true)
    (hb : mroIn K C (.type "BaseException") = some true)
    (hg : findIn K (.ref C) "__getattribute__" = some (some (.builtin "BaseException.__getattribute__"))) (hga : findIn K (.ref C) "__getattr__" = some none) (hna : findIn K (.ref C) "message" = some none)
    (hq : Q (.str msg tm) { s with toks := s.toks + 1 }) :
    wpAny (model prog w) A (getAttr (.ref e) "message" expr) Q E s :=
  exc_get (X.keeps F.keep) hc hdct hb hg hga hna (N _ List.mem_cons_self).1 (M.ns (N _ (List.mem_cons_of_mem _ List.mem_cons_self)).1) (if_pos rfl) rfl hq
open LCg in
/-- a comprehension over a range whose turns leave nothing that is asked for later -/
theorem comp_all {prog : Program} {w : World} {A : Around} {h₀ : Heap} {L : Addr} {m : Str → Option Value} {env : Env} {elt : PySem.Expr} {x : Str} {scope : Scope} {cl : List (Str × Addr)} {s : Shared} {a0 : Int} {Fin : List Value → List (Addr × Obj) → Prop}
    (fin : ∀ ys, Fin ys [])
    (step : ∀ (i : Nat) ys t I oI C oC D m₂ h tk (E' : Value → Shared → Prop) (rest : Value → List (Addr × Obj) → Prop), (∀ y, rest y []) → NsObj oC m₂ → m₂ x = some (.int (a0 + (i : Int)) t) → Fr h₀ L h m → News h₀ L h [(I, oI), (C, oC), (D, lst ys)] → ((@Ne Nat I C) ∧ (@Ne Nat I D) ∧ (@Ne Nat C D)) →
      wpAny (model prog w) A (eval elt (compEnvC scope cl C env)) (CompEnd h₀ L m { s with heap := h, toks := tk } I oI C oC D (lst ys) (fun _ => True) rest) E' { s with heap := h, toks := tk }) :
    ∀ n i ys, CompRest prog w A h₀ L m env elt x scope cl s (fun _ => True) (fun i v => ∃ t, v = .int (a0 + (i : Int)) t) Fin n i ys [] := by
  intro n
  induction n with
  | zero => exact fun i ys => CompRest.zero (fin ys)
  | succ n ih => exact fun i ys => CompRest.succ fun v I oI C oC D m₂ h tk E' ⟨t, e⟩ hC hx F N _ ne => step i ys t I oI C oC D m₂ h tk E' _ (fun y => ih (i + 1) (ys ++ [y])) hC (e ▸ hx) F N ne
theorem news_none {h₀ h : Heap} {L : Addr} {m : Str → Option Value} (_ : Fr h₀ L h m) : News h₀ L h [] := News.nil
theorem news4 {H h : Heap} {L : Addr} {l : List (Addr × Obj)} {a b c d : Addr × Obj} (N : News H L h l) (ma : a ∈ l) (mb : b ∈ l) (mc : c ∈ l) (md : d ∈ l) : News H L h [a, b, c, d] := fun p hp => by
  simp only [List.mem_cons, List.not_mem_nil, or_false] at hp
  rcases hp with rfl | rfl | rfl | rfl
  · exact N _ ma
  · exact N _ mb
  · exact N _ mc
  · exact N _ md
theorem smallN {n : Nat} (h : n ≤ 3) : Builtin.Range.small 0 (n : Int) 1 = true := by
  obtain rfl | rfl | rfl | rfl : n = 0 ∨ n = 1 ∨ n = 2 ∨ n = 3 := by omega
  all_goals decide
theorem sizeN {n : Nat} (h : n ≤ 3) : Builtin.Range.rangeSize 0 (n : Int) 1 = ((n : Nat) : Int) := by
  obtain rfl | rfl | rfl | rfl : n = 0 ∨ n = 1 ∨ n = 2 ∨ n = 3 := by omega
  all_goals decide
theorem lineN {n : Nat} (h : n ≤ 3) : n ≤ sizeLine := by rw [PySem.sizeLine_eq]; omega

/-- _law_told: its statements and its scope -/
def toldFn : List Stmt × Scope := match PySem.Challenge.rw_xm0816_01.row.prog.main.body.find? fun s => match s with | .FunctionDef n _ _ _ _ _ _ _ _ _ => decide (n = ("_law_told" : Str)) | _ => false with
  | some (.FunctionDef _ _ b _ _ _ sc _ _ _) => (b, sc)
  | _ => ([], default)
theorem fr_name {H h : Heap} {L : Addr} {m : Str → Option Value} {x : Str} {v : Value} (F : Fr H L h m) (e : m x = some v) : Fr H L h (fun y => if y = x then some v else m y) := by
  have q : m = (fun y => if y = x then some v else m y) := by
    funext y
    by_cases h : y = x
    · rw [if_pos h, h, e]
    · rw [if_neg h]
  exact q ▸ F
theorem words2 : True := by
  k_with_none
  k_with "k_room" => ktr_room
  k_with "k_ne" => (refine neN ?_; (try dsimp only); first | with_reducible assumption | exact Ne.symm (by with_reducible assumption) | exact Nat.ne_of_gt (by with_reducible assumption) | exact Nat.ne_of_lt (by with_reducible assumption) | k_extra "ne in" | exact Ne.symm (by k_extra "ne in"))
  k_with "ne in" => first | exact ne1 (by with_reducible assumption) | exact ne2 (by with_reducible assumption) | exact ne3 (by with_reducible assumption) | exact ne4 (by with_reducible assumption) | exact ne5 (by with_reducible assumption) | exact ne6 (by with_reducible assumption) | exact ne7 (by with_reducible assumption) | exact ne8 (by with_reducible assumption) | exact nl2 (by with_reducible assumption) | exact nl3 (by with_reducible assumption) | exact nl4 (by with_reducible assumption) | exact nl5 (by with_reducible assumption) | exact nl6 (by with_reducible assumption) | exact nl7 (by with_reducible assumption)
  k_with "mine N" => exact news4 (by k_asm) (by kcj_m) (by kcj_m) (by kcj_m) (by kcj_m)
  k_with "CompSrc" => (k_dflt (refine LCg.CompSrc.range (by rfl) (by k_asm) (by k_asm) (by assumption) (smallN (by first | assumption | simp only [List.size_toArray]; assumption)) (sizeN (by first | assumption | simp only [List.size_toArray]; assumption)) (lineN (by first | assumption | simp only [List.size_toArray]; assumption)) ?_); intro g'; k_dflt (refine comp_all (fun ys => ?_) (fun i ys t I oI C oC D m₂ h tk E' rest hr hC hx F N ne => ?_) _ _ _))
  k_with "FinA" => (unfold LCg.FinA; intro D' h' tk' F' N' o1'; clear o1' N'; have N' := news_none F'; (try dsimp only))
  k_with "CompEnd" => exact LCg.CompEnd.intro (by assumption) (by assumption) [] (by lcg_sub) (by lcg_off) trivial (hr _)
  k_with "LeaveT" => (k_dflt (refine leaveT_ (by first | assumption | exact KtsTurn.refl) (by k_asm) ?_); intro kF kN)
  k_with "getAttr ref" => (k_here; (rename MsgD _ _ => mM); k_dflt (refine exc_get_K mM (by k_asm) (by k_asm) (by k_asm) (by k_is) (by rfl) (by k_is) (by k_is) (by k_is) (by k_is) ?_))
  k_with "noteFrame ref" => (k_here; (rename RaisedD _ _ _ _ _ _ _ _ => rX); k_dflt (refine caught_D rX (by assumption) (by assumption) (by assumption) (by assumption) (by assumption) (by assumption) (by k_is) (by kts_isx) ?_); intro h' g' tk' vs' sl' T' F' N' K' X' P' D'; (try k_lift K'))
  k_with "call ref" => (k_here; (with_reducible show wpAny _ _ (call (Value.ref 72) [Value.ref _, Value.ref _]) _ _ _); k_dflt (refine chk_spec (by k_asm) (by k_asm) (by k_asm) (by k_extra "mine N") (by k_asm) (by assumption) (by assumption) (by assumption) (by first | exact rfl | assumption) (by ktr_room) (by ktr_units) ?_ ?_); (first | (intro h' tk' hv' F') | (intro v' tm' e' d' od' h' tk' G' hv' M' FG' U' R'; dsimp only)))
  k_with "call ref" => (k_here; (with_reducible show wpAny _ _ (call (Value.ref 204) [_, _, _, _, _, _, _]) _ _ _); k_dflt (refine scan_spec (by k_asm) (by k_asm) (by k_asm) (by k_asm) (by k_asm) (by first | exact rfl | assumption) (by ktr_room) (by ktr_units) ?_); intro x' d' t0' t1' t2' t3' t4' t5' t6' h' tk' F' N')
  trivial
theorem told_c {w : World} {mean : ExcName → Option Value} {mg mb : Str → Option Value} {dp un : Nat} {gd : Option (List Code)} {cn : Str} {cs : Scope} {a : Addr} {ccd : Value} {cl : List (Str × Addr)} {base g' : Heap} {L L' : Addr} {m₁ : Str → Option Value} {s : Shared} {Q : Flow → Shared → Prop} {E : Value → Shared → Prop}
    {sl nl fr fd : Addr} {p n0 n1 n2 n3 : Int} {tp q0 q1 q2 q3 : Tok} {vs : List Value} {ns : List Int} {f0 f2 f3 f4 f5 : Value} {t0 t1 t2 t3 t4 t5 : Tok}
    (B' : Below (ktrTop dp un gd cn cs L a ccd cl []) base [envX cn cs L a ccd cl] g') (X : (hd.heap_39 w.params).In g') (T' : Top hd.view_39 (looseW hd.view_39 []) mean mg mb g') (XB : (hd.heap_39 w.params).In base) (TB : Top hd.view_39 (looseW hd.view_39 []) mean mg mb base)
    (D' : KtsDicts ([envX cn cs L a ccd cl].filterMap (·.frame)) g') (hdp : dp + 4 < recursionLimit) (hu : un + 32 < cLine)
    (F : Fr g' L' s.heap (fun y => if y = ("slots" : Str) then some (.ref sl) else if y = ("numbers" : Str) then some (.ref nl) else if y = ("frame" : Str) then some (.ref fr) else m₁ y)) (N : News g' L' s.heap [(fr, instObj 169 fd), (fd, frameD w.params f0 (.int p tp) f2 f3 f4 f5 t0 t1 t2 t3 t4 t5)])
    (hSl : g'.IsList sl vs.toArray) (hNl : g'.IsList nl [Value.int n0 q0, Value.int n1 q1, Value.int n2 q2, Value.int n3 q3].toArray) (hI : IntsAre vs ns) (hn2 : ns.length ≤ 3) (hN3 : vs.length ≤ 3)
    (ret : ∀ v t h' tk' g'' m'', toldF p n0 n1 n2 n3 = v → KtsTurn ([envX cn cs L a ccd cl].filterMap (·.frame)) g' g'' → Fr g'' L' h' m'' → Q (.ret (.str v t)) { s with heap := h', toks := tk' }) :
    wpAny (model PySem.Challenge.rw_xm0816_01.row.prog w) ((ktrTop dp un gd cn cs L a ccd cl []).deeper (envOf "_law_told" toldFn.2 L' 234 (.ref 233))) (execs (toldFn.1.drop 2) (envOf "_law_told" toldFn.2 L' 234 (.ref 233))) Q E s := by
  conv in (occs := *) (List.drop _ _) => all_goals whnf
  conv in (occs := *) (Prod.snd toldFn) => all_goals whnf
  revert X
  k_fill
  intro X
  k_steps
  all_goals (exact ret _ _ _ _ _ _ (by assumption) (by first | assumption | exact KtsTurn.refl) (by assumption))

theorem told_b {w : World} {mean : ExcName → Option Value} {mg mb : Str → Option Value} {dp un : Nat} {gd : Option (List Code)} {cn : Str} {cs : Scope} {a : Addr} {ccd : Value} {cl : List (Str × Addr)} {base g' : Heap} {L L' : Addr} {m₁ : Str → Option Value} {s : Shared} {Q : Flow → Shared → Prop} {E : Value → Shared → Prop}
    {sl nl cx : Addr} {p n0 n1 n2 n3 : Int} {tp q0 q1 q2 q3 : Tok} {vs : List Value} {ns : List Int}
    (B' : Below (ktrTop dp un gd cn cs L a ccd cl []) base [envX cn cs L a ccd cl] g') (X : (hd.heap_39 w.params).In g') (T' : Top hd.view_39 (looseW hd.view_39 []) mean mg mb g') (XB : (hd.heap_39 w.params).In base) (TB : Top hd.view_39 (looseW hd.view_39 []) mean mg mb base)
    (D' : KtsDicts ([envX cn cs L a ccd cl].filterMap (·.frame)) g') (hdp : dp + 4 < recursionLimit) (hu : un + 32 < cLine)
    (F : Fr g' L' s.heap (fun y => if y = ("precision" : Str) then some (.int p tp) else if y = ("slots" : Str) then some (.ref sl) else if y = ("numbers" : Str) then some (.ref nl) else if y = ("components" : Str) then some (.ref cx) else m₁ y)) (N : News g' L' s.heap [])
    (hSl : g'.IsList sl vs.toArray) (hNl : g'.IsList nl [Value.int n0 q0, Value.int n1 q1, Value.int n2 q2, Value.int n3 q3].toArray) (hI : IntsAre vs ns) (hn2 : ns.length ≤ 3) (hN3 : vs.length ≤ 3)
    (ret : ∀ v t h' tk' g'' m'', toldF p n0 n1 n2 n3 = v → KtsTurn ([envX cn cs L a ccd cl].filterMap (·.frame)) g' g'' → Fr g'' L' h' m'' → Q (.ret (.str v t)) { s with heap := h', toks := tk' }) :
    wpAny (model PySem.Challenge.rw_xm0816_01.row.prog w) ((ktrTop dp un gd cn cs L a ccd cl []).deeper (envOf "_law_told" toldFn.2 L' 234 (.ref 233))) (execs (toldFn.1.drop 1) (envOf "_law_told" toldFn.2 L' 234 (.ref 233))) Q E s := by
  conv in (occs := *) (List.drop _ _) => all_goals whnf
  conv in (occs := *) (Prod.snd toldFn) => all_goals whnf
  revert X
  k_fill
  intro X
  k_with "execs cons" => (k_here; (with_reducible show wpAny _ _ (execs (Stmt.Assign [Expr.Tuple [Expr.Name (Str.ofString "places") _, _, _] _ _] _ _ :: _) _) _ _ _); k_dflt (refine told_c (by k_asm) (by k_asm) (by k_asm) (by assumption) (by assumption) (by assumption) hdp hu (fr_name (fr_name (fr_name (by k_asm) (by rfl)) (by rfl)) (by rfl)) (by assumption) hSl hNl hI hn2 hN3 ?_); exact fun v t h' tk' g'' m'' e T F => ret v t h' tk' g'' m'' e T F)
  k_steps

theorem told_spec {w : World} {mean : ExcName → Option Value} {mg mb : Str → Option Value} {dp un : Nat} {gd : Option (List Code)} {cn : Str} {cs : Scope} {a : Addr} {ccd : Value} {cl : List (Str × Addr)} {A₀ : Around} {base h₀ : Heap} {L : Addr} {m : Str → Option Value} {s : Shared} {Q E : Value → Shared → Prop}
    {sl nl : Addr} {p n0 n1 n2 n3 : Int} {tp t0 t1 t2 t3 : Tok} {news : List (Addr × Obj)} {nn nk : Nat} {vs : List Value} {ns : List Int}
    (B : Below A₀ base [] h₀) (F : Fr h₀ L s.heap m) (X : (hd.heap_39 w.params).In h₀) (N : News h₀ L s.heap news) (T : Top hd.view_39 (looseW hd.view_39 []) mean mg mb h₀) (XB : (hd.heap_39 w.params).In base) (TB : Top hd.view_39 (looseW hd.view_39 []) mean mg mb base) (hk : cs.kind = .function)
    (M1 : (sl, W.listOf vs.toArray nk) ∈ news) (M2 : (nl, W.listOf [Value.int n0 t0, Value.int n1 t1, Value.int n2 t2, Value.int n3 t3].toArray nn) ∈ news)
    (hdp : dp + 4 < recursionLimit) (hu : un + 32 < cLine)
    (hI : IntsAre vs ns) (hn : 0 < ns.length) (hn2 : ns.length ≤ 3)
    (ret : ∀ (v : Str) (t : Tok) (h' : Heap) (tk' : Nat), toldF p n0 n1 n2 n3 = v → Fr h₀ L h' m → News h₀ L h' news → Q (.str v t) { s with heap := h', toks := tk' }) :
    wpAny (model PySem.Challenge.rw_xm0816_01.row.prog w) (ktrTop dp un gd cn cs L a ccd cl []) (call (.ref 234) [.int p tp, .ref sl, .ref nl]) Q E s := by
  have hSl := list_at N M1
  have hNl := list_at N M2
  revert X
  k_fill
  intro X
  refine wpAny_call ?_
  k_dflt (refine enter_T (by k_asm) (by k_asm) (by k_asm) (by k_asm) (by k_asm) (by exact rfl) (by exact rfl) (by assumption) (by k_is) (by k_is) (by ktr_room) (by exact BindsTo.of_eq rfl) (by exact locs rfl) ?_ (by exact rfl) (by exact rfl) (by exact rfl) (by decide); intro g' L' h' hg FG' F' N' B' X' T' D'; (try dsimp only); (try k_lift B'); (try k_fold))
  rw [← hg] at hSl hNl
  have hN3 : vs.length ≤ 3 := by rw [hI.length]; exact hn2
  clear N F B
  k_with "execs cons" => (k_here; (with_reducible show wpAny _ _ (execs (Stmt.Assign [Expr.Name (Str.ofString "frame") _] _ _ :: _) _) _ _ _); k_dflt (refine told_b (by k_asm) (by k_asm) (by k_asm) (by assumption) (by assumption) (by assumption) hdp hu (fr_name (fr_name (fr_name (fr_name (by k_asm) (by rfl)) (by rfl)) (by rfl)) (by rfl)) (by assumption) hSl hNl hI hn2 hN3 ?_); exact fun v t h' tk' g'' m'' e T F => leaveT_ T F fun kF kN => ret v t h' tk' e kF kN)
  k_steps

end
section
open PySem PySem.Spec PySem.Calls PySem.W PyProof.Rows
/-- a dict whose keys are tuples of ints, told on one heap -/
def HD (prog : Program) (w : World) (h : Heap) (d : Addr) (xs : List (List Int × Addr × Value)) : Prop := (d == sysModules) = false ∧ h.DictOfH (tupleKind (intKind prog w)) d xs
theorem key_keeps {prog : Program} {w : World} {h h' : Heap} {ks : List Int} {a : Addr} (x : IsTupleKey (intKind prog w) h ks a) (k : ∀ b o, h.get? b = some o → h'.get? b = some o) : IsTupleKey (intKind prog w) h' ks a := by obtain ⟨o, it, n, e, r⟩ := x; exact ⟨o, it, n, k _ _ e, r⟩
theorem HD.keeps {prog : Program} {w : World} {h h' : Heap} {d : Addr} {xs : List (List Int × Addr × Value)} (x : HD prog w h d xs) (k : ∀ b o, h.get? b = some o → h'.get? b = some o) : HD prog w h' d xs :=
  by obtain ⟨lo, o, es, ep, e, hc, hd, he, hk, hn⟩ := x; exact ⟨lo, o, es, ep, k _ _ e, hc, hd, he, fun y hy => key_keeps (hk y hy) k, hn⟩
theorem key_news {prog : Program} {w : World} {h₀ h : Heap} {L a : Addr} {news : List (Addr × Obj)} {z k : Int} {tz t : Tok} {n : Nat} (N : News h₀ L h news) (M : (a, ({ cls := .type "tuple", data := .seq #[.int z tz, .int k t] n } : Obj)) ∈ news) : IsTupleKey (intKind prog w) h [z, k] a :=
  ⟨_, _, _, (N _ M).1, rfl, rfl, .cons (intKind_is _ _ _ _) (.cons (intKind_is _ _ _ _) .nil)⟩
theorem notin_HD {prog : Program} {w : World} {A : Around} {E : Value → Shared → Prop} {s : Shared} {h₀ g : Heap} {L a d : Addr} {news : List (Addr × Obj)} {z k : Int} {tz t : Tok} {n : Nat} {xs : List (List Int × Addr × Value)} {Q : Value → Shared → Prop}
    (hu : A.units + 1 < cLine) (N : News h₀ L s.heap news) (M : (a, ({ cls := .type "tuple", data := .seq #[.int z tz, .int k t] n } : Obj)) ∈ news) (H₀ : HD prog w g d xs) (U : ∀ b o, g.get? b = some o → s.heap.get? b = some o)
    (h : Q (.bool (!(atKey xs [z, k]).isSome)) { s with toks := s.toks + 3 }) : wpAny (model prog w) A (compareOp .NotIn (.ref a) (.ref d)) Q E s :=
  wpAny_notIn_heap (knd := tupleKind (intKind prog w)) (tupleKind_room_in1 hu) (key_news N M) H₀.1 (H₀.keeps U).2 h
def hasF (ns : List Int) (xs : List (List Int × Addr × Value)) : Bool := ns.all fun n => (atKey xs [0, n]).isSome
theorem has_nil {xs : List (List Int × Addr × Value)} : hasF [] xs = true := rfl
theorem has_no {n : Int} {r : List Int} {xs : List (List Int × Addr × Value)} (h : (atKey xs [0, n]).isSome = false) : hasF (n :: r) xs = false := by unfold hasF; rw [List.all_cons, h]; rfl
theorem has_yes {n : Int} {r : List Int} {xs : List (List Int × Addr × Value)} {b : Bool} (h : (atKey xs [0, n]).isSome = true) (k : hasF r xs = b) : hasF (n :: r) xs = b := by unfold hasF at k ⊢; rw [List.all_cons, h, k]; rfl

section
variable {prog : Program} {w : World} {A : Around} {E : Value → Shared → Prop} {s : Shared} {env : Env} {h₀ : Heap} {x : Str} {body : List Stmt} {Q : Flow → Shared → Prop}
/-- a loop over a list of the ground, turn by turn -/
theorem iter_baseUnr {ax : Addr} {lp : Addr × Obj} {vs : List Value} {m₀ : Str → Option Value} {news : List (Addr × Obj)}
    (hh : A.handled = none) (F : Fr h₀ env.locals s.heap m₀) (N : News h₀ env.locals s.heap news) (hm : lp ∈ news) (hl₀ : h₀.IsList ax vs.toArray)
    (rest₀ : ∀ I : Addr, (∀ p ∈ news, p.1 < I) → ListRest prog w A E h₀ env x body Q s I lp vs m₀ news) :
    wpAny (model prog w) A (pyIter (.ref ax)) (fun it s₂ => LoopAtV prog w A h₀ env x body Q E it s₂) E s := by
  have hl : s.heap.IsList ax vs.toArray := by obtain ⟨o, e, r⟩ := hl₀; exact ⟨o, F.keep _ _ e, r⟩
  have hb : h₀.get? ax ≠ none := by obtain ⟨o, e, r⟩ := hl₀; rw [e]; exact fun q => by cases q
  have hlt : ax < s.heap.objs.size := by obtain ⟨o, e, _⟩ := hl; exact Heap.lt_size e
  have hne : ax ≠ s.heap.objs.size := Nat.ne_of_lt hlt
  refine wpAny_pyIter_list hl ?_
  have rest := rest₀ s.heap.objs.size fun p hp => Heap.lt_size (N p hp).1
  have W := Walks.list (prog := prog) (w := w) hh s.heap.objs.size ax hne vs.toArray
  have hnew := next_is_new F
  have hlen : vs.toArray.size = vs.length := by simp
  rw [hlen] at W
  let J : Nat → (Str → Option Value) → List (Addr × Obj) → Prop := fun i m₁ news₁ => lp ∈ news₁ ∧ ListRest prog w A E h₀ env x body Q s s.heap.objs.size lp (vs.drop i) m₁ news₁
  refine ⟨_, _, _, vs.length, _, _, m₀, news, J, rfl, W, ?_, ?_, ?_, ⟨⟨_, Heap.get?_push_size _ rfl, rfl, rfl⟩, hl.at fun o e => Heap.get?_push_of_some _ e⟩, F.push _, (fun p hp => ⟨Heap.get?_push_of_some _ (N p hp).1, (N p hp).2⟩), ⟨hm, by rw [List.drop_zero]; exact rest⟩, ?_, ?_⟩
  · intro hmm
    rcases List.mem_cons.mp hmm with e | hmm
    · exact absurd F.ns.lt (e ▸ Nat.lt_irrefl _)
    · have e : env.locals = ax := List.mem_singleton.mp hmm
      exact hb (e ▸ Heap.get?_none_of_le F.above)
  · intro b hb
    rw [List.mem_singleton.mp hb]
    exact hnew
  · intro p hp hI
    exact absurd (Heap.lt_size (N p hp).1) ((List.mem_singleton.mp hI) ▸ Nat.lt_irrefl _)
  · rintro i v m₁ news₁ s₁ own ⟨hh', tk', rfl⟩ hin hP ⟨hmem₁, hJ⟩ hoff hown hget hall hst F₁ N₁
    obtain ⟨it, hit, hic, hid⟩ := hst.1
    have hmemI := hall s.heap.objs.size (List.mem_cons_self ..) hnew _ hit
    have hdrop : vs.drop i = v :: vs.drop (i + 1) := by
      have hlt' : i < vs.length := hin
      have hv : vs[i]? = some v := by simpa using hP
      rw [List.drop_eq_getElem_cons hlt']
      congr 1
      exact Option.some.inj ((List.getElem?_eq_getElem hlt').symm.trans hv)
    rw [hdrop] at hJ
    have N₂ : News h₀ env.locals hh' ((s.heap.objs.size, it) :: news₁) := fun p hp => by
      rcases List.mem_cons.mp hp with rfl | hp
      · exact N₁ _ (List.mem_append_left _ hmemI)
      · exact N₁ _ (List.mem_append_right _ hp)
    refine wpAny_mono (hJ it hh' tk' hic F₁ N₂) (fun f s₂ p => ?_) fun _ _ e => e
    have fin : UnrEnd h₀ env.locals { s with heap := hh', toks := tk' } s.heap.objs.size it (fun m' n' => lp ∈ n' ∧ ListRest prog w A E h₀ env x body Q s s.heap.objs.size lp (vs.drop (i + 1)) m' n') s₂ →
        LoopStepU h₀ env.locals [s.heap.objs.size] own (J (i + 1)) { s with heap := hh', toks := tk' } .next s₂ := by
      rintro ⟨h', tk, m', news', e, F', N', ho, hmm, r⟩
      refine ⟨rfl, h', tk, m', news', e, F', fun p hp => ?_, fun p hp hI => ho p hp (List.mem_singleton.mp hI), hmm, r⟩
      rcases List.mem_append.mp hp with hp | hp
      · have h2 : hh'.get? p.1 = some p.2 := hget p hp
        rcases List.mem_cons.mp (hown p hp) with h1 | h1
        · have h3 : p = (s.heap.objs.size, it) := by
            rw [h1, hit] at h2
            exact Prod.ext h1 (Option.some.inj h2).symm
          rw [h3]; exact N' _ (List.mem_cons_self ..)
        · have h1' : p.1 = ax := List.mem_singleton.mp h1
          exact absurd (h1' ▸ (N₁ _ (List.mem_append_left _ hp)).2.2) hb
      · exact N' _ (List.mem_cons_of_mem _ hp)
    cases f with
    | ret v => exact .ret p
    | brk => exact .brk p
    | next => exact .next (fin p)
    | cont => exact .cont (fin p)
  · rintro h' tk m' news' F' N' _ ⟨_, hJ⟩
    have z : vs.drop vs.length = [] := List.drop_length
    rw [z] at hJ
    exact hJ h' tk F' N'
end

theorem isl_up {h h' : Heap} {a : Addr} {vs : Array Value} (x : h.IsList a vs) (k : ∀ b o, h.get? b = some o → h'.get? b = some o) : h'.IsList a vs := by obtain ⟨o, e, r⟩ := x; exact ⟨o, k _ _ e, r⟩

theorem has_more {n : Int} {r : List Int} {xs : List (List Int × Addr × Value)} {b : Bool} (h : (atKey xs [0, n]).isSome = true) (k : hasF (n :: r) xs = b) : hasF r xs = b := by unfold hasF at k ⊢; rw [List.all_cons, h, Bool.true_and] at k; exact k
theorem list_gen {prog : Program} {w : World} {A : Around} {E : Value → Shared → Prop} {s : Shared} {env : Env} {h₀ : Heap} {x : Str} {body : List Stmt} {Q : Flow → Shared → Prop} {I : Addr} {lp : Addr × Obj} {vs : List Value} {m₀ : Str → Option Value} {news : List (Addr × Obj)} (y : Str) (v : Value) (e : m₀ y = some v)
    (k : ∀ m, m y = some v → ListRest prog w A E h₀ env x body Q s I lp vs m news) : ListRest prog w A E h₀ env x body Q s I lp vs m₀ news := k m₀ e
def Stop0 (p : Prop) : Prop := p
theorem stop0 {p : Prop} (h : Stop0 p) : p := h
theorem go0 {p : Prop} (h : p) : Stop0 p := h

theorem words3 : True := by
  k_with_none
  k_with "k_room" => ktr_room
  k_with "k_ne" => (refine neN ?_; (try dsimp only); first | with_reducible assumption | exact Ne.symm (by with_reducible assumption) | exact Nat.ne_of_gt (by with_reducible assumption) | exact Nat.ne_of_lt (by with_reducible assumption) | k_extra "ne in" | exact Ne.symm (by k_extra "ne in"))
  k_with "ne in" => first | exact ne1 (by with_reducible assumption) | exact ne2 (by with_reducible assumption) | exact ne3 (by with_reducible assumption) | exact ne4 (by with_reducible assumption) | exact ne5 (by with_reducible assumption) | exact ne6 (by with_reducible assumption) | exact ne7 (by with_reducible assumption) | exact ne8 (by with_reducible assumption) | exact nl2 (by with_reducible assumption) | exact nl3 (by with_reducible assumption) | exact nl4 (by with_reducible assumption) | exact nl5 (by with_reducible assumption) | exact nl6 (by with_reducible assumption) | exact nl7 (by with_reducible assumption)
  k_with "exec Raise some none" => (k_here; k_dflt (refine raise_D (by with_unfolding_all rfl) ?_))
  k_with "pyIter ref" => ((with_reducible show wpAny _ _ (pyIter (Value.ref _)) (fun it s₂ => LoopAtV _ _ _ _ _ _ _ _ _ it s₂) _ _); refine stop0 ?_)
  k_with "call ref" => (k_here; (with_reducible show wpAny _ _ (call (Value.ref _) [Value.str _ _]) (RaisableD _) _ _); k_dflt (refine mk_raise (by k_asm) (by k_asm) (by k_asm) (by k_asm) (by k_asm) (by first | exact rfl | assumption) (by kernel_rfl) (by k_is) (by k_is) (by rfl) (by first | exact pass63 | exact pass51) (by k_is) (by k_is) (by k_is) (by ktr_room) (by ktr_units) ?_); intro e' d' ts' od' h' tk' M' F' N')
  k_with "leaving ref" => (k_here; (rename MsgD _ _ => mM); (refine leave_D (by assumption) (by assumption) (by assumption) (by k_mem) (by k_mem) (MsgD.dict mM) (by rfl) ?_); intro h' R' U'; (try dsimp only at R' U' ⊢))
  k_with "compareOp NotIn ref ref" => (k_here; (rename HD _ _ _ _ _ => hD0); k_dflt (refine notin_HD (by ktr_units) (by k_asm) (by k_mem) hD0 (fun b o e => Fr.keep (by k_asm) b o (Fr.keep (by k_asm) b o e)) ?_))
  trivial

/-- check_tables over a scan and a dict of tables: it ends, or a TableError leaves it -/
theorem chkT_spec {w : World} {mean : ExcName → Option Value} {mg mb : Str → Option Value} {dp un : Nat} {gd : Option (List Code)} {cn : Str} {cs : Scope} {a : Addr} {ccd : Value} {outer : List Env} {A₀ : Around} {base h₀ : Heap} {L : Addr} {m : Str → Option Value} {s : Shared} {Q E : Value → Shared → Prop}
    {sc sd sl d : Addr} {v0 v2 v3 v4 v5 v6 : Value} {u0 u1 u2 u3 u4 u5 u6 : Tok} {vs : List Value} {ns : List Int} {xs : List (List Int × Addr × Value)} {b : Bool}
    (B : Below A₀ base outer h₀) (F : Fr h₀ L s.heap m) (X : (hd.heap_39 w.params).In h₀) (N : News h₀ L s.heap [(sc, instObj 204 sd), (sd, scanD w.params v0 (.ref sl) v2 v3 v4 v5 v6 u0 u1 u2 u3 u4 u5 u6)])
    (T : Top hd.view_39 (looseW hd.view_39 []) mean mg mb h₀) (XB : (hd.heap_39 w.params).In base) (TB : Top hd.view_39 (looseW hd.view_39 []) mean mg mb base) (D : KtsDicts (outer.filterMap (·.frame)) h₀) (hk : cs.kind = .function)
    (hl : h₀.IsList sl vs.toArray) (H : HD PySem.Challenge.rw_xm0816_01.row.prog w h₀ d xs) (hI : IntsAre vs ns) (hb : hasF ns xs = b)
    (hdp : dp + 3 < recursionLimit) (hu : un + 24 < cLine)
    (ret : ∀ h' tk', b = true → Fr h₀ L h' m → Q .none { s with heap := h', toks := tk' })
    (exc : ∀ e d' od h' tk' G, b = false → Fr h₀ L G m → G.UpToSlots h' → RaisedD base G (envOf cn cs L a ccd :: outer) e (.ref 51) d' od h' → E (.ref e) { s with heap := h', toks := tk' }) :
    wpAny (model PySem.Challenge.rw_xm0816_01.row.prog w) (ktrTop dp un gd cn cs L a ccd [] outer) (call (.ref 79) [.ref sc, .ref d]) Q E s := by
  revert X
  k_fill
  intro X
  refine wpAny_call ?_
  k_dflt (refine code_defS (by k_asm) (by k_asm) (by k_asm) (by k_asm) (by k_asm) (by assumption) (by assumption) (by assumption) KtsTurn.refl (by exact rfl) (by k_is) (by k_is) (by ktr_room) (by exact BindsTo.of_eq rfl) (by exact locs rfl) ?_ hk (by exact rfl) (by exact rfl) (by exact rfl) (by decide); intro g' L' h' FG' F' N' B' X' T' D'; (try dsimp only); (try k_lift B'); (try k_fold))
  clear F N
  k_steps
  refine go0 ?_
  (rename Fr g' _ _ _ => lF'); (rename News g' _ _ _ => lN')
  with_unfolding_all refine iter_baseUnr (by rfl) lF' lN' List.mem_cons_self (isl_up hl FG'.keep) (fun I lI => ?_)
  refine list_gen ("tables" : Str) (.ref d) (by rfl) (fun m' hm' => ?_)
  clear hl lF' lN'
  induction hI generalizing m' with
  | nil =>
    refine ListRest.zero (fun h tk F N => ?_)
    have F2 : Fr g' L' h m' := F
    have N2 : News g' L' h _ := N
    clear F N
    k_steps
    exact ret _ _ (hb.symm.trans has_nil) (by assumption)
  | cons n t hr ih =>
    refine ListRest.succ (fun it h tk hit F N => ?_)
    have F2 := fr_name F (x := ("tables" : Str)) (v := .ref d) (by show (if _ then _ else _) = _; rw [if_neg (by decide)]; exact hm')
    clear F
    k_with "UnrEnd" => exact UnrEnd.intro (by assumption) (by assumption) [(sc, _), (sd, _)] (by lcg_sub) (fun p hp => Nat.ne_of_lt (lI p hp)) ⟨List.mem_cons_self, ih (has_more (by assumption) hb) _ (by rfl)⟩
    k_steps
    exact exc _ _ _ _ _ _ (hb.symm.trans (has_no (by assumption))) (by assumption) (by assumption) (by assumption)

end
section
open PySem PySem.Spec PySem.Calls PySem.W PyProof.Rows
theorem news2 {H h : Heap} {L : Addr} {l : List (Addr × Obj)} {a b : Addr × Obj} (N : News H L h l) (ma : a ∈ l) (mb : b ∈ l) : News H L h [a, b] := fun p hp => by
  simp only [List.mem_cons, List.not_mem_nil, or_false] at hp
  rcases hp with rfl | rfl
  · exact N _ ma
  · exact N _ mb
theorem words4 : True := by
  k_with_none
  k_with "k_room" => ktr_room
  k_with "k_ne" => (refine neN ?_; (try dsimp only); first | with_reducible assumption | exact Ne.symm (by with_reducible assumption) | exact Nat.ne_of_gt (by with_reducible assumption) | exact Nat.ne_of_lt (by with_reducible assumption) | k_extra "ne in" | exact Ne.symm (by k_extra "ne in"))
  k_with "ne in" => first | exact ne1 (by with_reducible assumption) | exact ne2 (by with_reducible assumption) | exact ne3 (by with_reducible assumption) | exact ne4 (by with_reducible assumption) | exact ne5 (by with_reducible assumption) | exact ne6 (by with_reducible assumption) | exact ne7 (by with_reducible assumption) | exact ne8 (by with_reducible assumption) | exact nl2 (by with_reducible assumption) | exact nl3 (by with_reducible assumption) | exact nl4 (by with_reducible assumption) | exact nl5 (by with_reducible assumption) | exact nl6 (by with_reducible assumption) | exact nl7 (by with_reducible assumption)
  k_with "mine N" => exact news2 (by k_asm) (by kcj_m) (by kcj_m)
  k_with "LeaveT" => (k_dflt (refine leaveT_ (by first | assumption | exact KtsTurn.refl) (by k_asm) ?_); intro kF kN)
  k_with "noteFrame ref" => (k_here; (rename RaisedD _ _ _ _ _ _ _ _ => rX); k_dflt (refine caught_D0 rX (by assumption) (by assumption) (by assumption) (by assumption) (by assumption) (by assumption) (by k_is) (by kts_isx) ?_); intro h' g' tk' vs' sl' T' F' N' K' X' P' D'; (try k_lift K'))
  k_with "call ref" => (k_here; (with_reducible show wpAny _ _ (call (Value.ref 79) [Value.ref _, Value.ref _]) _ _ _); k_dflt (refine chkT_spec (by k_asm) (by k_asm) (by k_asm) (by k_extra "mine N") (by k_asm) (by assumption) (by assumption) (by assumption) (by first | exact rfl | assumption) (by assumption) (by assumption) (by assumption) (by assumption) (by ktr_room) (by ktr_units) ?_ ?_); (first | (intro h' tk' hv' F') | (intro e' d' od' h' tk' G' hv' FG' U' R'; dsimp only)))
  k_with "call ref" => (k_here; (with_reducible show wpAny _ _ (call (Value.ref 204) [_, _, _, _, _, _, _]) _ _ _); k_dflt (refine scan_spec (by k_asm) (by k_asm) (by k_asm) (by k_asm) (by k_asm) (by first | exact rfl | assumption) (by ktr_room) (by ktr_units) ?_); intro x' d' t0' t1' t2' t3' t4' t5' t6' h' tk' F' N')
  trivial
theorem has_spec {w : World} {mean : ExcName → Option Value} {mg mb : Str → Option Value} {dp un : Nat} {gd : Option (List Code)} {cn : Str} {cs : Scope} {a : Addr} {ccd : Value} {cl : List (Str × Addr)} {A₀ : Around} {base h₀ : Heap} {L : Addr} {m : Str → Option Value} {s : Shared} {Q E : Value → Shared → Prop}
    {sl d : Addr} {news : List (Addr × Obj)} {nk : Nat} {xs : List (List Int × Addr × Value)} {vs : List Value} {ns : List Int}
    (B : Below A₀ base [] h₀) (F : Fr h₀ L s.heap m) (X : (hd.heap_39 w.params).In h₀) (N : News h₀ L s.heap news) (T : Top hd.view_39 (looseW hd.view_39 []) mean mg mb h₀) (XB : (hd.heap_39 w.params).In base) (TB : Top hd.view_39 (looseW hd.view_39 []) mean mg mb base) (hk : cs.kind = .function)
    (M1 : (sl, W.listOf vs.toArray nk) ∈ news) (H : HD PySem.Challenge.rw_xm0816_01.row.prog w s.heap d xs)
    (hdp : dp + 4 < recursionLimit) (hu : un + 32 < cLine)
    (hI : IntsAre vs ns) (hn2 : ns.length ≤ 3)
    (ret : ∀ (b : Bool) (h' : Heap) (tk' : Nat), hasF ns xs = b → Fr h₀ L h' m → News h₀ L h' news → Q (.bool b) { s with heap := h', toks := tk' }) :
    wpAny (model PySem.Challenge.rw_xm0816_01.row.prog w) (ktrTop dp un gd cn cs L a ccd cl []) (call (.ref 241) [.ref sl, .ref d]) Q E s := by
  have hSl := list_at N M1
  revert X
  k_fill
  intro X
  generalize hb : hasF ns xs = b at ret
  refine wpAny_call ?_
  k_dflt (refine enter_T (by k_asm) (by k_asm) (by k_asm) (by k_asm) (by k_asm) (by exact rfl) (by exact rfl) (by assumption) (by k_is) (by k_is) (by ktr_room) (by exact BindsTo.of_eq rfl) (by exact locs rfl) ?_ (by exact rfl) (by exact rfl) (by exact rfl) (by decide); intro g' L' h' hg FG' F' N' B' X' T' D'; (try dsimp only); (try k_lift B'); (try k_fold))
  rw [← hg] at hSl H
  clear N F B
  k_steps
  all_goals (dsimp only; exact ret _ _ _ (by assumption) (by assumption) (by assumption))

end
section
open PySem PySem.Spec PySem.Calls PySem.W PyProof.Rows
/-- a dict at an address, told by its entries alone -/
def DE (h : Heap) (d : Addr) (es : Array DictEntry) (ep : Nat) : Prop := ∃ o, h.get? d = some o ∧ o.ExactDict ∧ o.data = .dict es ep
theorem DE.at' {h h' : Heap} {d : Addr} {es : Array DictEntry} {ep : Nat} (x : DE h d es ep) (e : ∀ o, h.get? d = some o → h'.get? d = some o) : DE h' d es ep := by obtain ⟨o, ho, r⟩ := x; exact ⟨o, e _ ho, r⟩
theorem DE.typeIs {s : Shared} {d : Addr} {es : Array DictEntry} {ep : Nat} (x : DE s.heap d es ep) : s.TypeIs (.ref d) "dict" := by obtain ⟨o, ho, hc, _⟩ := x; exact ⟨o, ho, hc.1⟩
section
variable {prog : Program} {w : World} {A : Around} {E : Value → Shared → Prop} {s : Shared}
theorem pyIter_de {d : Addr} {es : Array DictEntry} {ep : Nat} {Q : Value → Shared → Prop} (hd : (d == sysModules) = false) (hm : DE s.heap d es ep)
    (hQ : Q (.ref s.heap.objs.size) { s with heap := s.heap.push { cls := .type "dict_keyiterator", data := .fields #[.ref d, .int 0 0, .int es.size 0, .int ep 0] } }) :
    wpAny (model prog w) A (pyIter (.ref d)) Q E s := by
  have hT : s.TypeIs (.ref d) "dict" := hm.typeIs
  obtain ⟨o, ho, hc, hdat⟩ := hm
  refine wpAny_pyIter_slot hT F.slot_dict_iter (wpAny_call_entry F.slot_dict_iter hT F.entry_dict_iter ?_ (F.args_dict_iter_1 _))
  unfold Builtin.«dict.__iter__»
  refine wpAny_bind ?_
  unfold Builtin.Dict.dictSlotNone
  refine wpAny_bind (wpAny_notOrdered_dict hT ?_)
  show wpAny _ _ (pure (Value.ref d)) _ _ s
  refine wpAny_pure ?_
  show wpAny _ _ (Builtin.Dict.showsAll d >>= _) _ _ s
  unfold Builtin.Dict.showsAll
  rw [if_neg (by rw [hd]; exact Bool.false_ne_true)]
  refine wpAny_bind (wpAny_pure ?_)
  refine wpAny_bind (wpAny_dictEntries ho hdat ?_)
  refine wpAny_bind (wpAny_dictEpoch ho hdat ?_)
  refine wpAny_bind (wpAny_newObj_type (wpAny_pure ⟨_, rfl, "dict_keyiterator", _, ⟨_, Heap.get?_push_size _ rfl, rfl⟩, F.slot_dict_keyiterator_next.lookup, ?_⟩))
  simpa [rawInt] using hQ
/-- the next key of a dict's iterator, or its end -/
theorem step_de {it d : Addr} {i ep : Nat} {es : Array DictEntry} {Q : Option Value → Shared → Prop} (hh : A.handled = none) (hit : s.heap.IsKeyIter it d i es.size ep) (hm : DE s.heap d es ep)
    (more : ∀ (hlt : i < es.size) h', h'.IsKeyIter it d (i + 1) es.size ep → Heap.SameBut it s.heap h' → Q (some es[i].key) { s with heap := h' })
    (done : es.size ≤ i → ∀ h', Heap.ExtBut it s.heap h' → Q none { s with heap := h' }) : wpAny (model prog w) A (pyNext (.ref it)) Q E s := by
  have hT := hit.typeIs
  have hown : Builtin.Dict_items.ownsTuple "dict_keyiterator" = false := by decide
  obtain ⟨io, hio, hic, hid⟩ := id hit
  obtain ⟨od, hod, _, hdd⟩ := hm
  unfold pyNext
  refine wpAny_bind (wpAny_attempt (wpAny_callSpecial?_slot (name := Str.ofString "__next__") hT F.slot_dict_keyiterator_next (wpAny_call_entry F.slot_dict_keyiterator_next hT F.entry_dict_keyiterator_next ?_ (F.args_dict_keyiterator_next_1 _))))
  refine wpAny_bind (wpAny_pure (wpAny_bind (wpAny_bind ?_)))
  first | refine wpAny_bind (wpAny_typeNameOfWhole_keyiter hT (wpAny_pure ?_)) | refine wpAny_bind (wpAny_typeNameOf_keyiter hT (wpAny_pure ?_))
  refine wpAny_bind (wpAny_fieldsOf hio hid ?_)
  simp only [hown, Bool.false_eq_true, if_false]
  show wpAny _ _ (ite _ _ _) _ _ s
  have hno : ¬ ((Value.ref d == Value.none) = true) := Bool.false_ne_true
  rw [if_neg hno]
  refine wpAny_bind (wpAny_pure (wpAny_bind (wpAny_dictEntries hod hdd ?_)))
  rw [if_neg (by simp)]
  refine wpAny_bind (wpAny_pure (wpAny_bind (wpAny_dictEpoch hod hdd ?_)))
  rw [if_neg (by simp)]
  refine wpAny_pure ?_
  have pos : ¬ ((i : Int) < 0) := Int.not_lt.mpr (Int.natCast_nonneg i)
  rcases Nat.lt_or_ge i es.size with hlt | hge
  · simp only [pos, if_false, Int.toNat_natCast, Array.getElem?_eq_getElem hlt]
    refine wpAny_bind ?_
    first | refine wpAny_bind (wpAny_typeNameOfWhole_keyiter hT (wpAny_pure ?_)) | refine wpAny_bind (wpAny_typeNameOf_keyiter hT (wpAny_pure ?_))
    refine wpAny_bind (wpAny_isOneOf_keyiter hT ?_)
    show wpAny _ _ (setField (.ref it) 1 (rawInt ((i : Int) + 1)) >>= _) _ _ s
    refine wpAny_bind (wpAny_setField hio hid (by simp) (wpAny_bind (wpAny_holding ?_)))
    have hit' : (s.heap.update it (Obj.mapFields (·.setIfInBounds 1 (rawInt ((i : Int) + 1))))).IsKeyIter it d (i + 1) es.size ep := by
      refine ⟨_, Heap.get?_update_self _ hio (Obj.isFreed_of_fields (Obj.data_mapFields hid _)), (Obj.cls_mapFields ..).trans hic, ?_⟩
      rw [Obj.data_mapFields hid]
      simp [rawInt]
    refine wpAny_bind (wpAny_isOneOf_keyiter (s := { s with heap := _ }) hit'.typeIs ?_)
    show wpAny _ _ (pure _) _ _ _
    exact wpAny_pure (wpAny_pure ⟨_, rfl, wpAny_pure (more hlt _ hit' (Heap.SameBut.update ..))⟩)
  · simp only [pos, if_false, Int.toNat_natCast, Array.getElem?_eq_none hge]
    refine wpAny_bind ?_
    first | refine wpAny_bind (wpAny_typeNameOfWhole_keyiter hT (wpAny_pure ?_)) | refine wpAny_bind (wpAny_typeNameOf_keyiter hT (wpAny_pure ?_))
    show wpAny _ _ (setField (.ref it) 0 .none >>= _) _ _ s
    refine wpAny_bind (wpAny_setField hio hid (by simp) ?_)
    show wpAny _ _ (newExc (.type "StopIteration") [] >>= _) _ _ _
    refine wpAny_bind ?_
    simp only [newExc, newTuple]
    refine wpAny_bind (wpAny_newObj_type (wpAny_bind (m := firstArgMember _ _) (wpAny_of_eq (a := Value.none) (by first | rfl | (simp only [firstArgMember]; rfl)) ?_)) (by size_fits))
    refine wpAny_newObj_type ?_ (by size_fits)
    simp only [raiseNew]
    refine wpAny_bind (wpAny_handled ?_)
    rw [show A.in1.handled = none from hh]
    refine wpAny_bind (wpAny_pure (wpAny_throw ?_))
    refine wpAny_bind (wpAny_isInstance (T := "StopIteration") (b := true) ⟨_, Heap.get?_push_size _ rfl, rfl⟩ isSubtype_stop ?_)
    exact wpAny_pure (done hge _ (((Heap.SameBut.update ..).extBut.push _).push _))
theorem Walks.deKeys (hh : A.handled = none) (I d : Addr) (hne : d ≠ I) (es : Array DictEntry) (ep : Nat) :
    Walks prog w A I [I, d] [I] es.size (fun i v => ∃ e, es[i]? = some e ∧ v = e.key) (fun i h => h.IsKeyIter I d i es.size ep ∧ DE h d es ep) where
  sub := fun b hb => by simp at hb; simp [hb]
  frame := fun _ _ _ st hk => ⟨st.1.at fun o e => hk I (by simp) o e, st.2.at' fun o e => hk d (by simp) o e⟩
  item := fun i s Q E hi st hQ => step_de hh st.1 st.2 (fun _ h' hit' hs' =>
    hQ _ h' s.toks ⟨es[i], by simp, rfl⟩ ⟨hit', st.2.at' fun o e => hs'.extBut d o hne e⟩ fun b o hb e => hs'.extBut b o (fun h => hb (by simp [h])) e) fun hge => absurd hi (Nat.not_lt.mpr hge)
  done := fun s Q E st hQ => step_de hh st.1 st.2 (fun hlt => absurd hlt (Nat.lt_irrefl _)) fun _ h' he' => hQ h' s.toks fun b o hb e => he' b o (fun h => hb (by simp [h])) e
  self := fun _ _ _ _ st hQ => wpAny_pyIter_keyiter st.1 hQ
end

end
section
open PySem PySem.Spec PySem.Calls PySem.W PyProof.Rows
section
variable {prog : Program} {w : World} {A : Around} {E : Value → Shared → Prop} {s : Shared}

theorem list_keys_miss : typeLookup (.type "list") "keys" = pure none := am_miss_of_fast (by decide +kernel)
theorem keys_no_list {a : Addr} {vs : Array Value} {k : Nat} {sl : Array (Option Value)} {Q : Option Value → Shared → Prop}
    (hx : s.heap.get? a = some { cls := .type "list", dict := none, data := .seq vs k, slots := sl }) (hA : A.handled = none)
    (h : ∀ h' tk, (∀ b o, s.heap.get? b = some o → h'.get? b = some o) → Q none { s with heap := h', toks := tk }) :
    wpAny (model prog w) A (getAttr? (.ref a) "keys") Q E s := by
  obtain ⟨hp, g, d, tk, os⟩ := s
  have hT : ∀ tk', (⟨hp, g, d, tk', os⟩ : Shared).TypeIs (.ref a) "list" := fun _ => ⟨_, hx, rfl⟩
  have f1 := sub_AttributeError
  have f3 := F.slot_list_getattribute.lookup
  have f4 := F.slot_list_getattribute.bind (.ref a)
  have f5 := am_list_getattr_none
  unfold getAttr? getAttrBy? getAttrBy
  repeat (any_goals (first | assumption | exact hT _ | ((with_reducible show wpAny _ _ (call (Value.builtin "list.__getattribute__") _ _) _ _ _); refine call_meets F.slot_list_getattribute (hT _) am_entry_list_getattribute (F.args_list_getattribute_2 _ _) (meets_getattribute_miss_list a vs k sl "keys" _ list_keys_miss (by decide)) ⟨hx, hA, fun h' tk' e hx' => ?_⟩) | wp_step))
  obtain ⟨t', u', he⟩ := hx'.there
  show wpAny _ _ (getattributeRaised _ _ _ _ _ _ _) _ _ _
  unfold getattributeRaised
  repeat (any_goals (first | assumption | wp_step))
  all_goals exact h _ _ hx'.keeps

theorem upd_entry : entryFor table "dict.update.loop" = some Builtin.«dict.update.loop» := entryFor_of_tree (by kernel_rfl)
theorem upd_plain : plainId "dict.update.loop" = true := by decide +kernel

/-- an object that is a pair (key, value) -/
def PairO (o : Obj) (a : Addr) (v : Value) : Prop := o.cls = .type "tuple" ∧ ∃ n, o.data = .seq #[.ref a, v] n

/-- what the loop keeps: the list, its pairs, the keys -/
structure UpdSt (prog : Program) (w : World) (I l : Addr) (vs : List Value) (xs : List (List Int × Addr × Value)) (i : Nat) (h : Heap) : Prop where
  it : h.IsListIter I l i
  ls : h.IsList l vs.toArray
  pr : ∀ j, j < xs.length → ∃ p o k a v, vs[j]? = some (.ref p) ∧ xs[j]? = some (k, a, v) ∧ h.get? p = some o ∧ PairO o a v ∧ IsTupleKey (intKind prog w) h k a

theorem UpdSt.up {prog : Program} {w : World} {I l X : Addr} {vs : List Value} {xs : List (List Int × Addr × Value)} {i i' : Nat} {h h' : Heap} (x : UpdSt prog w I l vs xs i h) (it : h'.IsListIter I l i') (k : ∀ b o, b ≠ X → h.get? b = some o → h'.get? b = some o) (hl : l ≠ X) (hC : ∀ o, h.get? X = some o → o.cls ≠ .type "tuple") : UpdSt prog w I l vs xs i' h' := by
  refine ⟨it, ?_, fun j hj => ?_⟩
  · obtain ⟨o, e, r⟩ := x.ls
    exact ⟨o, k _ _ hl e, r⟩
  · obtain ⟨p, o, kk, a, v, e1, e2, e3, e4, e5⟩ := x.pr j hj
    refine ⟨p, o, kk, a, v, e1, e2, k _ _ (fun q => ?_) e3, e4, ?_⟩
    · rw [q] at e3
      exact hC o e3 e4.1
    · obtain ⟨o', it', n, e, c, r⟩ := e5
      refine ⟨o', it', n, k _ _ (fun q => ?_) e, c, r⟩
      rw [q] at e
      exact hC o' e c

theorem pairItems_pair {p a : Addr} {o : Obj} {v : Value} {Q : List Value → Shared → Prop} (ho : s.heap.get? p = some o) (hp : PairO o a v) (h : Q [.ref a, v] s) : wpAny (model prog w) A (Builtin.Dict.pairItems (.ref p)) Q E s := by
  obtain ⟨hc, n, hd⟩ := hp
  unfold Builtin.Dict.pairItems
  refine wpAny_bind (wpAny_typeOf ⟨o, ho, hc⟩ ?_)
  rw [if_pos (by decide)]
  refine wpAny_bind ?_
  unfold seqItems?
  refine wpAny_bind (wpAny_load ho ?_)
  rw [hd]
  exact wpAny_pure (wpAny_pure h)

theorem upd_loop {R : Result → Shared → Prop} {I l D : Addr} {vs : List Value} {xs : List (List Int × Addr × Value)} (hu : A.units + 1 < cLine) (hh : A.handled = none) (hlen : vs.length = xs.length) (hn : (xs.map (·.1)).Nodup) (hsz : xs.length ≤ sizeLine) (hlI : l ≠ I) (hDI : D ≠ I) :
    ∀ (k i : Nat) (s : Shared), xs.length - i = k → i ≤ xs.length → UpdSt prog w I l vs xs i s.heap → s.heap.DictOfH (tupleKind (intKind prog w)) D (xs.take i) →
      (∀ h' tk', (∀ b o, b ≠ I → b ≠ D → s.heap.get? b = some o → h'.get? b = some o) → h'.DictOfH (tupleKind (intKind prog w)) D xs → R (.ok (.ret .none)) { s with heap := h', toks := tk' }) →
      codeAny (model prog w) A (.builtin "dict.update.loop" ⟨[.ref D, .ref I, rawInt i, .none], []⟩) R s := by
  intro k
  induction k with
  | zero =>
    intro i s hk hi U hD hR
    obtain rfl : i = xs.length := by omega
    refine codeAny_builtin upd_entry ?_
    rw [Around.under_plainId upd_plain _]
    show wpAny _ A.in1 (pyNext (.ref I) >>= _) _ _ s
    refine wpAny_bind (wpAny_pyNext_list_end hh U.it U.ls (by simp [hlen]) fun h' hx => ?_)
    show wpAny _ A.in1 (Builtin.Dict.addKeywords D [] >>= _) _ _ _
    refine wpAny_bind (wpAny_pure ?_)
    show wpAny _ A.in1 (ret Value.none) _ _ _
    refine wpAny_pure (hR h' s.toks (fun b o hb _ e => hx b o hb e) ?_)
    rw [List.take_length] at hD
    obtain ⟨o, es, ep, ho, hc, hd, he, hk, hn'⟩ := hD
    refine ⟨o, es, ep, hx _ _ hDI ho, hc, hd, he, fun x hx' => ?_, hn'⟩
    obtain ⟨o', it', n, e, c, r⟩ := hk x hx'
    refine ⟨o', it', n, hx _ _ (fun q => ?_) e, c, r⟩
    obtain ⟨oi, hoi, hci, _⟩ := U.it
    rw [q, hoi] at e
    cases e
    rw [hci] at c
    injection c with q'
    exact absurd q' (by decide)
  | succ k ih =>
    intro i s hk hi U hD hR
    have hlt : i < xs.length := by omega
    obtain ⟨p, o, kk, a, v, e1, e2, e3, e4, e5⟩ := U.pr i hlt
    obtain ⟨oi, hoi, hci, _⟩ := id U.it
    have hCI : ∀ o, s.heap.get? I = some o → o.cls ≠ .type "tuple" := fun o ho q => by
      rw [hoi] at ho
      cases ho
      rw [hci] at q
      injection q with q'
      exact absurd q' (by decide)
    refine codeAny_builtin upd_entry ?_
    rw [Around.under_plainId upd_plain _]
    show wpAny _ A.in1 (pyNext (.ref I) >>= _) _ _ s
    refine wpAny_bind (wpAny_pyNext_list_item U.it U.ls (by simpa using e1) fun h₁ it₁ sb₁ => ?_)
    have up₁ : ∀ b o, b ≠ I → s.heap.get? b = some o → h₁.get? b = some o := fun b o hb e => sb₁.extBut b o hb e
    have U₁ := U.up it₁ up₁ hlI hCI
    have hpI : p ≠ I := fun q => by rw [q] at e3; exact hCI o e3 e4.1
    have e3' : h₁.get? p = some o := up₁ _ _ hpI e3
    have key₁ : ∀ {ks : List Int} {b : Addr}, IsTupleKey (intKind prog w) s.heap ks b → IsTupleKey (intKind prog w) h₁ ks b := fun {ks b} q => by obtain ⟨o', it', n, e, c, r⟩ := q; exact ⟨o', it', n, up₁ _ _ (fun q => by rw [q] at e; exact hCI o' e c) e, c, r⟩
    have hD₁ : h₁.DictOfH (tupleKind (intKind prog w)) D (xs.take i) := by
      obtain ⟨o, es, ep, ho, hc, hd, he, hk, hn'⟩ := hD
      exact ⟨o, es, ep, up₁ _ _ hDI ho, hc, hd, he, fun x hx' => key₁ (hk x hx'), hn'⟩
    show wpAny _ A.in1 (holding [Value.ref p] _ >>= _) _ _ { s with heap := h₁ }
    refine wpAny_bind (wpAny_holding (wpAny_bind (wpAny_tryCatch (pairItems_pair (s := { s with heap := h₁ }) e3' e4 ?_))))
    show wpAny _ A.in1 (holding [Value.ref a, v] (dictSet D (.ref a) v)) _ _ { s with heap := h₁ }
    have hsz' : (xs.take i).length ≤ sizeLine := by rw [List.length_take]; omega
    refine wpAny_holding (wpAny_dictSet_heap (hsz := hsz') (knd := tupleKind (intKind prog w)) (s := { s with heap := h₁ }) (show A.in1.units < cLine from hu) (key₁ e5) hD₁ fun h₂ hD₂ sb₂ => ?_)
    have hnot : atKey (xs.take i) kk = none := atKey_none_of_get fun j q hj => by
      rw [List.getElem?_take] at hj
      split at hj
      · rename_i hji
        have := idxH_unique hn hj (show xs[i]? = some (kk, (a, v)) from e2)
        omega
      · cases hj
    rw [storedH_new hnot] at hD₂
    have htk : xs.take i ++ [(kk, a, v)] = xs.take (i + 1) := by rw [List.take_add_one, e2]; rfl
    rw [htk] at hD₂
    obtain ⟨oD, es, ep, hoD, hcD, _⟩ := hD₁
    have hCD : ∀ o, h₁.get? D = some o → o.cls ≠ .type "tuple" := fun o ho q => by
      rw [hoD] at ho
      cases ho
      rw [hcD.1] at q
      injection q with q'
      exact absurd q' (by decide)
    have hlD : l ≠ D := fun q => by
      obtain ⟨ol, el, cl, _⟩ := U₁.ls
      rw [q, hoD] at el
      cases el
      rw [hcD.1] at cl
      injection cl with q'
      exact absurd q' (by decide)
    have up₂ : ∀ b o, b ≠ D → h₁.get? b = some o → h₂.get? b = some o := fun b o hb e => sb₂.extBut b o hb e
    have it₂ : h₂.IsListIter I l (i + 1) := by obtain ⟨o, e, r⟩ := it₁; exact ⟨o, up₂ _ _ (Ne.symm hDI) e, r⟩
    refine wpAny_pure ⟨plainId_quiet upd_plain _, ?_⟩
    exact ih (i + 1) { s with heap := h₂, toks := s.toks + (tupleKind (intKind prog w)).draws kk } (by omega) hlt (U₁.up it₂ up₂ hlD hCD) hD₂ fun h' tk' keep hd => hR h' tk' (fun b o hb hb' e => keep b o hb hb' (up₂ b o hb' (up₁ b o hb e))) hd

theorem dict_pairs {l : Addr} {vs : List Value} {xs : List (List Int × Addr × Value)} {Q : Value → Shared → Prop} (hu : A.units + 2 < cLine) (hh : A.handled = none) (hlen : vs.length = xs.length) (hn : (xs.map (·.1)).Nodup) (hsz : xs.length ≤ sizeLine)
    (hls : s.heap.IsList l vs.toArray) (hx : ∃ k sl, s.heap.get? l = some { cls := .type "list", dict := none, data := .seq vs.toArray k, slots := sl })
    (pr : ∀ j, j < xs.length → ∃ p o k a v, vs[j]? = some (.ref p) ∧ xs[j]? = some (k, a, v) ∧ s.heap.get? p = some o ∧ PairO o a v ∧ IsTupleKey (intKind prog w) s.heap k a)
    (h : ∀ h' tk', (∀ b o, s.heap.get? b = some o → h'.get? b = some o) → h'.DictOfH (tupleKind (intKind prog w)) s.heap.objs.size xs → Q (.ref s.heap.objs.size) { s with heap := h', toks := tk' }) :
    wpAny (model prog w) A (call (.type "dict") [.ref l]) Q E s := by
  refine callType_codes (Q₁ := fun obj s₁ => obj = .ref s.heap.objs.size ∧ s₁ = { s with heap := s.heap.push { cls := .type "dict", data := .dict #[] } }) F.kt_called_dict (F.kt_typeCall_dict_1 _) F.entry_dict_init (kt_code_dict_new _ ⟨rfl, rfl⟩) ?_
  rintro obj s₁ ⟨rfl, rfl⟩
  have push : ∀ b o, s.heap.get? b = some o → (s.heap.push { cls := .type "dict", data := .dict #[] }).get? b = some o := fun b o e => Heap.get?_push_of_some _ e
  have hnew : (s.heap.push { cls := .type "dict", data := .dict #[] }).DictOfH (tupleKind (intKind prog w)) s.heap.objs.size [] := Heap.DictOfH.new s.heap
  have hl' : (s.heap.push { cls := .type "dict", data := .dict #[] }).IsList l vs.toArray := hls.push _
  refine ⟨hnew.typeIs, F.args_dict_init_2 _ _, ?_⟩
  unfold Builtin.«dict.__init__»
  refine wpAny_bind ?_
  unfold Builtin.Dict.selfAndRest
  refine wpAny_bind (wpAny_notOrdered_dict hnew.typeIs ?_)
  show wpAny _ _ (pure (s.heap.objs.size, [Value.ref l])) _ _ _
  refine wpAny_pure ?_
  show wpAny _ _ (Builtin.Dict.updateFrom "dict.__init__" s.heap.objs.size (.ref l) [] .none) _ _ _
  unfold Builtin.Dict.updateFrom
  refine wpAny_bind (wpAny_typeOf hl'.typeIs ?_)
  rw [if_pos (by decide)]
  obtain ⟨kl, sl, hxl⟩ := hx
  refine wpAny_bind (keys_no_list (push _ _ hxl) hh fun h₁ tk₁ k₁ => ?_)
  rw [if_pos (by rfl)]
  refine wpAny_bind (wpAny_rule ?_)
  have hl₁ : h₁.IsList l vs.toArray := by obtain ⟨o, e, r⟩ := hl'; exact ⟨o, k₁ _ _ e, r⟩
  have up : ∀ b o, s.heap.get? b = some o → h₁.get? b = some o := fun b o e => k₁ _ _ (push b o e)
  have hD₁ : h₁.DictOfH (tupleKind (intKind prog w)) s.heap.objs.size [] := by obtain ⟨o, es, ep, ho, hc, hd, he, _, hn'⟩ := hnew; exact ⟨o, es, ep, k₁ _ _ ho, hc, hd, he, fun _ hx => by simp at hx, hn'⟩
  have hlt₁ : l < h₁.objs.size := by obtain ⟨_, e, _⟩ := hl₁; exact Heap.lt_size e
  have hDlt : s.heap.objs.size < h₁.objs.size := by obtain ⟨o, es, ep, ho, _⟩ := hD₁; exact Heap.lt_size ho
  refine wpAny_bind (wpAny_pyIter_list hl₁ ?_)
  refine wpAny_pure ⟨plainId_quiet upd_plain _, ?_⟩
  have up₂ : ∀ b o, h₁.get? b = some o → (h₁.push { cls := .type "list_iterator", data := .fields #[.ref l, .int 0 0] }).get? b = some o := fun b o e => Heap.get?_push_of_some _ e
  refine upd_loop (A := A.in1) (l := l) (vs := vs) (xs := xs) (show A.in1.units + 1 < cLine from hu) hh hlen hn hsz (Nat.ne_of_lt hlt₁) (Nat.ne_of_lt hDlt) xs.length 0 _ rfl (Nat.zero_le _) ⟨⟨_, Heap.get?_push_size _ rfl, rfl, rfl⟩, hl₁.push _, fun j hj => ?_⟩ ?_ fun h' tk' keep hD' => ⟨rfl, h h' tk' (fun b o e => ?_) hD'⟩
  · obtain ⟨p, o, k, a, v, e1, e2, e3, e4, o', it', n, e, r⟩ := pr j hj
    exact ⟨p, o, k, a, v, e1, e2, up₂ _ _ (up _ _ e3), e4, o', it', n, up₂ _ _ (up _ _ e), r⟩
  · obtain ⟨o, es, ep, ho, hc, hd, he, _, hn'⟩ := hD₁
    exact ⟨o, es, ep, up₂ _ _ ho, hc, hd, he, fun _ hx => by simp at hx, hn'⟩
  · exact keep b o (fun q => by
      have := Heap.lt_size (up b o e)
      rw [q] at this
      exact Nat.lt_irrefl _ this) (fun q => by
      have := Heap.lt_size e
      rw [q] at this
      exact Nat.lt_irrefl _ this) (up₂ _ _ (up b o e))
end

end
section
open PySem PySem.Spec PySem.Calls PySem.W PyProof.Rows
open LCg
section
variable {prog : Program} {w : World} {A : Around} {E : Value → Shared → Prop} {s : Shared} {h₀ : Heap} {L : Addr} {m : Str → Option Value} {env : Env}

def SrcD (prog : Program) (w : World) (A : Around) (h₀ : Heap) (L : Addr) (m : Str → Option Value) (env : Env) (ct elt : PySem.Expr) (x : Str) (scope : Scope) (cl : List (Str × Addr)) (Q : Value → Shared → Prop) (xv : Value) (s₁ : Shared) : Prop :=
  ∃ d es ep od news, xv = .ref d ∧ A.handled = none ∧ Fr h₀ L s₁.heap m ∧ News h₀ L s₁.heap news ∧ (d == sysModules) = false ∧ (d, od) ∈ news ∧ od.ExactDict ∧ od.data = .dict es ep ∧ es.size ≤ sizeLine ∧
    ∀ s₂ : Shared, (∃ h, s₂ = { s₁ with heap := h }) → LCt.CompRestT prog w A h₀ L m env ct elt x scope cl s₂ (fun nw => (d, od) ∈ nw) (fun i v => ∃ e, es[i]? = some e ∧ v = e.key) (FinE h₀ L m s₂ Q) es.size 0 [] news

theorem ListComp_D {ct elt iter : PySem.Expr} {x : Str} {px : Pos} {scope : Scope} {cl : List (Str × Addr)} {pos : Pos} {Q : Value → Shared → Prop} (F₀x : Fr h₀ L s.heap m)
    (hclos : closureFor scope env = pure cl) (hcell : ∀ y ∈ scope.names, y.2 ≠ .cell) (hkind : scope.kind = .function)
    (hnames : ∀ y ∈ scope.names, y.2 = .local → scope.names.lookup y.1 = some .local) (hx : scope.names.lookup x = some .local)
    (h : wpAny (model prog w) A (eval iter env) (SrcD prog w A h₀ L m env ct elt x scope cl Q) E s)
    (hs : ∀ x, foldedSetIterable iter env x = pure x := by intro _; rfl) :
    wpAny (model prog w) A (eval (.ListComp elt [⟨.Name x px, iter, [ct], 0⟩] scope pos) env) Q E s := by
  rw [eval_ListComp]
  refine wpAny_comprehension_free (use := none) rfl hs hclos hkind hnames (wpAny_mono h (fun xv s₁ h₁ => ?_) fun _ _ e => e)
  obtain ⟨d, es, ep, od, news, rfl, hh, F, N, lo, hm, hc, hd, hsz, R⟩ := h₁
  have hlt : d < s₁.heap.objs.size := Heap.lt_size (N _ hm).1
  have hde : DE s₁.heap d es ep := ⟨od, (N _ hm).1, hc, hd⟩
  refine pyIter_de lo hde ?_
  have up : ∀ b o, s₁.heap.get? b = some o → (s₁.heap.push { cls := .type "dict_keyiterator", data := .fields #[.ref d, .int 0 0, .int es.size 0, .int ep 0] }).get? b = some o := fun b o e => Heap.get?_push_of_some _ e
  refine LCt.block_T (S := fun nw => (d, od) ∈ nw) (Walks.deKeys hh s₁.heap.objs.size d (Nat.ne_of_lt hlt) es ep) hsz (fun i h st => by obtain ⟨o, e, _⟩ := st.1; exact ⟨o, e⟩)
    (fun i h h' o nw st e e' _ N' hS => ⟨by obtain ⟨o', q, r⟩ := st.1; rw [e] at q; cases q; exact ⟨o, e', r⟩, od, (N' _ hS).1, hc, hd⟩) hcell hkind hx
    ⟨⟨_, Heap.get?_push_size _ rfl, rfl, rfl⟩, hde.at' fun o e => up _ _ e⟩ (fun b hb => ?_)
    (F.keeps up) (N.grown up) (Nat.ne_of_lt F.ns.lt) (next_is_new F) (fun p hp => Nat.ne_of_lt (Heap.lt_size (N p hp).1)) hm (R _ ⟨_, rfl⟩) ?_
  · show b < (s₁.heap.push _).objs.size
    rw [Heap.size_push]
    rcases List.mem_cons.mp hb with rfl | hb
    · exact Nat.lt_succ_self _
    · rw [List.mem_singleton.mp hb]; exact Nat.lt_succ_of_lt hlt
  · intro D C h tk m' ys news' F' N' o1 hn hC₀ hD₀ hCL hDL hCD offC fin
    refine ⟨m', hn, fun h'' hs'' => fin D h'' tk (F'.change hs'' hCL hC₀) (fun p hp => ?_) o1⟩
    refine ⟨hs''.extBut _ _ ?_ (N' p hp).1, (N' p hp).2⟩
    rcases List.mem_cons.mp hp with rfl | hp
    · exact Ne.symm hCD
    · exact offC p hp
end

end
section
open PySem PySem.Spec PySem.Calls PySem.W PyProof.Rows
open LCg
abbrev rCT (p1 p2 p3 p4 p5 : Pos) : PySem.Expr := .Compare (.Name "key" p1) [.NotEq] [.Tuple [.Constant (.int 0) 0 p2, .Name "gone" p3] 0 p4] p5
abbrev rEL (q1 q2 q3 q4 q5 : Pos) : PySem.Expr := .Tuple [.Name "key" q1, .Subscript (.Name "tables" q2) (.Name "key" q3) q4] 0 q5
abbrev rSC : Scope := { kind := .function, names := [(".0", .local), ("key", .local), ("gone", .free), ("tables", .free)], isGenerator := false, isCoroutine := false, more := [] }
section
variable {prog : Program} {w : World} {A : Around} {E : Value → Shared → Prop} {s : Shared} {h₀ : Heap} {L : Addr} {m : Str → Option Value} {env : Env} {cl : List (Str × Addr)}
/-- a key's object -/
abbrev keyO (z : Int) (tz : Tok) (k : Int) (tk : Tok) (n : Nat) : Obj := { cls := .type "tuple", data := .seq #[.int z tz, .int k tk] n }
theorem key_reads {h : Heap} {a : Addr} {z k : Int} {tz tk : Tok} {n : Nat} (e : h.get? a = some (keyO z tz k tk n)) : ∃ as, Reads h (.ref a) (.tuple [.int z, .int k]) as :=
  ⟨_, reads_tuple_at e rfl rfl (.cons (.int _ _) (.cons (.int _ _) .nil))⟩
theorem rest_test {p1 p2 p3 p4 p5 : Pos} {I C D d cT cG a : Addr} {oI oC od oT oG : Obj} {ys : List Value} {tl : List (Addr × Obj)} {m₂ : Str → Option Value} {gone z k : Int} {tg tz tk : Tok} {n : Nat} {Q : Bool → Shared → Prop}
    (F : Fr h₀ L s.heap m) (N : News h₀ L s.heap ((I, oI) :: (C, oC) :: (D, lst ys) :: (d, od) :: (cT, oT) :: (cG, oG) :: tl)) (hC : NsObj oC m₂) (hk : m₂ ("key" : Str) = some (.ref a)) (hka : (a, keyO z tz k tk n) ∈ tl)
    (hG : oG.data = .cell (some (.int gone tg))) (cG' : cl.lookup ("gone" : Str) = some cG) (kG : (compEnvC rSC cl C env).kindOf ("gone" : Str) = some .cell) (hu : A.units + 64 < cLine)
    (h : ∀ h' tk', Fr h₀ L h' m → News h₀ L h' ((I, oI) :: (C, oC) :: (D, lst ys) :: (d, od) :: (cT, oT) :: (cG, oG) :: tl) → Q (!(z == 0 && k == gone)) { s with heap := h', toks := tk' }) :
    wpAny (model prog w) A (isTrue (rCT p1 p2 p3 p4 p5) (compEnvC rSC cl C env) (eval (rCT p1 p2 p3 p4 p5) (compEnvC rSC cl C env))) Q E s := by
  walk1
  refine LCgL.ld_own N (List.mem_cons_of_mem _ List.mem_cons_self) hC hk ?_
  refine wpAny_Tuple ?_
  repeat (first | walk1 | (dsimp only; walk1))
  refine kcf_cell (s := { s with toks := s.toks + 1 }) N cG' (List.mem_cons_of_mem _ (List.mem_cons_of_mem _ (List.mem_cons_of_mem _ (List.mem_cons_of_mem _ (List.mem_cons_of_mem _ List.mem_cons_self))))) hG ?_ (hx := kG)
  repeat (first | walk1 | (dsimp only; walk1))
  have F' : Fr h₀ L (s.heap.push (keyO 0 s.toks gone tg 0)) m := F.push _
  have up : ∀ b o, s.heap.get? b = some o → (s.heap.push (keyO 0 s.toks gone tg 0)).get? b = some o := fun b o e => Heap.get?_push_of_some _ e
  have N' := N.grown up
  obtain ⟨as, r1⟩ := key_reads (up _ _ (N _ (List.mem_cons_of_mem _ (List.mem_cons_of_mem _ (List.mem_cons_of_mem _ (List.mem_cons_of_mem _ (List.mem_cons_of_mem _ (List.mem_cons_of_mem _ hka))))))).1)
  obtain ⟨bs, r2⟩ := key_reads (z := 0) (tz := s.toks) (k := gone) (tk := tg) (n := 0) (Heap.get?_push_size s.heap (o := keyO 0 s.toks gone tg 0) rfl)
  refine ne_dataH r1 r2 rfl rfl hu ?_
  repeat (first | walk1 | (dsimp only; walk1))
  have e : PyData.eqv (.tuple [.int z, .int k]) (.tuple [.int 0, .int gone]) = (z == 0 && k == gone) := by simp [PyData.eqv, PyData.eqvAll]
  rw [e]
  exact h _ _ F' N'

theorem rest_elt {q1 q2 q3 q4 q5 : Pos} {I C D d cT cG a : Addr} {oI oC od oT oG : Obj} {ys : List Value} {tl : List (Addr × Obj)} {m₂ : Str → Option Value} {z k : Int} {tz tk : Tok} {n : Nat} {v : Value} {xs : List (List Int × Addr × Value)} {Q : Value → Shared → Prop}
    (F : Fr h₀ L s.heap m) (N : News h₀ L s.heap ((I, oI) :: (C, oC) :: (D, lst ys) :: (d, od) :: (cT, oT) :: (cG, oG) :: tl)) (hC : NsObj oC m₂) (hk : m₂ ("key" : Str) = some (.ref a)) (hka : (a, keyO z tz k tk n) ∈ tl)
    (hT : oT.data = .cell (some (.ref d))) (cT' : cl.lookup ("tables" : Str) = some cT) (kT : (compEnvC rSC cl C env).kindOf ("tables" : Str) = some .cell) (hu : A.units + 64 < cLine)
    (H : s.heap.DictOfH (tupleKind (intKind prog w)) d xs) (hp : atKey xs [z, k] = some (a, v))
    (h : ∀ P h' tk', Fr h₀ L h' m → News h₀ L h' ((P, ({ cls := .type "tuple", data := .seq #[.ref a, v] 0 } : Obj)) :: (I, oI) :: (C, oC) :: (D, lst ys) :: (d, od) :: (cT, oT) :: (cG, oG) :: tl) → (∀ p ∈ (I, oI) :: (C, oC) :: (D, lst ys) :: (d, od) :: (cT, oT) :: (cG, oG) :: tl, p.1 < P) → Q (.ref P) { s with heap := h', toks := tk' }) :
    wpAny (model prog w) A (eval (rEL q1 q2 q3 q4 q5) (compEnvC rSC cl C env)) Q E s := by
  refine wpAny_Tuple ?_
  walk1
  refine LCgL.ld_own N (List.mem_cons_of_mem _ List.mem_cons_self) hC hk ?_
  walk1
  walk1
  refine kcf_cell N cT' (List.mem_cons_of_mem _ (List.mem_cons_of_mem _ (List.mem_cons_of_mem _ (List.mem_cons_of_mem _ List.mem_cons_self)))) hT ?_ (hx := kT)
  refine LCgL.ld_own N (List.mem_cons_of_mem _ List.mem_cons_self) hC hk ?_
  have hka' := (N _ (List.mem_cons_of_mem _ (List.mem_cons_of_mem _ (List.mem_cons_of_mem _ (List.mem_cons_of_mem _ (List.mem_cons_of_mem _ (List.mem_cons_of_mem _ hka))))))).1
  have hkey : IsTupleKey (intKind prog w) s.heap [z, k] a := ⟨_, _, _, hka', rfl, rfl, .cons (intKind_is _ _ _ _) (.cons (intKind_is _ _ _ _) .nil)⟩
  refine subscriptTail_builtin H.typeIs slot_dict_getitem.lookup (wpAny_getItem_heap (knd := tupleKind (intKind prog w)) (tupleKind_room_in1 (show A.units + 1 < cLine by omega)) hkey H hp ?_) (by with_unfolding_all rfl) (by intro _; with_unfolding_all rfl)
  repeat (first | walk1 | (dsimp only; walk1))
  exact h _ _ _ (F.push _) (News.push F N _ rfl) (fun p hp => Heap.lt_size (N p hp).1)
end

end
section
open PySem PySem.Spec PySem.Calls PySem.W PyProof.Rows
open LCg
abbrev KX := List (List Int × Addr × Value)
/-- an object that is a dict with these keys and values -/
def DK (prog : Program) (w : World) (od : Obj) (xs : KX) : Prop := od.ExactDict ∧ ∃ es ep, od.data = .dict es ep ∧ es.toList = xs.map (entryOfKey (tupleKind (intKind prog w))) ∧ (xs.map (·.1)).Nodup
/-- the keys' objects stand in the ledger -/
def KIn (nw : List (Addr × Obj)) (xs : KX) : Prop := ∀ x ∈ xs, ∃ z tz k tk n, x.1 = [z, k] ∧ (x.2.1, keyO z tz k tk n) ∈ nw
theorem KIn.sub {nw nw' : List (Addr × Obj)} {xs : KX} (x : KIn nw xs) (h : ∀ p ∈ nw, p ∈ nw') : KIn nw' xs := fun y hy => by obtain ⟨z, tz, k, tk, n, e, m⟩ := x y hy; exact ⟨z, tz, k, tk, n, e, h _ m⟩
theorem keyO_is {prog : Program} {w : World} {h : Heap} {a : Addr} {z k : Int} {tz tk : Tok} {n : Nat} (e : h.get? a = some (keyO z tz k tk n)) : IsTupleKey (intKind prog w) h [z, k] a := ⟨_, _, _, e, rfl, rfl, .cons (intKind_is _ _ _ _) (.cons (intKind_is _ _ _ _) .nil)⟩
theorem DK.at {prog : Program} {w : World} {h₀ h : Heap} {L d : Addr} {od : Obj} {xs : KX} {news : List (Addr × Obj)} (x : DK prog w od xs) (K : KIn news xs) (N : News h₀ L h news) (e : h.get? d = some od) : h.DictOfH (tupleKind (intKind prog w)) d xs :=
by
  obtain ⟨hc, es, ep, hd, he, hn⟩ := x
  exact ⟨od, es, ep, e, hc, hd, he, fun y hy => by obtain ⟨z, tz, k, tk, n, e1, m⟩ := K y hy; rw [e1]; exact keyO_is (N _ m).1, hn⟩
def PairsIn (tl : List (Addr × Obj)) (ys : List Value) (zs : KX) : Prop := ys.length = zs.length ∧ ∀ j, j < zs.length → ∃ p o k a v, ys[j]? = some (.ref p) ∧ zs[j]? = some (k, a, v) ∧ (p, o) ∈ tl ∧ PairO o a v
theorem PairsIn.sub {tl tl' : List (Addr × Obj)} {ys : List Value} {zs : KX} (x : PairsIn tl ys zs) (h : ∀ p ∈ tl, p ∈ tl') : PairsIn tl' ys zs := ⟨x.1, fun j hj => by obtain ⟨p, o, k, a, v, e1, e2, m, r⟩ := x.2 j hj; exact ⟨p, o, k, a, v, e1, e2, h _ m, r⟩⟩
theorem PairsIn.nil {tl : List (Addr × Obj)} : PairsIn tl [] [] := ⟨rfl, fun j hj => absurd hj (Nat.not_lt_zero j)⟩
theorem PairsIn.snoc {tl : List (Addr × Obj)} {ys : List Value} {zs : KX} {p a : Addr} {o : Obj} {k : List Int} {v : Value} (x : PairsIn tl ys zs) (m : (p, o) ∈ tl) (po : PairO o a v) : PairsIn tl (ys ++ [.ref p]) (zs ++ [(k, a, v)]) := by
  refine ⟨by rw [List.length_append, List.length_append, x.1]; rfl, fun j hj => ?_⟩
  rw [List.length_append] at hj
  by_cases h : j < zs.length
  · obtain ⟨p', o', k', a', v', e1, e2, r⟩ := x.2 j h
    exact ⟨p', o', k', a', v', by rw [List.getElem?_append_left (by rw [x.1]; exact h)]; exact e1, by rw [List.getElem?_append_left h]; exact e2, r⟩
  · obtain rfl : j = zs.length := by have : [(k, a, v)].length = 1 := rfl; omega
    exact ⟨p, o, k, a, v, by rw [← x.1, List.getElem?_append_right (Nat.le_refl _), Nat.sub_self]; rfl, by rw [List.getElem?_append_right (Nat.le_refl _), Nat.sub_self]; rfl, m, po⟩
def keepF (gone : Int) (x : List Int × Addr × Value) : Bool := !decide (x.1 = [0, gone])
section
variable {prog : Program} {w : World} {A : Around} {E : Value → Shared → Prop} {s : Shared} {h₀ : Heap} {L : Addr} {m : Str → Option Value} {env : Env} {cl : List (Str × Addr)}
theorem rest_turns {p1 p2 p3 p4 p5 q1 q2 q3 q4 q5 : Pos} {d cT cG : Addr} {od oT oG : Obj} {gone : Int} {tg : Tok} {xs : KX} {es : Array DictEntry} {ep : Nat} {tl₀ : List (Addr × Obj)} {Fin : List Value → List (Addr × Obj) → Prop}
    (hT : oT.data = .cell (some (.ref d))) (hG : oG.data = .cell (some (.int gone tg))) (cT' : cl.lookup ("tables" : Str) = some cT) (cG' : cl.lookup ("gone" : Str) = some cG)
    (kT : ∀ C, (compEnvC rSC cl C env).kindOf ("tables" : Str) = some .cell) (kG : ∀ C, (compEnvC rSC cl C env).kindOf ("gone" : Str) = some .cell) (hu : A.units + 64 < cLine)
    (hc : od.ExactDict) (hd : od.data = .dict es ep) (he : es.toList = xs.map (entryOfKey (tupleKind (intKind prog w)))) (hn : (xs.map (·.1)).Nodup)
    (fin : ∀ ys tl, KIn tl xs → (∀ p ∈ tl₀, p ∈ tl) → PairsIn tl ys (xs.filter (keepF gone)) → Fin ys ((d, od) :: (cT, oT) :: (cG, oG) :: tl)) :
    ∀ n i ys tl, i + n = xs.length → KIn tl xs → (∀ p ∈ tl₀, p ∈ tl) → PairsIn tl ys ((xs.take i).filter (keepF gone)) →
      LCt.CompRestT prog w A h₀ L m env (rCT p1 p2 p3 p4 p5) (rEL q1 q2 q3 q4 q5) ("key" : Str) rSC cl s (fun nw => (d, od) ∈ nw) (fun i v => ∃ e, es[i]? = some e ∧ v = e.key) Fin n i ys ((d, od) :: (cT, oT) :: (cG, oG) :: tl) := by
  intro n
  induction n with
  | zero =>
    intro i ys tl hi K S P
    obtain rfl : i = xs.length := by omega
    rw [List.take_length] at P
    exact LCt.CompRestT.zero (fin ys tl K S P)
  | succ n ih =>
    intro i ys tl hi K S P
    refine LCt.CompRestT.succ fun v I oI C oC D m₂ h tk E' hv hC hx F N off ne => ?_
    obtain ⟨e, hei, rfl⟩ := hv
    have hlt : i < xs.length := by omega
    obtain ⟨⟨ks, a, v⟩, hxi⟩ : ∃ x, xs[i]? = some x := ⟨xs[i], List.getElem?_eq_getElem hlt⟩
    have hee : e = entryOfKey (tupleKind (intKind prog w)) (ks, a, v) := by
      have := entry_at he i
      rw [hei, hxi] at this
      exact Option.some.inj this
    subst hee
    obtain ⟨z, tz, k, tk', nn, e1, hka⟩ := K _ (List.mem_of_getElem? hxi)
    simp only at e1 hka
    subst e1
    have hp : atKey xs [z, k] = some (a, v) := atKey_of_get hn hxi
    have htake : xs.take (i + 1) = xs.take i ++ [([z, k], a, v)] := by rw [List.take_add_one, hxi]; rfl
    refine rest_test (s := { s with heap := h, toks := tk }) F N hC hx hka hG cG' (kG C) hu fun h₁ tk₁ F₁ N₁ => ?_
    by_cases hq : [z, k] = [0, gone]
    · have hz : z = 0 := by injection hq
      have hk : k = gone := by injection hq with _ q; injection q
      subst hz hk
      have e0 : (!((0 : Int) == 0 && k == k)) = false := by simp
      rw [e0, if_neg Bool.false_ne_true]
      refine LCg.CompEnd.intro F₁ N₁ _ (fun p hp => hp) off List.mem_cons_self ?_
      refine ih (i + 1) ys tl (by omega) K S ?_
      rw [htake, List.filter_append]
      have : [(([0, k], a, v) : List Int × Addr × Value)].filter (keepF k) = [] := by simp [keepF]
      rw [this, List.append_nil]
      exact P
    · have hb : (!(z == 0 && k == gone)) = true := by
        simp only [Bool.not_eq_true', Bool.and_eq_false_iff, beq_eq_false_iff_ne]
        by_cases hz : z = 0
        · exact .inr fun hk => hq (by rw [hz, hk])
        · exact .inl hz
      rw [hb, if_pos rfl]
      have hD : h₁.DictOfH (tupleKind (intKind prog w)) d xs := DK.at (news := tl) ⟨hc, es, ep, hd, he, hn⟩ K (fun p hp => N₁ p (by simp only [List.mem_cons]; simp [hp])) (N₁ _ (List.mem_cons_of_mem _ (List.mem_cons_of_mem _ (List.mem_cons_of_mem _ List.mem_cons_self)))).1
      refine rest_elt (s := { s with heap := h₁, toks := tk₁ }) F₁ N₁ hC hx hka hT cT' (kT C) hu hD hp fun P' h₂ tk₂ F₂ N₂ lt => ?_
      refine LCg.CompEnd.intro F₂ N₂ ((d, od) :: (cT, oT) :: (cG, oG) :: (P', { cls := .type "tuple", data := .seq #[.ref a, v] 0 }) :: tl) (fun p hp => ?_) (LCg.Off3.of fun p hp => ?_) List.mem_cons_self ?_
      · simp only [List.mem_cons] at hp ⊢
        rcases hp with h | h | h | h | h | h | h | h <;> simp [h]
      · simp only [List.mem_cons] at hp
        have o3 := off.mem
        rcases hp with rfl | rfl | rfl | rfl | h
        · exact o3 _ List.mem_cons_self
        · exact o3 _ (List.mem_cons_of_mem _ List.mem_cons_self)
        · exact o3 _ (List.mem_cons_of_mem _ (List.mem_cons_of_mem _ List.mem_cons_self))
        · exact ⟨Nat.ne_of_gt (lt _ List.mem_cons_self), Nat.ne_of_gt (lt _ (List.mem_cons_of_mem _ List.mem_cons_self)), Nat.ne_of_gt (lt _ (List.mem_cons_of_mem _ (List.mem_cons_of_mem _ List.mem_cons_self)))⟩
        · exact o3 _ (List.mem_cons_of_mem _ (List.mem_cons_of_mem _ (List.mem_cons_of_mem _ h)))
      · refine ih (i + 1) (ys ++ [.ref P']) _ (by omega) (K.sub fun p hp => List.mem_cons_of_mem _ hp) (fun p hp => List.mem_cons_of_mem _ (S p hp)) ?_
        rw [htake, List.filter_append]
        have : [(([z, k], a, v) : List Int × Addr × Value)].filter (keepF gone) = [([z, k], a, v)] := by
          rw [List.filter_cons_of_pos (by simp only [keepF, Bool.not_eq_true', decide_eq_false_iff_not]; exact hq)]; rfl
        rw [this]
        exact (P.sub fun p hp => List.mem_cons_of_mem _ hp).snoc List.mem_cons_self ⟨rfl, 0, rfl⟩
end

end
section
open PySem PySem.Spec PySem.Calls PySem.W PyProof.Rows
open LCg
theorem DK.ofEmpty {prog : Program} {w : World} {K' : Type} [DecidableEq K'] {knd' : KeyKind prog w K'} {o : Obj} (hd : o.IsDictOf knd' []) : DK prog w o [] := by
  obtain ⟨es, ep, hc, hdat, _, hp, _⟩ := hd
  exact ⟨hc, es, ep, hdat, List.length_eq_zero_iff.mp hp.length, List.nodup_nil⟩
theorem KIn.nil {nw : List (Addr × Obj)} : KIn nw [] := fun _ h => by simp at h
theorem atKey_stored {xs : KX} {k k' : List Int} {a : Addr} {v : Value} : (atKey (storedH xs k a v) k').isSome = (decide (k = k') || (atKey xs k').isSome) := by
  rw [← any_kvsOf, ← any_kvsOf, kvsOf_storedH]
  unfold stored
  split
  · rename_i h
    simp only [List.any_map]
    by_cases e : k = k'
    · subst e
      rw [decide_eq_true rfl, Bool.true_or]
      rw [List.any_eq_true] at h ⊢
      obtain ⟨x, hx, e⟩ := h
      refine ⟨x, hx, ?_⟩
      simp only [decide_eq_true_eq] at e
      simp [e]
    · rw [decide_eq_false e, Bool.false_or]
      congr 1
      funext x
      simp only [Function.comp]
      by_cases q : x.1 = k
      · simp [q]
      · simp [q]
  · rw [List.any_append]
    simp only [List.any_cons, List.any_nil, Bool.or_false]
    rw [Bool.or_comm]
theorem stored_len {xs : KX} {k : List Int} {a : Addr} {v : Value} : (storedH xs k a v).length ≤ xs.length + 1 := by
  unfold storedH
  split
  · rw [List.length_map]; omega
  · rw [List.length_append]; exact Nat.le_refl _
theorem keep_nodup {xs : KX} {g : Int} (h : (xs.map (·.1)).Nodup) : ((xs.filter (keepF g)).map (·.1)).Nodup := List.Nodup.sublist (List.Sublist.map _ List.filter_sublist) h
theorem atKey_keep_gone {xs : KX} {g : Int} : (atKey (xs.filter (keepF g)) [0, g]).isSome = false := by
  rw [← any_kvsOf]
  unfold kvsOf
  rw [List.any_map, Bool.eq_false_iff]
  intro q
  rw [List.any_eq_true] at q
  obtain ⟨x, hx, e⟩ := q
  have := (List.mem_filter.mp hx).2
  simp only [Function.comp, decide_eq_true_eq] at e
  simp [keepF, e] at this
section
variable {prog : Program} {w : World} {A : Around} {E : Value → Shared → Prop} {s : Shared} {h₀ : Heap} {L : Addr} {m : Str → Option Value} {env : Env} {cl : List (Str × Addr)}
theorem set_K {d a : Addr} {od : Obj} {xs : KX} {pre post news : List (Addr × Obj)} {z k : Int} {tz tk : Tok} {n : Nat} {v : Value} {Q : Unit → Shared → Prop}
    (F : Fr h₀ L s.heap m) (N : News h₀ L s.heap news) (e : news = pre ++ (d, od) :: post) (hne : ∀ p ∈ pre ++ post, p.1 ≠ d) (D : DK prog w od xs) (K : KIn (pre ++ post) xs) (hka : (a, keyO z tz k tk n) ∈ pre ++ post) (hu : A.units + 1 < cLine) (hsz : xs.length ≤ sizeLine)
    (hq : ∀ h' od' tk', DK prog w od' (storedH xs [z, k] a v) → Fr h₀ L h' m → News h₀ L h' (pre ++ (d, od') :: post) → Q () { s with heap := h', toks := tk' }) :
    wpAny (model prog w) A (setItem (.ref d) (.ref a) v) Q E s := by
  subst e
  have hm : (d, od) ∈ pre ++ (d, od) :: post := List.mem_append_right _ List.mem_cons_self
  have sub : ∀ p ∈ pre ++ post, p ∈ pre ++ (d, od) :: post := fun p hp => by
    rcases List.mem_append.mp hp with h | h
    · exact List.mem_append_left _ h
    · exact List.mem_append_right _ (List.mem_cons_of_mem _ h)
  have hD : s.heap.DictOfH (tupleKind (intKind prog w)) d xs := D.at (K.sub sub) N (N _ hm).1
  refine wpAny_setItem_heap (hsz := hsz) (knd := tupleKind (intKind prog w)) (tupleKind_room_in1 hu) (keyO_is (N _ (sub _ hka)).1) hD fun h' hm' hs => ?_
  obtain ⟨o', es', ep', ho', hc', hd', he', _, hn'⟩ := hm'
  refine hq h' o' _ ⟨hc', es', ep', hd', he', hn'⟩ (F.change hs (N _ hm).2.1 (N _ hm).2.2) fun p hp => ?_
  rcases List.mem_append.mp hp with h | h
  · have := N p (List.mem_append_left _ h)
    exact ⟨hs.extBut _ _ (hne p (List.mem_append_left _ h)) this.1, this.2⟩
  · rcases List.mem_cons.mp h with rfl | h
    · exact ⟨ho', (N _ hm).2⟩
    · have := N p (List.mem_append_right _ (List.mem_cons_of_mem _ h))
      exact ⟨hs.extBut _ _ (hne p (List.mem_append_right _ h)) this.1, this.2⟩

theorem srcD_ {p1 p2 p3 p4 p5 q1 q2 q3 q4 q5 : Pos} {d cT cG : Addr} {od oT oG : Obj} {gone : Int} {tg : Tok} {xs : KX} {nw : List (Addr × Obj)} {Q : Value → Shared → Prop}
    (hh : A.handled = none) (F : Fr h₀ L s.heap m) (N : News h₀ L s.heap nw) (lo : (d == sysModules) = false) (cT' : cl.lookup ("tables" : Str) = some cT) (cG' : cl.lookup ("gone" : Str) = some cG) (M : (d, od) ∈ nw) (MT : (cT, oT) ∈ nw) (MG : (cG, oG) ∈ nw) (Dk : DK prog w od xs) (K : KIn nw xs)
    (hT : oT.data = .cell (some (.ref d))) (hG : oG.data = .cell (some (.int gone tg)))
    (kT : ∀ C, (compEnvC rSC cl C env).kindOf ("tables" : Str) = some .cell) (kG : ∀ C, (compEnvC rSC cl C env).kindOf ("gone" : Str) = some .cell) (hu : A.units + 64 < cLine) (hsz : xs.length ≤ sizeLine)
    (k : ∀ D ys tl h' tk', Fr h₀ L h' m → News h₀ L h' ((D, lst ys) :: tl) → News h₀ L h' ((D, lst ys) :: nw) → KIn tl xs → PairsIn tl ys (xs.filter (keepF gone)) → (∀ p ∈ nw, p.1 ≠ D) → Q (.ref D) { s with heap := h', toks := tk' }) :
    SrcD prog w A h₀ L m env (rCT p1 p2 p3 p4 p5) (rEL q1 q2 q3 q4 q5) ("key" : Str) rSC cl Q (.ref d) s := by
  obtain ⟨hc, es, ep, hd, he, hn⟩ := id Dk
  refine ⟨d, es, ep, od, (d, od) :: (cT, oT) :: (cG, oG) :: nw, rfl, hh, F, fun p hp => ?_, lo, List.mem_cons_self, hc, hd, by rw [size_of_entries he]; exact hsz, ?_⟩
  · simp only [List.mem_cons] at hp
    rcases hp with rfl | rfl | rfl | h
    · exact N _ M
    · exact N _ MT
    · exact N _ MG
    · exact N _ h
  · rintro s₂ ⟨h, rfl⟩
    have hsz' : es.size = xs.length := size_of_entries he
    rw [hsz']
    refine rest_turns (tl₀ := nw) hT hG cT' cG' kT kG hu hc hd he hn (fun ys tl K' S P => ?_) xs.length 0 [] nw (by omega) K (fun p hp => hp) (by rw [List.take_zero]; exact .nil)
    intro D h' tk' F' N' o1
    have ne : ∀ {l : List (Addr × Obj)}, LCg.Off1 D l → ∀ p ∈ l, p.1 ≠ D := fun {l} => by
      induction l with
      | nil => intro _ p hp; simp at hp
      | cons q r ih =>
        intro x p hp
        rcases List.mem_cons.mp hp with rfl | hp
        · exact x.1
        · exact ih x.2 p hp
    refine k D ys tl h' tk' F' (fun p hp => ?_) (fun p hp => ?_) K' P fun p hp => ne o1 p (List.mem_cons_of_mem _ (List.mem_cons_of_mem _ (List.mem_cons_of_mem _ (S p hp))))
    · rcases List.mem_cons.mp hp with rfl | hp
      · exact N' _ List.mem_cons_self
      · exact N' _ (List.mem_cons_of_mem _ (List.mem_cons_of_mem _ (List.mem_cons_of_mem _ (List.mem_cons_of_mem _ hp))))
    · rcases List.mem_cons.mp hp with rfl | hp
      · exact N' _ List.mem_cons_self
      · exact N' _ (List.mem_cons_of_mem _ (List.mem_cons_of_mem _ (List.mem_cons_of_mem _ (List.mem_cons_of_mem _ (S p hp)))))

theorem dict_K {D : Addr} {ys : List Value} {zs : KX} {nw tl : List (Addr × Obj)} {Q : Value → Shared → Prop} (hu : A.units + 64 < cLine) (hh : A.handled = none) (hbig : h₀.NoLimit) (F : Fr h₀ L s.heap m) (Nt : News h₀ L s.heap ((D, lst ys) :: tl)) (N : News h₀ L s.heap nw)
    (K : KIn tl zs) (P : PairsIn tl ys zs) (hn : (zs.map (·.1)).Nodup) (hsz : zs.length ≤ sizeLine)
    (ret : ∀ d od h' tk', (d == sysModules) = false → DK prog w od zs → Fr h₀ L h' m → News h₀ L h' ((d, od) :: nw) → (∀ p ∈ nw, p.1 < d) → Q (.ref d) { s with heap := h', toks := tk' }) :
    wpAny (model prog w) A (call (.type "dict") [.ref D]) Q E s := by
  have hD := (Nt _ List.mem_cons_self).1
  refine dict_pairs (show A.units + 2 < cLine by omega) hh P.1 hn hsz (l := D) (vs := ys) ⟨_, hD, rfl, _, rfl⟩ ⟨_, _, hD⟩ (fun j hj => ?_) fun h' tk' up hd => ?_
  · obtain ⟨p, o, k, a, v, e1, e2, mm, po⟩ := P.2 j hj
    obtain ⟨z, tz, kk, tk, n, e3, m3⟩ := K _ (List.mem_of_getElem? e2)
    simp only at e3 m3
    subst e3
    exact ⟨p, o, _, a, v, e1, e2, (Nt _ (List.mem_cons_of_mem _ mm)).1, po, keyO_is (Nt _ (List.mem_cons_of_mem _ m3)).1⟩
  · obtain ⟨o', es, ep, ho, hc, hd', he, _, hn'⟩ := hd
    refine ret _ o' h' tk' (F.notModules (modules_low hbig)) ⟨hc, es, ep, hd', he, hn'⟩ (F.keeps up) (fun p hp => ?_) fun p hp => Heap.lt_size (N p hp).1
    rcases List.mem_cons.mp hp with rfl | hp
    · exact ⟨ho, (Nat.ne_of_lt F.ns.lt).symm, next_is_new F⟩
    · exact ⟨up _ _ (N p hp).1, (N p hp).2⟩
end

end
section
open PySem PySem.Spec PySem.Calls PySem.W PyProof.Rows
section
variable {prog : Program} {w : World} {A : Around} {E : Value → Shared → Prop} {s : Shared} {env : Env} {h₀ : Heap} {x : Str} {body : List Stmt} {Q : Flow → Shared → Prop}
theorem unr_mono {L : Addr} {s₁ : Shared} {I : Addr} {it : Obj} {r r' : (Str → Option Value) → List (Addr × Obj) → Prop} (k : ∀ m n, r m n → r' m n) {f : Flow} {s₂ : Shared} (h : UnrPost h₀ L s₁ I it r Q f s₂) : UnrPost h₀ L s₁ I it r' Q f s₂ := by
  cases f with
  | ret v => exact h
  | brk => exact h
  | next => obtain ⟨h', tk, m', n', e, F, N, o, q⟩ := h; exact ⟨h', tk, m', n', e, F, N, o, k _ _ q⟩
  | cont => obtain ⟨h', tk, m', n', e, F, N, o, q⟩ := h; exact ⟨h', tk, m', n', e, F, N, o, k _ _ q⟩
/-- a loop over a written range by an invariant -/
theorem range_J {I : Addr} {a : Int} {n : Nat} (J : Nat → (Str → Option Value) → List (Addr × Obj) → Prop)
    (step : ∀ i m₁ news₁ t h tk, i < n → J i m₁ news₁ → Fr h₀ env.locals h (fun y => if y = x then some (.int (a + (i : Int)) t) else m₁ y) → News h₀ env.locals h ((I, itR (a + ((i + 1 : Nat) : Int)) ((n : Int) - ((i + 1 : Nat) : Int))) :: news₁) →
      wpAny (model prog w) A (execs body env) (UnrPost h₀ env.locals { s with heap := h, toks := tk } I (itR (a + ((i + 1 : Nat) : Int)) ((n : Int) - ((i + 1 : Nat) : Int))) (J (i + 1)) Q) E { s with heap := h, toks := tk })
    (fin : ∀ m' news' h tk, J n m' news' → Fr h₀ env.locals h m' → News h₀ env.locals h news' → Q .next { s with heap := h, toks := tk }) :
    ∀ k i m news, i + k = n → J i m news → RangeRest prog w A E h₀ env x body Q s I a n k i m news := by
  intro k
  induction k with
  | zero =>
    intro i m news e j
    obtain rfl : i = n := by omega
    exact RangeRest.zero fun h tk F N => fin m news h tk j F N
  | succ k ih =>
    intro i m news e j
    exact RangeRest.succ fun t h tk F N => wpAny_mono (step i m news t h tk (by omega) j F N) (fun f s₂ p => unr_mono (fun m n q => ih (i + 1) m n (by omega) q) p) fun _ _ e => e
end
theorem news_ne {H h : Heap} {L a b : Addr} {o₁ o₂ : Obj} {news : List (Addr × Obj)} (N : News H L h news) (m1 : (a, o₁) ∈ news) (m2 : (b, o₂) ∈ news) (h : o₁ ≠ o₂) : @Ne Nat a b := fun e => h (by
  have h1 := (N _ m1).1
  have h2 := (N _ m2).1
  simp only at h1 h2
  rw [show a = b from e, h2] at h1
  exact (Option.some.inj h1).symm)
theorem ne_cls {o₁ o₂ : Obj} {a b : String} (h1 : o₁.cls = .type a) (h2 : o₂.cls = .type b) (h : a ≠ b) : o₁ ≠ o₂ := fun e => h (by rw [e, h2] at h1; injection h1 with q; exact q.symm)
theorem KIn.stored {kl : List (Addr × Obj)} {xs : KX} {a : Addr} {z k : Int} {tz tk : Tok} {n : Nat} {v : Value} (K : KIn kl xs) : KIn ((a, keyO z tz k tk n) :: kl) (storedH xs [z, k] a v) := fun x hx => by
  rcases mem_storedH hx with ⟨y, hy, e1, e2⟩ | ⟨e1, e2⟩
  · obtain ⟨z', tz', k', tk', n', q, m⟩ := K y hy
    exact ⟨z', tz', k', tk', n', by rw [e1]; exact q, by rw [e2]; exact List.mem_cons_of_mem _ m⟩
  · exact ⟨z, tz, k, tk, n, e1, by rw [e2]; exact List.mem_cons_self⟩
theorem set_W {prog : Program} {w : World} {A : Around} {E : Value → Shared → Prop} {s : Shared} {h₀ : Heap} {L : Addr} {m : Str → Option Value} {d a : Addr} {od : Obj} {xs : KX} {pre post news kl : List (Addr × Obj)} {z k : Int} {tz tk : Tok} {n : Nat} {v : Value} {Q : Unit → Shared → Prop}
    (F : Fr h₀ L s.heap m) (N : News h₀ L s.heap news) (Wh : Here d od news pre post) (D : DK prog w od xs) (K : KIn kl xs) (S : ∀ p ∈ kl, p ∈ pre ++ post) (hka : (a, keyO z tz k tk n) ∈ pre ++ post) (hu : A.units + 1 < cLine) (hsz : xs.length ≤ sizeLine)
    (hq : ∀ h' od' tk', DK prog w od' (storedH xs [z, k] a v) → KIn ((a, keyO z tz k tk n) :: kl) (storedH xs [z, k] a v) → Fr h₀ L h' m → News h₀ L h' (pre ++ (d, od') :: post) → Q () { s with heap := h', toks := tk' }) :
    wpAny (model prog w) A (setItem (.ref d) (.ref a) v) Q E s :=
  set_K F N Wh.is.1 Wh.is.2 D (K.sub S) hka hu hsz fun h' od' tk' D' F' N' => hq h' od' tk' D' K.stored F' N'
/-- the loop over the tables: what holds ahead of turn i -/
def TabJ (prog : Program) (w : World) (m₀ : Str → Option Value) (d src : Addr) (fixed : List (Addr × Obj)) (ns : List Int) (i : Nat) (m₁ : Str → Option Value) (news₁ : List (Addr × Obj)) : Prop :=
  (∀ y, y ≠ ("slot" : Str) → m₁ y = m₀ y) ∧ ∃ od xs x y tx ty kl, news₁ = (d, od) :: (src, srcO x y tx ty) :: (fixed ++ kl) ∧ 0 ≤ x ∧ 0 ≤ y ∧ y < 2147483647 ∧ DK prog w od xs ∧ KIn kl xs ∧ (∀ p ∈ kl, p.2.cls = .type "tuple") ∧ xs.length ≤ 2 * i ∧ (∀ n ∈ ns, n < (i : Int) → (atKey xs [0, n]).isSome = true)
theorem tab_end {prog : Program} {w : World} {H h' : Heap} {L d src I : Addr} {it od : Obj} {m₀ mm : Str → Option Value} {fixed all kl : List (Addr × Obj)} {ns : List Int} {i tk : Nat} {xs : KX} {x y : Int} {tx ty : Tok} {s₁ : Shared}
    (F : Fr H L h' mm) (N : News H L h' all) (hm : ∀ y, y ≠ ("slot" : Str) → mm y = m₀ y) (mI : (I, it) ∈ all) (md : (d, od) ∈ all) (ms : (src, srcO x y tx ty) ∈ all) (mf : ∀ p ∈ fixed, p ∈ all) (mk : ∀ p ∈ kl, p ∈ all)
    (cI : it.cls = .type "range_iterator") (of : ∀ p ∈ fixed, @Ne Nat p.1 I) (gx : 0 ≤ x) (gy : 0 ≤ y) (gz : y < 2147483647) (D : DK prog w od xs) (K : KIn kl xs) (ck : ∀ p ∈ kl, p.2.cls = .type "tuple") (hl : xs.length ≤ 2 * (i + 1)) (hin : ∀ n ∈ ns, n < ((i + 1 : Nat) : Int) → (atKey xs [0, n]).isSome = true) :
    UnrEnd H L s₁ I it (TabJ prog w m₀ d src fixed ns (i + 1)) { s₁ with heap := h', toks := tk } := by
  refine UnrEnd.intro F N ((d, od) :: (src, srcO x y tx ty) :: (fixed ++ kl)) (fun p hp => ?_) (fun p hp => ?_) ⟨hm, od, xs, x, y, tx, ty, kl, rfl, gx, gy, gz, D, K, ck, hl, hin⟩
  · simp only [List.mem_cons, List.mem_append] at hp
    rcases hp with rfl | rfl | rfl | h | h
    · exact mI
    · exact md
    · exact ms
    · exact mf _ h
    · exact mk _ h
  · simp only [List.mem_cons, List.mem_append] at hp
    rcases hp with rfl | rfl | h | h
    · exact news_ne N md mI (ne_cls D.1.1 cI (by decide))
    · exact news_ne N ms mI (ne_cls rfl cI (by decide))
    · exact of _ h
    · exact news_ne (o₁ := p.2) N (mk _ h) mI (ne_cls (ck _ h) cI (by decide))
theorem tab_in2 {xs : KX} {ns : List Int} {i : Nat} {a1 a2 : Addr} {v1 v2 : Value} (hin : ∀ n ∈ ns, n < (i : Int) → (atKey xs [0, n]).isSome = true) :
    ∀ n ∈ ns, n < ((i + 1 : Nat) : Int) → (atKey (storedH (storedH xs [1, 0 + (i : Int)] a1 v1) [0, 0 + (i : Int)] a2 v2) [0, n]).isSome = true := fun n hn h => by
  rw [atKey_stored, atKey_stored]
  by_cases q : n = (i : Int)
  · rw [decide_eq_true (by rw [q, Int.zero_add]), Bool.true_or]
  · rw [hin n hn (by omega), Bool.or_true, Bool.or_true]
theorem tab_in1 {xs : KX} {ns : List Int} {i : Nat} {a1 : Addr} {v1 : Value} (h : (ns.any fun x => x == 0 + (i : Int)) = false) (hin : ∀ n ∈ ns, n < (i : Int) → (atKey xs [0, n]).isSome = true) :
    ∀ n ∈ ns, n < ((i + 1 : Nat) : Int) → (atKey (storedH xs [1, 0 + (i : Int)] a1 v1) [0, n]).isSome = true := fun n hn h' => by
  rw [atKey_stored]
  have q : n ≠ (i : Int) := fun e => by
    rw [List.any_eq_false] at h
    exact h n hn (by simp [e])
  rw [hin n hn (by omega), Bool.or_true]
theorem tab_len1 {xs : KX} {k1 : List Int} {i : Nat} {a1 : Addr} {v1 : Value} (h : xs.length ≤ 2 * i) : (storedH xs k1 a1 v1).length ≤ 2 * (i + 1) := Nat.le_trans stored_len (by omega)
theorem tab_len2 {xs : KX} {k1 k2 : List Int} {i : Nat} {a1 a2 : Addr} {v1 v2 : Value} (h : xs.length ≤ 2 * i) : (storedH (storedH xs k1 a1 v1) k2 a2 v2).length ≤ 2 * (i + 1) := Nat.le_trans stored_len (by have := @stored_len xs k1 a1 v1; omega)
theorem tup_cons {a : Addr} {z k : Int} {tz tk : Tok} {n : Nat} {kl : List (Addr × Obj)} (h : ∀ p ∈ kl, p.2.cls = .type "tuple") : ∀ p ∈ (a, keyO z tz k tk n) :: kl, p.2.cls = .type "tuple" := fun p hp => by
  rcases List.mem_cons.mp hp with rfl | hp
  · rfl
  · exact h p hp
theorem ne_fixed {I a b c e : Addr} {oa ob oc oe : Obj} (h1 : @LT.lt Nat _ a I) (h2 : @LT.lt Nat _ b I) (h3 : @LT.lt Nat _ c I) (h4 : @LT.lt Nat _ e I) : ∀ p ∈ [(a, oa), (b, ob), (c, oc), (e, oe)], @Ne Nat p.1 I := fun p hp => by
  simp only [List.mem_cons, List.not_mem_nil, or_false] at hp
  rcases hp with rfl | rfl | rfl | rfl
  · exact Nat.ne_of_lt h1
  · exact Nat.ne_of_lt h2
  · exact Nat.ne_of_lt h3
  · exact Nat.ne_of_lt h4

end
section
open PySem PySem.Spec PySem.Calls PySem.W PyProof.Rows
/-- the law's own def: its statements and its scope -/
def lawFn : List Stmt × Scope := match PySem.Challenge.rw_xm0816_01.row.prog.main.body.getLast? with
  | some (.FunctionDef _ _ b _ _ _ sc _ _ _) => (b, sc)
  | _ => ([], default)
def Stop (p : Prop) : Prop := p
theorem stop_ {p : Prop} (h : Stop p) : p := h
theorem go_ {p : Prop} (h : p) : Stop p := h
theorem HD_of {prog : Program} {w : World} {H h : Heap} {L d : Addr} {od : Obj} {xs : KX} {kl news : List (Addr × Obj)} (lo : (d == sysModules) = false) (D : DK prog w od xs) (K : KIn kl xs) (N : News H L h news) (m : (d, od) ∈ news) (S : ∀ p ∈ kl, p ∈ news) : HD prog w h d xs := ⟨lo, D.at (K.sub S) N (N _ m).1⟩
theorem DK.nodup {prog : Program} {w : World} {od : Obj} {xs : KX} (D : DK prog w od xs) : (xs.map (·.1)).Nodup := by obtain ⟨_, _, _, _, _, hn⟩ := D; exact hn
theorem KIn.filter {kl : List (Addr × Obj)} {xs : KX} {f : List Int × Addr × Value → Bool} (K : KIn kl xs) : KIn kl (xs.filter f) := fun x hx => K x (List.mem_filter.mp hx).1
theorem has_all {ns : List Int} {xs : KX} (hb : ∀ n ∈ ns, 0 ≤ n ∧ n < 4) (h : ∀ n ∈ ns, n < ((5 : Nat) : Int) → (atKey xs [0, n]).isSome = true) : hasF ns xs = true := by
  unfold hasF
  rw [List.all_eq_true]
  exact fun n hn => h n hn (by have := hb n hn; omega)
theorem has_gone {ns : List Int} {xs : KX} {g : Int} (hg : g ∈ ns) : hasF ns (xs.filter (keepF g)) = false := by
  unfold hasF
  rw [List.all_eq_false]
  exact ⟨g, hg, by rw [atKey_keep_gone]; exact Bool.false_ne_true⟩
theorem keep_len {xs : KX} {g : Int} {n : Nat} (h : xs.length ≤ 2 * n) (hn : n ≤ 5) : (xs.filter (keepF g)).length ≤ sizeLine := by
  rw [PySem.sizeLine_eq]
  have := List.length_filter_le (keepF g) xs
  omega

section
theorem pick_t {ns : List Int} {xs : KX} {b : Bool} (h : hasF ns xs = b) (k : hasF ns xs = true) : b = true := h.symm.trans k
theorem pick_f {ns : List Int} {xs : KX} {b : Bool} (h : hasF ns xs = b) (k : hasF ns xs = false) : b = false := h.symm.trans k
theorem words5 : True := by
  k_with_none
  k_with "k_ne" => (refine neN ?_; (try dsimp only); first | with_reducible assumption | exact Ne.symm (by with_reducible assumption) | exact Nat.ne_of_gt (by with_reducible assumption) | exact Nat.ne_of_lt (by with_reducible assumption) | k_extra "ne in" | exact Ne.symm (by k_extra "ne in"))
  k_with "ne in" => first | exact ne1 (by with_reducible assumption) | exact ne2 (by with_reducible assumption) | exact ne3 (by with_reducible assumption) | exact ne4 (by with_reducible assumption) | exact ne5 (by with_reducible assumption) | exact ne6 (by with_reducible assumption) | exact ne7 (by with_reducible assumption) | exact ne8 (by with_reducible assumption) | exact nl2 (by with_reducible assumption) | exact nl3 (by with_reducible assumption) | exact nl4 (by with_reducible assumption) | exact nl5 (by with_reducible assumption) | exact nl6 (by with_reducible assumption) | exact nl7 (by with_reducible assumption)
  k_with "UnrEnd" => (refine stop_ ?_)
  k_with "pyIter ref" => (k_here; (refine stop_ ?_))
  k_with "src all" => first | assumption | exact List.forall_mem_nil _ | exact List.forall_mem_cons.mpr ⟨by k_ne, by k_extra "src all"⟩
  k_with "src here" => first | exact Here.head (by k_extra "src all") | exact Here.tail (by k_ne) (by k_extra "src here")
  k_with "call ref" => (k_here; (with_reducible show wpAny _ _ (call (Value.ref 222) [Value.ref _, Value.int _ _]) _ _ _); k_dflt (refine take_at (by k_asm) (by k_asm) (by k_asm) (by k_asm) (by k_asm) (by first | exact rfl | assumption) (by k_extra "src here") (by first | exact Nat.le_of_ble_eq_true rfl | ktr_room) (by first | exact Nat.le_of_ble_eq_true rfl | ktr_units) (by assumption) (by assumption) (by assumption) (by decide) (by decide) ?_); intro v' t' x' tx' y' ty' h' tk' g1' g2' g3' g4' g5' F' N'; (try simp only [List.nil_append, List.cons_append] at N'))
  k_with "setItem ref ref" => (k_here; (rename DK _ _ _ _ => kD); (rename KIn _ _ => kK); (rename List.length _ ≤ 2 * _ => kL); k_dflt (refine set_W (by k_asm) (by k_asm) (by k_extra "src here") kD kK (by kcj_in) (by kcj_m) (by first | exact Nat.le_of_ble_eq_true rfl | ktr_units) (by first | (rw [PySem.sizeLine_eq]; omega) | (refine Nat.le_trans stored_len ?_; rw [PySem.sizeLine_eq]; omega)) ?_); intro h' od' tk' D' K' F' N'; (try simp only [List.nil_append, List.cons_append] at N'))
  k_with "call ref" => (k_here; (with_reducible show wpAny _ _ (call (Value.ref 241) [Value.ref _, Value.ref _]) _ _ _); (rename DK _ _ _ _ => kD); (rename KIn _ _ => kK); k_dflt (refine has_spec (by k_asm) (by k_asm) (by k_asm) (by k_asm) (by k_asm) (by k_asm) (by k_asm) (by first | exact rfl | assumption) (by kcj_m) (by exact HD_of (by assumption) kD (by first | assumption | exact KIn.filter kK) (by k_asm) (by kcj_m) (by kcj_in)) (by first | exact Nat.le_of_ble_eq_true rfl | ktr_room) (by first | exact Nat.le_of_ble_eq_true rfl | ktr_units) (by first | assumption | l_ints | exact IntsAre.nil) (by first | assumption | decide) ?_); intro b' h' tk' hv' F' N'; (try ((first | (replace hv' := pick_t hv' (by first | with_reducible assumption | exact has_nil)) | (replace hv' := pick_f hv' (by with_reducible assumption))); subst hv')))
  k_with "eval ListComp" => (k_here; k_dflt (refine ListComp_D (F₀x := by k_asm) (by with_unfolding_all rfl) (by decide) (by rfl) (by decide) (by rfl) ?_))
  k_with "SrcD" => ((rename DK _ _ _ _ => kD); (rename KIn _ _ => kK); k_dflt (refine srcD_ (by rfl) (by k_asm) (by k_asm) (by assumption) (by rfl) (by rfl) (by kcj_m) (by kcj_m) (by kcj_m) kD (kK.sub (by kcj_in)) (by assumption) (by assumption) (fun _ => rfl) (fun _ => rfl) (by first | exact Nat.le_of_ble_eq_true rfl | ktr_units) (by rw [PySem.sizeLine_eq]; omega) ?_); intro D' ys' tl' h' tk' F' Nt' N' Kt' Pt' o1')
  k_with "call type:dict" => (k_here; (rename PairsIn _ _ _ => kP); (rename KIn _ _ => kKt); (rename DK _ _ _ _ => kD); k_dflt (refine dict_K (by first | exact Nat.le_of_ble_eq_true rfl | ktr_units) (by rfl) (TopRead.nolimit (by k_asm)) (by k_asm) (by assumption) (by k_asm) (KIn.filter kKt) kP (keep_nodup (DK.nodup kD)) (keep_len (by assumption) (by decide)) ?_); (clear kP kKt); intro d' od' h' tk' lo' D' F' N' l1; (try k_lt l1))
  trivial
theorem law_tail {w : World} {mean : ExcName → Option Value} {mg mb : Str → Option Value} {H : Heap} {s : Shared} {L fa d src sl : Addr} {cd : Value} {m₁ : Str → Option Value} {Q : Flow → Shared → Prop}
    {od oS oT oG : Obj} {x y : Int} {tx ty : Tok} {ys : List Value} {ns : List Int} {nn : Nat} {gone : Int} {tg : Tok}
    (B : Below callerA H [] H) (X : (hd.heap_39 w.params).In H) (T : Top hd.view_39 (looseW hd.view_39 []) mean mg mb H)
    (F : Fr H L s.heap (fun y => if y = ("slots" : Str) then some (.ref sl) else m₁ y))
    (N : News H L s.heap [(d, od), (src, srcO x y tx ty), (sl, W.listOf ys.toArray nn), (L + 1, oS), (L + 1 + 1, oT), (L + 1 + 1 + 1, oG)])
    (hne : @Ne Nat sl src) (lo : (d == sysModules) = false) (hd0 : DK PySem.Challenge.rw_xm0816_01.row.prog w od []) (hS : oS.data = .cell (some (.ref src))) (hT : oT.data = .cell (some (.ref d))) (hG : oG.data = .cell (some (.int gone tg)))
    (hx : 0 ≤ x) (hy0 : 0 ≤ y) (hy1 : y < 2147483647) (hI : IntsAre ys ns) (hn : 0 < ns.length) (hn2 : ns.length ≤ 3) (hb : ∀ n ∈ ns, 0 ≤ n ∧ n < 4) (hgone : gone ∈ ns)
    (ret : ∀ h' tk' m', Fr H L h' m' → Q (.ret (.bool true)) { s with heap := h', toks := tk' }) :
    wpAny (model PySem.Challenge.rw_xm0816_01.row.prog w) (callerA.deeper (envOfC "law" lawFn.2 L fa cd)) (execs (lawFn.1.drop 14) (envOfC "law" lawFn.2 L fa cd)) Q (fun _ _ => False) s := by
  conv in (occs := *) (List.drop _ _) => all_goals whnf
  conv in (occs := *) (Prod.snd lawFn) => all_goals whnf
  revert X
  k_fill
  intro X
  have n1 : @Ne Nat d src := news_ne N (by kcj_m) (by kcj_m) (ne_cls hd0.1.1 rfl (by decide))
  have n3 : @Ne Nat (L + 1) src := news_ne (o₁ := oS) (o₂ := srcO x y tx ty) N (by kcj_m) (by kcj_m) (fun e => by rw [e] at hS; cases hS)
  have n4 : @Ne Nat (L + 1 + 1) src := news_ne (o₁ := oT) (o₂ := srcO x y tx ty) N (by kcj_m) (by kcj_m) (fun e => by rw [e] at hT; cases hT)
  have n5 : @Ne Nat (L + 1 + 1 + 1) src := news_ne (o₁ := oG) (o₂ := srcO x y tx ty) N (by kcj_m) (by kcj_m) (fun e => by rw [e] at hG; cases hG)
  have n6 : @Ne Nat sl d := news_ne N (by kcj_m) (by kcj_m) (ne_cls rfl hd0.1.1 (by decide))
  have dd : ∀ v, od.data ≠ .cell v := fun v e => by obtain ⟨_, es, ep, q, _⟩ := hd0; rw [q] at e; cases e
  have n7 : @Ne Nat (L + 1) d := news_ne (o₁ := oS) (o₂ := od) N (by kcj_m) (by kcj_m) (fun e => dd _ (by rw [← e]; exact hS))
  have n8 : @Ne Nat (L + 1 + 1) d := news_ne (o₁ := oT) (o₂ := od) N (by kcj_m) (by kcj_m) (fun e => dd _ (by rw [← e]; exact hT))
  have n9 : @Ne Nat (L + 1 + 1 + 1) d := news_ne (o₁ := oG) (o₂ := od) N (by kcj_m) (by kcj_m) (fun e => dd _ (by rw [← e]; exact hG))
  k_steps
  refine go_ ?_
  (rename Fr _ _ _ _ => lF'); (rename News _ _ _ _ => lN'); (rename IsRange _ _ _ _ _ _ _ _ => rgX)
  with_unfolding_all refine iter_rangeUnr (n := 5) (by rfl) rgX (by decide) (by decide) lF' lN' (fun I hI => ?_)
  refine range_J (TabJ PySem.Challenge.rw_xm0816_01.row.prog w (fun y => if y = ("slots" : Str) then some (.ref sl) else m₁ y) d src [(sl, W.listOf ys.toArray nn), (L + 1, oS), (L + 1 + 1, oT), (L + 1 + 1 + 1, oG)] ns) ?step ?fin 5 0 _ _ rfl ?init
  case init => exact ⟨fun _ _ => rfl, od, [], x, y, tx, ty, [], rfl, hx, hy0, hy1, hd0, KIn.nil, fun p hp => by simp at hp, Nat.zero_le _, fun n hn h => absurd (hb n hn).1 (Int.not_le.mpr h)⟩
  case step =>
    intro i m₂ news₂ t h tk hi hJ F₂ N₂
    obtain ⟨hm, od₂, xs, x₂, y₂, tx₂, ty₂, kl, rfl, gx, gy, gz, D₂, K₂, ck, hlen, hin⟩ := hJ
    have F₃ : Fr H L h (fun y => if y = ("slot" : Str) then some (.int (0 + (i : Int)) t) else if y = ("slots" : Str) then some (.ref sl) else m₁ y) := by
      have e : (fun y => if y = ("slot" : Str) then some (Value.int (0 + (i : Int)) t) else m₂ y) = (fun y => if y = ("slot" : Str) then some (.int (0 + (i : Int)) t) else if y = ("slots" : Str) then some (.ref sl) else m₁ y) := by
        funext y
        by_cases q : y = ("slot" : Str)
        · rw [if_pos q, if_pos q]
        · rw [if_neg q, if_neg q, hm y q]
      exact e ▸ F₂
    have i1 : @LT.lt Nat _ d I := hI (d, od) (by kcj_m)
    have i2 : @LT.lt Nat _ src I := hI (src, srcO x y tx ty) (by kcj_m)
    have i3 : @LT.lt Nat _ sl I := hI (sl, W.listOf ys.toArray nn) (by kcj_m)
    have i4 : @LT.lt Nat _ (L + 1) I := hI (L + 1, oS) (by kcj_m)
    have i5 : @LT.lt Nat _ (L + 1 + 1) I := hI (L + 1 + 1, oT) (by kcj_m)
    have i6 : @LT.lt Nat _ (L + 1 + 1 + 1) I := hI (L + 1 + 1 + 1, oG) (by kcj_m)
    have o1 : ∀ p ∈ kl, p.1 ≠ d := fun p hp => news_ne (o₁ := p.2) N₂ (by simp [hp]) (by kcj_m) (ne_cls (ck p hp) D₂.1.1 (by decide))
    have o2 : ∀ p ∈ kl, p.1 ≠ src := fun p hp => news_ne (o₁ := p.2) N₂ (by simp [hp]) (by kcj_m) (ne_cls (ck p hp) rfl (by decide))
    simp only [List.nil_append, List.cons_append] at N₂
    clear F₂ hm lF' lN' rgX hd0 hI
    k_steps
    all_goals (refine go_ ?_; (rename DK _ _ _ _ => kD'); (rename KIn _ _ => kK'); (rename Fr _ _ _ _ => kF'); (rename News _ _ _ _ => kN'); refine tab_end kF' kN' (fun y q => if_neg q) (by kcj_m) (by kcj_m) (by kcj_m) (by kcj_in) (by kcj_in) rfl (ne_fixed i3 i4 i5 i6) (by assumption) (by assumption) (by assumption) kD' kK' ?_ ?_ ?_)
    all_goals (first
      | exact tab_in2 hin
      | exact tab_in1 (by assumption) hin
      | exact tab_len1 (by assumption)
      | exact tab_len2 (by assumption)
      | exact tup_cons (tup_cons ck)
      | exact tup_cons ck)
  case fin =>
    intro m₂ news₂ h tk hJ F₂ N₂
    obtain ⟨hm, od₂, xs, x₂, y₂, tx₂, ty₂, kl, rfl, gx, gy, gz, D₂, K₂, ck, hlen, hin⟩ := hJ
    have F₃ : Fr H L h (fun y => if y = ("slot" : Str) then m₂ ("slot" : Str) else if y = ("slots" : Str) then some (.ref sl) else m₁ y) := by
      have e : m₂ = (fun y => if y = ("slot" : Str) then m₂ ("slot" : Str) else if y = ("slots" : Str) then some (.ref sl) else m₁ y) := by
        funext y
        by_cases q : y = ("slot" : Str)
        · rw [if_pos q, q]
        · rw [if_neg q, hm y q]
      exact e ▸ F₂
    have h1 := has_all hb hin
    have h2 : hasF ns (xs.filter (keepF gone)) = false := has_gone hgone
    simp only [List.nil_append, List.cons_append] at N₂
    clear F₂ hm lF' lN' rgX hd0 hI dd
    k_steps
    exact ret _ _ _ (by assumption)
end

end
section
open PySem PySem.Spec PySem.Calls PySem.W PyProof.Rows

/-- _law_told, its numbers' list forgotten -/
theorem told_at {w : World} {mean : ExcName → Option Value} {mg mb : Str → Option Value} {dp un : Nat} {gd : Option (List Code)} {cn : Str} {cs : Scope} {a : Addr} {ccd : Value} {cl : List (Str × Addr)} {A₀ : Around} {base h₀ : Heap} {L : Addr} {m : Str → Option Value} {s : Shared} {Q E : Value → Shared → Prop}
    {sl nl : Addr} {p n0 n1 n2 n3 : Int} {tp t0 t1 t2 t3 : Tok} {rest : List (Addr × Obj)} {nn nk : Nat} {vs : List Value} {ns : List Int}
    (B : Below A₀ base [] h₀) (F : Fr h₀ L s.heap m) (X : (hd.heap_39 w.params).In h₀) (N : News h₀ L s.heap ((nl, W.listOf [Value.int n0 t0, Value.int n1 t1, Value.int n2 t2, Value.int n3 t3].toArray nn) :: rest)) (T : Top hd.view_39 (looseW hd.view_39 []) mean mg mb h₀) (XB : (hd.heap_39 w.params).In base) (TB : Top hd.view_39 (looseW hd.view_39 []) mean mg mb base) (hk : cs.kind = .function)
    (M1 : (sl, W.listOf vs.toArray nk) ∈ rest) (hdp : dp + 4 < recursionLimit) (hu : un + 32 < cLine) (hI : IntsAre vs ns) (hn : 0 < ns.length) (hn2 : ns.length ≤ 3)
    (ret : ∀ (v : Str) (t : Tok) (h' : Heap) (tk' : Nat), toldF p n0 n1 n2 n3 = v → Fr h₀ L h' m → News h₀ L h' rest → Q (.str v t) { s with heap := h', toks := tk' }) :
    wpAny (model PySem.Challenge.rw_xm0816_01.row.prog w) (ktrTop dp un gd cn cs L a ccd cl []) (call (.ref 234) [.int p tp, .ref sl, .ref nl]) Q E s :=
  told_spec B F X N T XB TB hk (List.mem_cons_of_mem _ M1) List.mem_cons_self hdp hu hI hn hn2 fun v t h' tk' e F' N' => ret v t h' tk' e F' fun p hp => N' p (List.mem_cons_of_mem _ hp)
/-- .. and its slots' list as well -/
theorem told_at2 {w : World} {mean : ExcName → Option Value} {mg mb : Str → Option Value} {dp un : Nat} {gd : Option (List Code)} {cn : Str} {cs : Scope} {a : Addr} {ccd : Value} {cl : List (Str × Addr)} {A₀ : Around} {base h₀ : Heap} {L : Addr} {m : Str → Option Value} {s : Shared} {Q E : Value → Shared → Prop}
    {sl nl : Addr} {p n0 n1 n2 n3 : Int} {tp t0 t1 t2 t3 : Tok} {rest : List (Addr × Obj)} {nn nk : Nat} {vs : List Value} {ns : List Int}
    (B : Below A₀ base [] h₀) (F : Fr h₀ L s.heap m) (X : (hd.heap_39 w.params).In h₀) (N : News h₀ L s.heap ((nl, W.listOf [Value.int n0 t0, Value.int n1 t1, Value.int n2 t2, Value.int n3 t3].toArray nn) :: (sl, W.listOf vs.toArray nk) :: rest)) (T : Top hd.view_39 (looseW hd.view_39 []) mean mg mb h₀) (XB : (hd.heap_39 w.params).In base) (TB : Top hd.view_39 (looseW hd.view_39 []) mean mg mb base) (hk : cs.kind = .function)
    (hdp : dp + 4 < recursionLimit) (hu : un + 32 < cLine) (hI : IntsAre vs ns) (hn : 0 < ns.length) (hn2 : ns.length ≤ 3)
    (ret : ∀ (v : Str) (t : Tok) (h' : Heap) (tk' : Nat), toldF p n0 n1 n2 n3 = v → Fr h₀ L h' m → News h₀ L h' rest → Q (.str v t) { s with heap := h', toks := tk' }) :
    wpAny (model PySem.Challenge.rw_xm0816_01.row.prog w) (ktrTop dp un gd cn cs L a ccd cl []) (call (.ref 234) [.int p tp, .ref sl, .ref nl]) Q E s :=
  told_at B F X N T XB TB hk List.mem_cons_self hdp hu hI hn hn2 fun v t h' tk' e F' N' => ret v t h' tk' e F' fun p hp => N' p (List.mem_cons_of_mem _ hp)
/-- _law_one over a list just made, which is forgotten -/
theorem one_new {w : World} {mean : ExcName → Option Value} {mg mb : Str → Option Value} {dp un : Nat} {gd : Option (List Code)} {cn : Str} {cs : Scope} {a : Addr} {ccd : Value} {cl : List (Str × Addr)} {outer : List Env} {A₀ : Around} {base h₀ : Heap} {L : Addr} {m : Str → Option Value} {s : Shared} {Q E : Value → Shared → Prop}
    {d tl : Addr} {x y : Int} {tx ty : Tok} {news pre post : List (Addr × Obj)} {vs : List Value} {ns : List Int} {nl : Nat}
    (B : Below A₀ base outer h₀) (F : Fr h₀ L s.heap m) (X : (hd.heap_39 w.params).In h₀) (N : News h₀ L s.heap ((tl, W.listOf vs.toArray nl) :: news)) (T : Top hd.view_39 (looseW hd.view_39 []) mean mg mb h₀) (hk : cs.kind = .function)
    (hne : @Ne Nat tl d) (Wh : Here d (srcO x y tx ty) news pre post)
    (hd : dp + 2 < recursionLimit) (hu : un + 16 < cLine)
    (hx : 0 ≤ x) (hy0 : 0 ≤ y) (hy1 : y < 2147483647) (hI : IntsAre vs ns) (hn : 0 < ns.length) (hn2 : ns.length ≤ 64)
    (ret : ∀ (v : Int) (t : Tok) (x' : Int) (tx' : Tok) (y' : Int) (ty' : Tok) (h' : Heap) (tk' : Nat), v ∈ ns → 0 ≤ x' → 0 ≤ y' → y' < 2147483647 → Fr h₀ L h' m → News h₀ L h' (pre ++ (d, srcO x' y' tx' ty') :: post) → Q (.int v t) { s with heap := h', toks := tk' }) :
    wpAny (model PySem.Challenge.rw_xm0816_01.row.prog w) (ktrTop dp un gd cn cs L a ccd cl outer) (call (.ref 229) [.ref d, .ref tl]) Q E s :=
  one_at B F X N T hk (.tail hne Wh) List.mem_cons_self hd hu hx hy0 hy1 hI hn hn2 fun v t x' tx' y' ty' h' tk' h1 h2 h3 h4 F' N' => ret v t x' tx' y' ty' h' tk' h1 h2 h3 h4 F' fun p hp => N' p (List.mem_cons_of_mem _ hp)

theorem told_kindA {p a b c e : Int} (h : ¬ (1 ≤ a ∧ a ≤ 7)) : toldF p a b c e = kindS := by unfold toldF; rw [if_neg (fun q => h q.1)]
theorem told_pointA {p a b c e : Int} (h1 : 1 ≤ a) (h2 : a ≤ 7) (h3 : b = 0) (h4 : c = 0) (h : ¬ (0 ≤ e ∧ e < p)) : toldF p a b c e = pointS := by unfold toldF; rw [if_pos ⟨⟨h1, h2⟩, h3, h4⟩, if_neg h]
theorem pick_first : toldF 8 1 0 0 8 = "a point transform must leave a bit" := told_pointA (by decide) (by decide) (by decide) (by decide) (by decide)
theorem top_lo {p : Int} (h : 0 ≤ p) : 0 < 2 + p := by omega
theorem top_hi {p : Int} (h : p < 15) : 2 + p ≤ 64 := by omega

end
section
open PySem PySem.Spec PySem.Calls PySem.W PyProof.Rows
theorem news_tl {H h : Heap} {L : Addr} {p : Addr × Obj} {l : List (Addr × Obj)} (N : News H L h (p :: l)) : News H L h l := fun q hq => N q (List.mem_cons_of_mem _ hq)
theorem pick_nil {p v e t : Int} (hv0 : 0 ≤ v) (hv1 : v < 7) (hp : 0 ≤ p) (g : e = 0 ∨ e = 2 + p - 1 ∨ e = t) (h0 : 0 ≤ t) (h1 : t < 2 + p) : toldF (2 + p) (1 + v) 0 0 e = "" := told_nil (by omega) (by omega) rfl rfl (by omega) (by omega)
theorem pick_k1 {p w0 w1 w2 b c e : Int} (g : w0 = 0 ∨ w0 = 8 ∨ w0 = -1) : toldF p ([w0, w1, w2].getD (Int.toNat 0) 0) b c e = "a lossless scan tells a predictor from 1 to 7" := told_kindA (fun h => by
  have h' : 1 ≤ w0 ∧ w0 ≤ 7 := h
  omega)
theorem pick_k2 {p w0 w1 w2 a c e : Int} (g : w1 = 1 ∨ w1 = 63 ∨ w1 = -1) : toldF p a ([w0, w1, w2].getD (Int.toNat 1) 0) c e = "a lossless scan tells a predictor from 1 to 7" := told_kind3 (fun h => by
  have h' : w1 = 0 := h
  omega)
theorem pick_k3 {p w0 w1 w2 a b e : Int} (g : w2 = 1 ∨ w2 = 15 ∨ w2 = -1) : toldF p a b ([w0, w1, w2].getD (Int.toNat 2) 0) e = "a lossless scan tells a predictor from 1 to 7" := told_kind4 (fun h => by
  have h' : w2 = 0 := h
  omega)
theorem pick_pt {p v e t : Int} (hv0 : 0 ≤ v) (hv1 : v < 7) (hp : 0 ≤ p) (g : e = 2 + p ∨ e = 2 + p + 1 + t ∨ e = -1) (h0 : 0 ≤ t) : toldF (2 + p) (1 + v) 0 0 e = "a point transform must leave a bit" := told_pointA (by omega) (by omega) rfl rfl (by omega)

theorem law_close {w : World} {mean : ExcName → Option Value} {mg mb : Str → Option Value} {H : Heap} {s : Shared} {L fa d src sl : Addr} {cd : Value} {m : Str → Option Value} {Q : Flow → Shared → Prop} {news : List (Addr × Obj)}
    {od oS oT oG : Obj} {x y : Int} {tx ty : Tok} {ys : List Value} {ns : List Int} {nn : Nat} {gone : Int} {tg : Tok} {knd : KeyKind PySem.Challenge.rw_xm0816_01.row.prog w Int}
    (B : Below callerA H [] H) (X : (hd.heap_39 w.params).In H) (T : Top hd.view_39 (looseW hd.view_39 []) mean mg mb H)
    (F : Fr H L s.heap m) (N : News H L s.heap news) (e : m ("slots" : Str) = some (.ref sl)) (mS : (L + 1, oS) ∈ news) (mT : (L + 1 + 1, oT) ∈ news) (mG : (L + 1 + 1 + 1, oG) ∈ news)
    (hS : oS.data = .cell (some (.ref src))) (hT : oT.data = .cell (some (.ref d))) (hG : oG.data = .cell (some (.int gone tg)))
    (md : (d, od) ∈ news) (ms : (src, srcO x y tx ty) ∈ news) (ml : (sl, W.listOf ys.toArray nn) ∈ news)
    (hne : @Ne Nat sl src) (lo : (d == sysModules) = false) (hd0 : od.IsDictOf knd [])
    (hx : 0 ≤ x) (hy0 : 0 ≤ y) (hy1 : y < 2147483647) (hI : IntsAre ys ns) (hn : 0 < ns.length) (hn2 : ns.length ≤ 3) (hb : ∀ n ∈ ns, 0 ≤ n ∧ n < 4) (hgone : gone ∈ ns)
    (ret : ∀ h' tk' m', Fr H L h' m' → Q (.ret (.bool true)) { s with heap := h', toks := tk' }) :
    wpAny (model PySem.Challenge.rw_xm0816_01.row.prog w) (callerA.deeper (envOfC "law" lawFn.2 L fa cd)) (execs (lawFn.1.drop 14) (envOfC "law" lawFn.2 L fa cd)) Q (fun _ _ => False) s :=
  (law_tail B X T (fr_name F e) (fun p hp => by
    simp only [List.mem_cons, List.not_mem_nil, or_false] at hp
    rcases hp with rfl | rfl | rfl | rfl | rfl | rfl
    · exact N _ md
    · exact N _ ms
    · exact N _ ml
    · exact N _ mS
    · exact N _ mT
    · exact N _ mG) hne lo (DK.ofEmpty hd0) hS hT hG hx hy0 hy1 hI hn hn2 hb hgone ret)

theorem words : True := by
  k_with_none
  k_with "k_ne" => (refine neN ?_; (try dsimp only); first | with_reducible assumption | exact Ne.symm (by with_reducible assumption) | exact Nat.ne_of_gt (by with_reducible assumption) | exact Nat.ne_of_lt (by with_reducible assumption) | k_extra "ne in" | exact Ne.symm (by k_extra "ne in"))
  k_with "ne in" => first | exact ne1 (by with_reducible assumption) | exact ne2 (by with_reducible assumption) | exact ne3 (by with_reducible assumption) | exact ne4 (by with_reducible assumption) | exact ne5 (by with_reducible assumption) | exact ne6 (by with_reducible assumption) | exact ne7 (by with_reducible assumption) | exact ne8 (by with_reducible assumption) | exact nl2 (by with_reducible assumption) | exact nl3 (by with_reducible assumption) | exact nl4 (by with_reducible assumption) | exact nl5 (by with_reducible assumption) | exact nl6 (by with_reducible assumption) | exact nl7 (by with_reducible assumption)
  k_with "call ref" => (k_here; (with_reducible show wpAny _ _ (call (Value.ref 222) [Value.ref _, Value.int _ _]) _ _ _); k_dflt (refine take_at (by k_asm) (by k_asm) (by k_asm) (by k_asm) (by k_asm) (by first | exact rfl | assumption) (by k_extra "src here") (by first | exact Nat.le_of_ble_eq_true rfl | ktr_room) (by first | exact Nat.le_of_ble_eq_true rfl | ktr_units) (by assumption) (by assumption) (by assumption) (by first | decide | assumption | exact top_lo (by assumption)) (by first | decide | exact top_hi (by assumption)) ?_); intro v' t' x' tx' y' ty' h' tk' g1' g2' g3' g4' g5' F' N'; (try simp only [List.nil_append, List.cons_append] at N'))
  k_with "src ne" => first | assumption | exact ne1 (by assumption) | exact ne2 (by assumption) | exact ne3 (by assumption) | exact ne4 (by assumption)
  k_with "src here" => first | exact Here.head (by assumption) | exact Here.tail (by k_extra "src ne") (by k_extra "src here")
  k_with "call ref" => (k_here; (with_reducible show wpAny _ _ (call (Value.ref 229) [Value.ref _, Value.ref _]) _ _ _); k_dflt (refine one_new (by k_asm) (by k_asm) (by k_asm) (by k_asm) (by k_asm) (by first | exact rfl | assumption) (by k_extra "src ne") (by k_extra "src here") (by first | exact Nat.le_of_ble_eq_true rfl | ktr_room) (by first | exact Nat.le_of_ble_eq_true rfl | ktr_units) (by assumption) (by assumption) (by assumption) (by first | l_ints | l_intsW) (by exact Nat.le_of_ble_eq_true rfl) (by exact Nat.le_of_ble_eq_true rfl) ?_); intro v' t' x' tx' y' ty' h' tk' g1' g3' g4' g5' F' N'; (try simp only [List.nil_append, List.cons_append] at N'); (try simp only [List.mem_cons, List.not_mem_nil, or_false] at g1'))
  k_with "call ref" => (k_here; (with_reducible show wpAny _ _ (call (Value.ref 234) [Value.int _ _, Value.ref _, Value.ref _]) _ _ _); k_dflt (refine told_at (by k_asm) (by k_asm) (by k_asm) (by k_asm) (by k_asm) (by k_asm) (by k_asm) (by first | exact rfl | assumption) (by kcj_m) (by first | exact Nat.le_of_ble_eq_true rfl | ktr_room) (by first | exact Nat.le_of_ble_eq_true rfl | ktr_units) (by assumption) (by assumption) (by assumption) ?_); intro v' t' h' tk' hv' F' N'; (first
    | (replace hv' := Eq.trans (Eq.symm hv') (pick_nil (by with_reducible assumption) (by with_reducible assumption) (by with_reducible assumption) (by with_reducible assumption) (by with_reducible assumption) (by with_reducible assumption)))
    | (replace hv' := Eq.trans (Eq.symm hv') (pick_k1 (by with_reducible assumption))) | (replace hv' := Eq.trans (Eq.symm hv') (pick_k2 (by with_reducible assumption))) | (replace hv' := Eq.trans (Eq.symm hv') (pick_k3 (by with_reducible assumption)))
    | (replace hv' := Eq.trans (Eq.symm hv') (pick_pt (by with_reducible assumption) (by with_reducible assumption) (by with_reducible assumption) (by with_reducible assumption) (by with_reducible assumption)))); subst hv')
  k_with "call ref" => (k_here; (with_reducible show wpAny _ _ (call (Value.ref 229) [Value.ref _, Value.ref _]) _ _ _); k_dflt (refine one_at (by k_asm) (by k_asm) (by k_asm) (by k_asm) (by k_asm) (by first | exact rfl | assumption) (by k_extra "src here") (by kcj_m) (by first | exact Nat.le_of_ble_eq_true rfl | ktr_room) (by first | exact Nat.le_of_ble_eq_true rfl | ktr_units) (by assumption) (by assumption) (by assumption) (by assumption) (by assumption) (by exact Nat.le_trans (by assumption) (by decide)) ?_); intro v' t' x' tx' y' ty' h' tk' g1' g3' g4' g5' F' N'; (try simp only [List.nil_append, List.cons_append] at N'))
  k_with "execs cons" => (k_here; (with_reducible show wpAny _ _ (execs (Stmt.For _ _ _ _ _ :: _) _) _ _ _); k_dflt (refine law_close (by k_asm) (by k_asm) (by k_asm) (by k_asm) (by k_asm) (by rfl) (by kcj_m) (by kcj_m) (by kcj_m) (by assumption) (by assumption) (by assumption) (by kcj_m) (by kcj_m) (by kcj_m) (by assumption) (by assumption) (by assumption) (by assumption) (by assumption) (by assumption) (by assumption) (by assumption) (by assumption) (by assumption) (by assumption) (by assumption)))
  trivial

theorem law_d {w : World} {mean : ExcName → Option Value} {mg mb : Str → Option Value} {H : Heap} {s : Shared} {L fa src sl : Addr} {cd : Value} {m₁ : Str → Option Value} {Q : Flow → Shared → Prop}
    {oS oT oG : Obj} {x y : Int} {tx ty : Tok} {ys : List Value} {ns : List Int} {nn : Nat}
    (B : Below callerA H [] H) (X : (hd.heap_39 w.params).In H) (T : Top hd.view_39 (looseW hd.view_39 []) mean mg mb H)
    (F : Fr H L s.heap (fun y => if y = ("slots" : Str) then some (.ref sl) else m₁ y))
    (N : News H L s.heap [(src, srcO x y tx ty), (sl, W.listOf ys.toArray nn), (L + 1, oS), (L + 1 + 1, oT), (L + 1 + 1 + 1, oG)])
    (hfix : ∀ p ∈ [(sl, W.listOf ys.toArray nn), (L + 1, oS), (L + 1 + 1, oT), (L + 1 + 1 + 1, oG)], p.1 ≠ src) (hS : oS.data = .cell (some (.ref src))) (hT : oT.data = .cell none) (hG : oG.data = .cell none)
    (hx : 0 ≤ x) (hy0 : 0 ≤ y) (hy1 : y < 2147483647) (hI : IntsAre ys ns) (hn : 0 < ns.length) (hn2 : ns.length ≤ 3) (hb : ∀ n ∈ ns, 0 ≤ n ∧ n < 4)
    (ret : ∀ h' tk' m', Fr H L h' m' → Q (.ret (.bool true)) { s with heap := h', toks := tk' }) :
    wpAny (model PySem.Challenge.rw_xm0816_01.row.prog w) (callerA.deeper (envOfC "law" lawFn.2 L fa cd)) (execs (lawFn.1.drop 13) (envOfC "law" lawFn.2 L fa cd)) Q (fun _ _ => False) s := by
  conv in (occs := *) (List.drop _ _) => all_goals whnf
  conv in (occs := *) (Prod.snd lawFn) => all_goals whnf
  revert X
  k_fill
  intro X
  have hne : @Ne Nat sl src := hfix (sl, W.listOf ys.toArray nn) (by kcj_m)
  have n1 : @Ne Nat src (L + 1 + 1) := news_ne (o₁ := srcO x y tx ty) (o₂ := oT) N (by kcj_m) (by kcj_m) (fun e => by rw [← e] at hT; cases hT)
  have n2 : @Ne Nat src (L + 1 + 1 + 1) := news_ne (o₁ := srcO x y tx ty) (o₂ := oG) N (by kcj_m) (by kcj_m) (fun e => by rw [← e] at hG; cases hG)
  have n3 : @Ne Nat sl (L + 1 + 1) := news_ne (o₁ := W.listOf ys.toArray nn) (o₂ := oT) N (by kcj_m) (by kcj_m) (fun e => by rw [← e] at hT; cases hT)
  have n4 : @Ne Nat sl (L + 1 + 1 + 1) := news_ne (o₁ := W.listOf ys.toArray nn) (o₂ := oG) N (by kcj_m) (by kcj_m) (fun e => by rw [← e] at hG; cases hG)
  k_steps

theorem law_c {w : World} {mean : ExcName → Option Value} {mg mb : Str → Option Value} {H : Heap} {s : Shared} {L fa src sl : Addr} {cd : Value} {m₁ : Str → Option Value} {Q : Flow → Shared → Prop}
    {oS oT oG : Obj} {x y : Int} {tx ty : Tok} {ys : List Value} {ns : List Int} {nn : Nat} {tk0 tk1 tp tv te t0 t1 t2 u0 u1 u2 : Tok} {p v e w0 w1 w2 : Int} {ol wl : Addr} {no nw : Nat}
    (B : Below callerA H [] H) (X : (hd.heap_39 w.params).In H) (T : Top hd.view_39 (looseW hd.view_39 []) mean mg mb H)
    (F : Fr H L s.heap (fun y => if y = ("kind" : Str) then some (.str "a lossless scan tells a predictor from 1 to 7" tk0) else if y = ("point" : Str) then some (.str "a point transform must leave a bit" tk1) else if y = ("precision" : Str) then some (.int (2 + p) tp) else if y = ("start" : Str) then some (.int (1 + v) tv) else if y = ("low" : Str) then some (.int e te) else if y = ("wrong" : Str) then some (.ref wl) else if y = ("told" : Str) then some (.ref ol) else if y = ("slots" : Str) then some (.ref sl) else m₁ y))
    (N : News H L s.heap [(ol, W.listOf [Value.str "a lossless scan tells a predictor from 1 to 7" t0, Value.str "a lossless scan tells a predictor from 1 to 7" t1, Value.str "a lossless scan tells a predictor from 1 to 7" t2].toArray no), (wl, W.listOf [Value.int w0 u0, Value.int w1 u1, Value.int w2 u2].toArray nw), (src, srcO x y tx ty), (sl, W.listOf ys.toArray nn), (L + 1, oS), (L + 1 + 1, oT), (L + 1 + 1 + 1, oG)])
    (hfix : ∀ p ∈ [(sl, W.listOf ys.toArray nn), (L + 1, oS), (L + 1 + 1, oT), (L + 1 + 1 + 1, oG)], p.1 ≠ src) (hS : oS.data = .cell (some (.ref src))) (hT : oT.data = .cell none) (hG : oG.data = .cell none)
    (hx : 0 ≤ x) (hy0 : 0 ≤ y) (hy1 : y < 2147483647) (hI : IntsAre ys ns) (hn : 0 < ns.length) (hn2 : ns.length ≤ 3) (hb : ∀ n ∈ ns, 0 ≤ n ∧ n < 4) (ho : @Ne Nat ol src) (hw : @Ne Nat wl src)
    (p0 : 0 ≤ p) (v0 : 0 ≤ v) (v1 : v < 7) (g0 : w0 = 0 ∨ w0 = 8 ∨ w0 = -1)
    (ret : ∀ h' tk' m', Fr H L h' m' → Q (.ret (.bool true)) { s with heap := h', toks := tk' }) :
    wpAny (model PySem.Challenge.rw_xm0816_01.row.prog w) (callerA.deeper (envOfC "law" lawFn.2 L fa cd)) (execs (lawFn.1.drop 10) (envOfC "law" lawFn.2 L fa cd)) Q (fun _ _ => False) s := by
  conv in (occs := *) (List.drop _ _) => all_goals whnf
  conv in (occs := *) (Prod.snd lawFn) => all_goals whnf
  revert X
  k_fill
  intro X
  k_with "src N" => first | k_asm | exact news_tl (by k_asm) | exact news_tl (news_tl (by k_asm)) | exact news_tl (news_tl (news_tl (by k_asm))) | exact news_tl (news_tl (news_tl (news_tl (by k_asm)))) | exact news_tl (news_tl (news_tl (news_tl (news_tl (by k_asm)))))
  k_with "execs cons" => (k_here; (with_reducible show wpAny _ _ (execs (Stmt.Assign [Expr.Tuple _ _ _] _ _ :: _) _) _ _ _); k_dflt (refine law_d (by k_asm) (by k_asm) (by k_asm) (fr_name (by k_asm) (by rfl)) (by k_extra "src N") (by assumption) (by assumption) (by assumption) (by assumption) (by assumption) (by assumption) (by assumption) (by assumption) (by assumption) (by assumption) (by assumption) ?_); exact fun _ _ _ F => ret _ _ _ F)
  k_steps

theorem law_b {w : World} {mean : ExcName → Option Value} {mg mb : Str → Option Value} {H : Heap} {s : Shared} {L fa src sl : Addr} {cd : Value} {m₁ : Str → Option Value} {Q : Flow → Shared → Prop}
    {oS oT oG : Obj} {x y : Int} {tx ty : Tok} {ys : List Value} {ns : List Int} {nn : Nat} {tk0 tk1 tp tv te : Tok} {p v e : Int}
    (B : Below callerA H [] H) (X : (hd.heap_39 w.params).In H) (T : Top hd.view_39 (looseW hd.view_39 []) mean mg mb H)
    (F : Fr H L s.heap (fun y => if y = ("kind" : Str) then some (.str "a lossless scan tells a predictor from 1 to 7" tk0) else if y = ("point" : Str) then some (.str "a point transform must leave a bit" tk1) else if y = ("precision" : Str) then some (.int (2 + p) tp) else if y = ("start" : Str) then some (.int (1 + v) tv) else if y = ("low" : Str) then some (.int e te) else if y = ("slots" : Str) then some (.ref sl) else m₁ y))
    (N : News H L s.heap [(src, srcO x y tx ty), (sl, W.listOf ys.toArray nn), (L + 1, oS), (L + 1 + 1, oT), (L + 1 + 1 + 1, oG)])
    (hfix : ∀ p ∈ [(sl, W.listOf ys.toArray nn), (L + 1, oS), (L + 1 + 1, oT), (L + 1 + 1 + 1, oG)], p.1 ≠ src) (hS : oS.data = .cell (some (.ref src))) (hT : oT.data = .cell none) (hG : oG.data = .cell none)
    (hx : 0 ≤ x) (hy0 : 0 ≤ y) (hy1 : y < 2147483647) (hI : IntsAre ys ns) (hn : 0 < ns.length) (hn2 : ns.length ≤ 3) (hb : ∀ n ∈ ns, 0 ≤ n ∧ n < 4)
    (p0 : 0 ≤ p) (v0 : 0 ≤ v) (v1 : v < 7)
    (ret : ∀ h' tk' m', Fr H L h' m' → Q (.ret (.bool true)) { s with heap := h', toks := tk' }) :
    wpAny (model PySem.Challenge.rw_xm0816_01.row.prog w) (callerA.deeper (envOfC "law" lawFn.2 L fa cd)) (execs (lawFn.1.drop 7) (envOfC "law" lawFn.2 L fa cd)) Q (fun _ _ => False) s := by
  conv in (occs := *) (List.drop _ _) => all_goals whnf
  conv in (occs := *) (Prod.snd lawFn) => all_goals whnf
  revert X
  k_fill
  intro X
  k_with "execs cons" => (k_here; (with_reducible show wpAny _ _ (execs (Stmt.Assign [Expr.Name (Str.ofString "far") _] _ _ :: _) _) _ _ _); k_dflt (refine law_c (by k_asm) (by k_asm) (by k_asm) (fr_name (fr_name (fr_name (fr_name (fr_name (fr_name (fr_name (fr_name (by k_asm) (by rfl)) (by rfl)) (by rfl)) (by rfl)) (by rfl)) (by rfl)) (by rfl)) (by rfl)) (by k_extra "src N") (by assumption) (by assumption) (by assumption) (by assumption) (by assumption) (by assumption) (by assumption) (by assumption) (by assumption) (by assumption) (by assumption) (by k_extra "src ne") (by k_extra "src ne") (by assumption) (by assumption) (by assumption) (by assumption) ?_); exact fun _ _ _ F => ret _ _ _ F)
  k_steps

theorem law_a {w : World} {mean : ExcName → Option Value} {mg mb : Str → Option Value} {H : Heap} {s : Shared} {L fa src sl : Addr} {cd : Value} {m₁ : Str → Option Value} {Q : Flow → Shared → Prop}
    {oS oT oG : Obj} {x y : Int} {tx ty : Tok} {ys : List Value} {ns : List Int} {nn : Nat} {tk0 tk1 tp : Tok} {p : Int}
    (B : Below callerA H [] H) (X : (hd.heap_39 w.params).In H) (T : Top hd.view_39 (looseW hd.view_39 []) mean mg mb H)
    (F : Fr H L s.heap (fun y => if y = ("kind" : Str) then some (.str "a lossless scan tells a predictor from 1 to 7" tk0) else if y = ("point" : Str) then some (.str "a point transform must leave a bit" tk1) else if y = ("precision" : Str) then some (.int (2 + p) tp) else if y = ("slots" : Str) then some (.ref sl) else m₁ y))
    (N : News H L s.heap [(src, srcO x y tx ty), (sl, W.listOf ys.toArray nn), (L + 1, oS), (L + 1 + 1, oT), (L + 1 + 1 + 1, oG)])
    (hfix : ∀ p ∈ [(sl, W.listOf ys.toArray nn), (L + 1, oS), (L + 1 + 1, oT), (L + 1 + 1 + 1, oG)], p.1 ≠ src) (hS : oS.data = .cell (some (.ref src))) (hT : oT.data = .cell none) (hG : oG.data = .cell none)
    (hx : 0 ≤ x) (hy0 : 0 ≤ y) (hy1 : y < 2147483647) (hI : IntsAre ys ns) (hn : 0 < ns.length) (hn2 : ns.length ≤ 3) (hb : ∀ n ∈ ns, 0 ≤ n ∧ n < 4)
    (p0 : 0 ≤ p) (p1 : p < 15)
    (ret : ∀ h' tk' m', Fr H L h' m' → Q (.ret (.bool true)) { s with heap := h', toks := tk' }) :
    wpAny (model PySem.Challenge.rw_xm0816_01.row.prog w) (callerA.deeper (envOfC "law" lawFn.2 L fa cd)) (execs (lawFn.1.drop 4) (envOfC "law" lawFn.2 L fa cd)) Q (fun _ _ => False) s := by
  conv in (occs := *) (List.drop _ _) => all_goals whnf
  conv in (occs := *) (Prod.snd lawFn) => all_goals whnf
  revert X
  k_fill
  intro X
  k_with "execs cons" => (k_here; (with_reducible show wpAny _ _ (execs (Stmt.Assign [Expr.Name (Str.ofString "wrong") _] _ _ :: _) _) _ _ _); k_dflt (refine law_b (by k_asm) (by k_asm) (by k_asm) (fr_name (fr_name (fr_name (fr_name (fr_name (fr_name (by k_asm) (by rfl)) (by rfl)) (by rfl)) (by rfl)) (by rfl)) (by rfl)) (by k_extra "src N") (by assumption) (by assumption) (by assumption) (by assumption) (by assumption) (by assumption) (by assumption) (by assumption) (by assumption) (by assumption) (by assumption) (by assumption) (by assumption) (by assumption) ?_); exact fun _ _ _ F => ret _ _ _ F)
  k_steps

end
section
open PySem PySem.Spec PySem.Calls PySem.W PyProof.Rows
theorem ints_snoc {ys : List Value} {ns : List Int} {v : Int} {t : Tok} (h : IntsAre ys ns) : IntsAre (ys ++ [.int v t]) (ns ++ [v]) := by
  induction h with
  | nil => exact .cons _ _ .nil
  | cons a b _ ih => exact .cons a b ih
abbrev slE (p1 p2 p3 p4 : Pos) : PySem.Expr := .Call (.Name "_law_take" p1) [.Name "source" p2, .Constant (.int 4) 0 p3] [] p4
abbrev slSC : Scope := { kind := .function, names := [(".0", .local), ("turn", .local), ("_law_take", .globalImplicit), ("source", .free)], isGenerator := false, isCoroutine := false }

theorem words10 : True := by
  k_with_none
  k_with "k_ne" => (refine neN ?_; (try dsimp only); first | with_reducible assumption | exact Ne.symm (by with_reducible assumption) | exact Nat.ne_of_gt (by with_reducible assumption) | exact Nat.ne_of_lt (by with_reducible assumption) | k_extra "ne in" | exact Ne.symm (by k_extra "ne in"))
  k_with "ne in" => first | exact ne1 (by with_reducible assumption) | exact ne2 (by with_reducible assumption) | exact ne3 (by with_reducible assumption) | exact ne4 (by with_reducible assumption) | exact ne5 (by with_reducible assumption) | exact ne6 (by with_reducible assumption) | exact ne7 (by with_reducible assumption) | exact ne8 (by with_reducible assumption) | exact nl2 (by with_reducible assumption) | exact nl3 (by with_reducible assumption) | exact nl4 (by with_reducible assumption) | exact nl5 (by with_reducible assumption) | exact nl6 (by with_reducible assumption) | exact nl7 (by with_reducible assumption)
  k_with "call ref" => (k_here; (with_reducible show wpAny _ _ (call (Value.ref 222) [Value.ref _, Value.int _ _]) _ _ _); k_dflt (refine take_at (by k_asm) (by k_asm) (by k_asm) (by k_asm) (by k_asm) (by first | exact rfl | assumption) (by k_extra "src here") (by first | exact Nat.le_of_ble_eq_true rfl | ktr_room) (by first | exact Nat.le_of_ble_eq_true rfl | ktr_units) (by assumption) (by assumption) (by assumption) (by first | decide | assumption | exact top_lo (by assumption)) (by first | decide | exact top_hi (by assumption)) ?_); intro v' t' x' tx' y' ty' h' tk' g1' g2' g3' g4' g5' F' N'; (try simp only [List.nil_append, List.cons_append] at N'))
  k_with "src ne" => first | assumption | exact ne1 (by assumption) | exact ne2 (by assumption) | exact ne3 (by assumption) | exact ne4 (by assumption)
  k_with "src here" => first | exact Here.head (by assumption) | exact Here.tail (by k_extra "src ne") (by k_extra "src here")
  k_with "call ref" => (k_here; (with_reducible show wpAny _ _ (call (Value.ref 229) [Value.ref _, Value.ref _]) _ _ _); k_dflt (refine one_new (by k_asm) (by k_asm) (by k_asm) (by k_asm) (by k_asm) (by first | exact rfl | assumption) (by k_extra "src ne") (by k_extra "src here") (by first | exact Nat.le_of_ble_eq_true rfl | ktr_room) (by first | exact Nat.le_of_ble_eq_true rfl | ktr_units) (by assumption) (by assumption) (by assumption) (by first | l_ints | l_intsW) (by exact Nat.le_of_ble_eq_true rfl) (by exact Nat.le_of_ble_eq_true rfl) ?_); intro v' t' x' tx' y' ty' h' tk' g1' g3' g4' g5' F' N'; (try simp only [List.nil_append, List.cons_append] at N'); (try simp only [List.mem_cons, List.not_mem_nil, or_false] at g1'))
  k_with "call ref" => (k_here; (with_reducible show wpAny _ _ (call (Value.ref 234) [Value.int _ _, Value.ref _, Value.ref _]) _ _ _); k_dflt (refine told_at (by k_asm) (by k_asm) (by k_asm) (by k_asm) (by k_asm) (by k_asm) (by k_asm) (by first | exact rfl | assumption) (by kcj_m) (by first | exact Nat.le_of_ble_eq_true rfl | ktr_room) (by first | exact Nat.le_of_ble_eq_true rfl | ktr_units) (by assumption) (by assumption) (by assumption) ?_); intro v' t' h' tk' hv' F' N'; (first
    | (replace hv' := Eq.trans (Eq.symm hv') (pick_nil (by with_reducible assumption) (by with_reducible assumption) (by with_reducible assumption) (by with_reducible assumption) (by with_reducible assumption) (by with_reducible assumption)))
    | (replace hv' := Eq.trans (Eq.symm hv') (pick_k1 (by with_reducible assumption))) | (replace hv' := Eq.trans (Eq.symm hv') (pick_k2 (by with_reducible assumption))) | (replace hv' := Eq.trans (Eq.symm hv') (pick_k3 (by with_reducible assumption)))
    | (replace hv' := Eq.trans (Eq.symm hv') (pick_pt (by with_reducible assumption) (by with_reducible assumption) (by with_reducible assumption) (by with_reducible assumption) (by with_reducible assumption)))); subst hv')
  k_with "call ref" => (k_here; (with_reducible show wpAny _ _ (call (Value.ref 229) [Value.ref _, Value.ref _]) _ _ _); k_dflt (refine one_at (by k_asm) (by k_asm) (by k_asm) (by k_asm) (by k_asm) (by first | exact rfl | assumption) (by k_extra "src here") (by kcj_m) (by first | exact Nat.le_of_ble_eq_true rfl | ktr_room) (by first | exact Nat.le_of_ble_eq_true rfl | ktr_units) (by assumption) (by assumption) (by assumption) (by assumption) (by assumption) (by exact Nat.le_trans (by assumption) (by decide)) ?_); intro v' t' x' tx' y' ty' h' tk' g1' g3' g4' g5' F' N'; (try simp only [List.nil_append, List.cons_append] at N'))
  k_with "mine execs" => (k_here; (with_reducible show wpAny _ _ (execs (Stmt.For _ _ _ _ _ :: _) _) _ _ _); k_dflt (refine law_close (by k_asm) (by k_asm) (by k_asm) (by k_asm) (by k_asm) (by rfl) (by kcj_m) (by kcj_m) (by kcj_m) (by assumption) (by assumption) (by assumption) (by kcj_m) (by kcj_m) (by kcj_m) (by assumption) (by assumption) (by assumption) (by assumption) (by assumption) (by assumption) (by assumption) (by assumption) (by assumption) (by assumption) (by assumption) (by assumption)))
  trivial

theorem slots_turns {w : World} {mean : ExcName → Option Value} {mg mb : Str → Option Value} {H : Heap} {s : Shared} {L fa src : Addr} {cd : Value} {m : Str → Option Value} {oS oT oG : Obj} {p1 p2 p3 p4 : Pos} {a0 : Int} {M : Nat} {Fin : List Value → List (Addr × Obj) → Prop}
    (B : Below callerA H [] H) (X : (hd.heap_39 w.params).In H) (T : Top hd.view_39 (looseW hd.view_39 []) mean mg mb H)
    (hfix : ∀ p ∈ [(L + 1, oS), (L + 1 + 1, oT), (L + 1 + 1 + 1, oG)], p.1 ≠ src) (hS : oS.data = .cell (some (.ref src)))
    (fin : ∀ ys ns x y tx ty, IntsAre ys ns → ns.length = M → (∀ n ∈ ns, 0 ≤ n ∧ n < 4) → 0 ≤ x → 0 ≤ y → y < 2147483647 → Fin ys [(src, srcO x y tx ty), (L + 1, oS), (L + 1 + 1, oT), (L + 1 + 1 + 1, oG)]) :
    ∀ n i ys ns x y tx ty, i + n = M → ns.length = i → IntsAre ys ns → (∀ n ∈ ns, 0 ≤ n ∧ n < 4) → 0 ≤ x → 0 ≤ y → y < 2147483647 →
      LCg.CompRest PySem.Challenge.rw_xm0816_01.row.prog w (callerA.deeper (envOfC "law" lawFn.2 L fa cd)) H L m (envOfC "law" lawFn.2 L fa cd) (slE p1 p2 p3 p4) ("turn" : Str) slSC [("source", L + 1)] s (fun _ => True) (fun i v => ∃ t, v = .int (a0 + (i : Int)) t) Fin n i ys
        [(src, srcO x y tx ty), (L + 1, oS), (L + 1 + 1, oT), (L + 1 + 1 + 1, oG)] := by
  intro n
  induction n with
  | zero =>
    intro i ys ns x y tx ty hi hl hI hb hx hy0 hy1
    exact LCg.CompRest.zero (fin ys ns x y tx ty hI (hl.trans hi) hb hx hy0 hy1)
  | succ n ih =>
    intro i ys ns x y tx ty hi hl hI hb hx hy0 hy1
    refine LCg.CompRest.succ ?_
    intro v I oI C oC D m₂ h tk E' hv hC hX F N off ne
    obtain ⟨t9, rfl⟩ := hv
    have e1 : @Ne Nat I src := off.1.1.symm
    have e2 : @Ne Nat C src := off.1.2.1.symm
    have e3 : @Ne Nat D src := off.1.2.2.symm
    conv in (occs := *) (Prod.snd lawFn) => all_goals whnf
    revert X
    k_fill
    intro X
    k_steps
    refine LCg.CompEnd.intro (by assumption) (by assumption) [(src, srcO x' y' tx' ty'), (L + 1, oS), (L + 1 + 1, oT), (L + 1 + 1 + 1, oG)] (fun p hp => hp) off trivial ?_
    refine ih (i + 1) _ (ns ++ [v']) _ _ _ _ (by omega) (by rw [List.length_append, hl]; rfl) (ints_snoc hI) (fun z hz => ?_) (by assumption) (by assumption) (by assumption)
    rcases List.mem_append.mp hz with hz | hz
    · exact hb z hz
    · rw [List.mem_singleton.mp hz]
      exact ⟨by assumption, by assumption⟩

end
section
open PySem PySem.Spec PySem.Calls PySem.W PyProof.Rows
theorem small3 {v : Int} (h0 : 0 ≤ v) (h1 : v < 3) : Builtin.Range.small 0 (1 + v) 1 = true := by
  obtain rfl | rfl | rfl : v = 0 ∨ v = 1 ∨ v = 2 := by omega
  all_goals decide
theorem size3 {v : Int} (h0 : 0 ≤ v) (h1 : v < 3) : Builtin.Range.rangeSize 0 (1 + v) 1 = (((1 + v).toNat : Nat) : Int) := by
  obtain rfl | rfl | rfl : v = 0 ∨ v = 1 ∨ v = 2 := by omega
  all_goals decide
theorem line3 {v : Int} (h1 : v < 3) : (1 + v).toNat ≤ sizeLine := by rw [PySem.sizeLine_eq]; omega
theorem news_sw {H h : Heap} {L : Addr} {a b : Addr × Obj} {l : List (Addr × Obj)} (N : News H L h (a :: b :: l)) : News H L h (b :: a :: l) := fun p hp => N p (by
  simp only [List.mem_cons] at hp ⊢
  rcases hp with h | h | h
  · exact .inr (.inl h)
  · exact .inl h
  · exact .inr (.inr h))
theorem fix_cons {d D : Addr} {o : Obj} {l : List (Addr × Obj)} (h : @Ne Nat D d) (k : ∀ p ∈ l, p.1 ≠ d) : ∀ p ∈ (D, o) :: l, p.1 ≠ d := fun p hp => by
  rcases List.mem_cons.mp hp with rfl | hp
  · exact h
  · exact k p hp

theorem words11 : True := by
  k_with_none
  k_with "k_ne" => (refine neN ?_; (try dsimp only); first | with_reducible assumption | exact Ne.symm (by with_reducible assumption) | exact Nat.ne_of_gt (by with_reducible assumption) | exact Nat.ne_of_lt (by with_reducible assumption) | k_extra "ne in" | exact Ne.symm (by k_extra "ne in"))
  k_with "ne in" => first | exact ne1 (by with_reducible assumption) | exact ne2 (by with_reducible assumption) | exact ne3 (by with_reducible assumption) | exact ne4 (by with_reducible assumption) | exact ne5 (by with_reducible assumption) | exact ne6 (by with_reducible assumption) | exact ne7 (by with_reducible assumption) | exact ne8 (by with_reducible assumption) | exact nl2 (by with_reducible assumption) | exact nl3 (by with_reducible assumption) | exact nl4 (by with_reducible assumption) | exact nl5 (by with_reducible assumption) | exact nl6 (by with_reducible assumption) | exact nl7 (by with_reducible assumption)
  k_with "eval ListComp" => (k_here; k_dflt (refine LCg.ListComp_U (F₀ := by k_asm) (by with_unfolding_all rfl) (by decide) (by rfl) (by decide) (by rfl) ?_))
  k_with "call ref" => (k_here; (with_reducible show wpAny _ _ (call (Value.ref 222) [Value.ref _, Value.int _ _]) _ _ _); k_dflt (refine take_at (by k_asm) (by k_asm) (by k_asm) (by k_asm) (by k_asm) (by first | exact rfl | assumption) (by k_extra "src here") (by first | exact Nat.le_of_ble_eq_true rfl | ktr_room) (by first | exact Nat.le_of_ble_eq_true rfl | ktr_units) (by assumption) (by assumption) (by assumption) (by first | decide | assumption | exact top_lo (by assumption)) (by first | decide | exact top_hi (by assumption)) ?_); intro v' t' x' tx' y' ty' h' tk' g1' g2' g3' g4' g5' F' N'; (try simp only [List.nil_append, List.cons_append] at N'))
  k_with "src ne" => first | assumption | exact ne1 (by assumption) | exact ne2 (by assumption) | exact ne3 (by assumption) | exact ne4 (by assumption)
  k_with "src here" => first | exact Here.head (by assumption) | exact Here.tail (by k_extra "src ne") (by k_extra "src here")
  k_with "call ref" => (k_here; (with_reducible show wpAny _ _ (call (Value.ref 229) [Value.ref _, Value.ref _]) _ _ _); k_dflt (refine one_new (by k_asm) (by k_asm) (by k_asm) (by k_asm) (by k_asm) (by first | exact rfl | assumption) (by k_extra "src ne") (by k_extra "src here") (by first | exact Nat.le_of_ble_eq_true rfl | ktr_room) (by first | exact Nat.le_of_ble_eq_true rfl | ktr_units) (by assumption) (by assumption) (by assumption) (by first | l_ints | l_intsW) (by exact Nat.le_of_ble_eq_true rfl) (by exact Nat.le_of_ble_eq_true rfl) ?_); intro v' t' x' tx' y' ty' h' tk' g1' g3' g4' g5' F' N'; (try simp only [List.nil_append, List.cons_append] at N'); (try simp only [List.mem_cons, List.not_mem_nil, or_false] at g1'))
  k_with "call ref" => (k_here; (with_reducible show wpAny _ _ (call (Value.ref 234) [Value.int _ _, Value.ref _, Value.ref _]) _ _ _); k_dflt (refine told_at (by k_asm) (by k_asm) (by k_asm) (by k_asm) (by k_asm) (by k_asm) (by k_asm) (by first | exact rfl | assumption) (by kcj_m) (by first | exact Nat.le_of_ble_eq_true rfl | ktr_room) (by first | exact Nat.le_of_ble_eq_true rfl | ktr_units) (by assumption) (by assumption) (by assumption) ?_); intro v' t' h' tk' hv' F' N'; (first
    | (replace hv' := Eq.trans (Eq.symm hv') (pick_nil (by with_reducible assumption) (by with_reducible assumption) (by with_reducible assumption) (by with_reducible assumption) (by with_reducible assumption) (by with_reducible assumption)))
    | (replace hv' := Eq.trans (Eq.symm hv') (pick_k1 (by with_reducible assumption))) | (replace hv' := Eq.trans (Eq.symm hv') (pick_k2 (by with_reducible assumption))) | (replace hv' := Eq.trans (Eq.symm hv') (pick_k3 (by with_reducible assumption)))
    | (replace hv' := Eq.trans (Eq.symm hv') (pick_pt (by with_reducible assumption) (by with_reducible assumption) (by with_reducible assumption) (by with_reducible assumption) (by with_reducible assumption)))); subst hv')
  k_with "call ref" => (k_here; (with_reducible show wpAny _ _ (call (Value.ref 229) [Value.ref _, Value.ref _]) _ _ _); k_dflt (refine one_at (by k_asm) (by k_asm) (by k_asm) (by k_asm) (by k_asm) (by first | exact rfl | assumption) (by k_extra "src here") (by kcj_m) (by first | exact Nat.le_of_ble_eq_true rfl | ktr_room) (by first | exact Nat.le_of_ble_eq_true rfl | ktr_units) (by assumption) (by assumption) (by assumption) (by assumption) (by assumption) (by exact Nat.le_trans (by assumption) (by decide)) ?_); intro v' t' x' tx' y' ty' h' tk' g1' g3' g4' g5' F' N'; (try simp only [List.nil_append, List.cons_append] at N'))
  k_with "execs cons" => (k_here; (with_reducible show wpAny _ _ (execs (Stmt.For _ _ _ _ _ :: _) _) _ _ _); k_dflt (refine law_close (by k_asm) (by k_asm) (by k_asm) (by k_asm) (by k_asm) (by rfl) (by kcj_m) (by kcj_m) (by kcj_m) (by assumption) (by assumption) (by assumption) (by kcj_m) (by kcj_m) (by kcj_m) (by assumption) (by assumption) (by assumption) (by assumption) (by assumption) (by assumption) (by assumption) (by assumption) (by assumption) (by assumption) (by assumption) (by assumption)))
  trivial

theorem law_0 {w : World} {mean : ExcName → Option Value} {mg mb : Str → Option Value} {H : Heap} {s : Shared} {L fa src : Addr} {cd : Value} {m₁ : Str → Option Value} {Q : Flow → Shared → Prop}
    {oS oT oG : Obj} {x y : Int} {tx ty tk0 tk1 : Tok}
    (B : Below callerA H [] H) (X : (hd.heap_39 w.params).In H) (T : Top hd.view_39 (looseW hd.view_39 []) mean mg mb H)
    (F : Fr H L s.heap (fun y => if y = ("kind" : Str) then some (.str "a lossless scan tells a predictor from 1 to 7" tk0) else if y = ("point" : Str) then some (.str "a point transform must leave a bit" tk1) else m₁ y))
    (N : News H L s.heap [(src, srcO x y tx ty), (L + 1, oS), (L + 1 + 1, oT), (L + 1 + 1 + 1, oG)])
    (hfix : ∀ p ∈ [(L + 1, oS), (L + 1 + 1, oT), (L + 1 + 1 + 1, oG)], p.1 ≠ src) (hS : oS.data = .cell (some (.ref src))) (hT : oT.data = .cell none) (hG : oG.data = .cell none)
    (hx : 0 ≤ x) (hy0 : 0 ≤ y) (hy1 : y < 2147483647)
    (ret : ∀ h' tk' m', Fr H L h' m' → Q (.ret (.bool true)) { s with heap := h', toks := tk' }) :
    wpAny (model PySem.Challenge.rw_xm0816_01.row.prog w) (callerA.deeper (envOfC "law" lawFn.2 L fa cd)) (execs (lawFn.1.drop 3) (envOfC "law" lawFn.2 L fa cd)) Q (fun _ _ => False) s := by
  conv in (occs := *) (List.drop _ _) => all_goals whnf
  conv in (occs := *) (Prod.snd lawFn) => all_goals whnf
  revert X
  k_fill
  intro X
  k_with "CompSrc" => (k_dflt (refine LCg.CompSrc.range (by rfl) (by k_asm) (by k_asm) (by assumption) (small3 (by assumption) (by assumption)) (size3 (by assumption) (by assumption)) (line3 (by assumption)) ?_); intro g'; k_dflt (refine slots_turns B X T hfix hS ?_ _ 0 [] [] _ _ _ _ (Nat.zero_add _) rfl .nil (fun _ h => nomatch h) (by assumption) (by assumption) (by assumption)); intro ys ns x' y' tx' ty' hI hl hb g1 g2 g3; unfold LCg.FinE; intro D h' tk' F' N' o1; (have hn : 0 < ns.length := by omega); (have hn2 : ns.length ≤ 3 := by omega); k_dflt (have hne := o1.1); (clear o1 hl))
  k_with "execs cons" => (k_here; (with_reducible show wpAny _ _ (execs (Stmt.Assign [Expr.Name (Str.ofString "start") _] _ _ :: _) _) _ _ _); k_dflt (refine law_a B X T (fr_name (fr_name (fr_name (fr_name (by k_asm) (by rfl)) (by rfl)) (by rfl)) (by rfl)) (by k_extra "src N") (fix_cons (Ne.symm (by assumption)) (by assumption)) (by assumption) (by assumption) (by assumption) (by assumption) (by assumption) (by assumption) (by assumption) (by assumption) (by assumption) (by assumption) (by assumption) (by assumption) ?_); exact fun _ _ _ F => ret _ _ _ F)
  k_with "src N" => first | exact news_sw (by k_asm) | exact news_sw (news_tl (by k_asm)) | exact news_sw (news_tl (news_tl (by k_asm)))
  k_steps

end
section
open PySem PySem.Spec PySem.Calls PySem.W PyProof.Rows
theorem words12 : True := by
  k_with_none
  k_with "k_ne" => (refine neN ?_; (try dsimp only); first | with_reducible assumption | exact Ne.symm (by with_reducible assumption) | exact Nat.ne_of_gt (by with_reducible assumption) | exact Nat.ne_of_lt (by with_reducible assumption) | k_extra "ne in" | exact Ne.symm (by k_extra "ne in"))
  k_with "ne in" => first | exact ne1 (by with_reducible assumption) | exact ne2 (by with_reducible assumption) | exact ne3 (by with_reducible assumption) | exact ne4 (by with_reducible assumption) | exact ne5 (by with_reducible assumption) | exact ne6 (by with_reducible assumption) | exact ne7 (by with_reducible assumption) | exact ne8 (by with_reducible assumption) | exact nl2 (by with_reducible assumption) | exact nl3 (by with_reducible assumption) | exact nl4 (by with_reducible assumption) | exact nl5 (by with_reducible assumption) | exact nl6 (by with_reducible assumption) | exact nl7 (by with_reducible assumption)
  k_with "call ref" => (k_here; (with_reducible show wpAny _ _ (call (Value.ref 222) [Value.ref _, Value.int _ _]) _ _ _); k_dflt (refine take_at (by k_asm) (by k_asm) (by k_asm) (by k_asm) (by k_asm) (by first | exact rfl | assumption) (by k_extra "src here") (by first | exact Nat.le_of_ble_eq_true rfl | ktr_room) (by first | exact Nat.le_of_ble_eq_true rfl | ktr_units) (by assumption) (by assumption) (by assumption) (by first | decide | assumption | exact top_lo (by assumption)) (by first | decide | exact top_hi (by assumption)) ?_); intro v' t' x' tx' y' ty' h' tk' g1' g2' g3' g4' g5' F' N'; (try simp only [List.nil_append, List.cons_append] at N'))
  k_with "src ne" => first | assumption | exact ne1 (by assumption) | exact ne2 (by assumption) | exact ne3 (by assumption) | exact ne4 (by assumption)
  k_with "src here" => first | exact Here.head (by assumption) | exact Here.tail (by k_extra "src ne") (by k_extra "src here")
  k_with "call ref" => (k_here; (with_reducible show wpAny _ _ (call (Value.ref 229) [Value.ref _, Value.ref _]) _ _ _); k_dflt (refine one_new (by k_asm) (by k_asm) (by k_asm) (by k_asm) (by k_asm) (by first | exact rfl | assumption) (by k_extra "src ne") (by k_extra "src here") (by first | exact Nat.le_of_ble_eq_true rfl | ktr_room) (by first | exact Nat.le_of_ble_eq_true rfl | ktr_units) (by assumption) (by assumption) (by assumption) (by first | l_ints | l_intsW) (by exact Nat.le_of_ble_eq_true rfl) (by exact Nat.le_of_ble_eq_true rfl) ?_); intro v' t' x' tx' y' ty' h' tk' g1' g3' g4' g5' F' N'; (try simp only [List.nil_append, List.cons_append] at N'); (try simp only [List.mem_cons, List.not_mem_nil, or_false] at g1'))
  k_with "call ref" => (k_here; (with_reducible show wpAny _ _ (call (Value.ref 234) [Value.int _ _, Value.ref _, Value.ref _]) _ _ _); k_dflt (refine told_at (by k_asm) (by k_asm) (by k_asm) (by k_asm) (by k_asm) (by k_asm) (by k_asm) (by first | exact rfl | assumption) (by kcj_m) (by first | exact Nat.le_of_ble_eq_true rfl | ktr_room) (by first | exact Nat.le_of_ble_eq_true rfl | ktr_units) (by assumption) (by assumption) (by assumption) ?_); intro v' t' h' tk' hv' F' N'; (first
    | (replace hv' := Eq.trans (Eq.symm hv') (pick_nil (by with_reducible assumption) (by with_reducible assumption) (by with_reducible assumption) (by with_reducible assumption) (by with_reducible assumption) (by with_reducible assumption)))
    | (replace hv' := Eq.trans (Eq.symm hv') (pick_k1 (by with_reducible assumption))) | (replace hv' := Eq.trans (Eq.symm hv') (pick_k2 (by with_reducible assumption))) | (replace hv' := Eq.trans (Eq.symm hv') (pick_k3 (by with_reducible assumption)))
    | (replace hv' := Eq.trans (Eq.symm hv') (pick_pt (by with_reducible assumption) (by with_reducible assumption) (by with_reducible assumption) (by with_reducible assumption) (by with_reducible assumption)))); subst hv')
  k_with "call ref" => (k_here; (with_reducible show wpAny _ _ (call (Value.ref 229) [Value.ref _, Value.ref _]) _ _ _); k_dflt (refine one_at (by k_asm) (by k_asm) (by k_asm) (by k_asm) (by k_asm) (by first | exact rfl | assumption) (by k_extra "src here") (by kcj_m) (by first | exact Nat.le_of_ble_eq_true rfl | ktr_room) (by first | exact Nat.le_of_ble_eq_true rfl | ktr_units) (by assumption) (by assumption) (by assumption) (by assumption) (by assumption) (by exact Nat.le_trans (by assumption) (by decide)) ?_); intro v' t' x' tx' y' ty' h' tk' g1' g3' g4' g5' F' N'; (try simp only [List.nil_append, List.cons_append] at N'))
  k_with "execs cons" => (k_here; (with_reducible show wpAny _ _ (execs (Stmt.For _ _ _ _ _ :: _) _) _ _ _); k_dflt (refine law_close (by k_asm) (by k_asm) (by k_asm) (by k_asm) (by k_asm) (by rfl) (by kcj_m) (by kcj_m) (by kcj_m) (by assumption) (by assumption) (by assumption) (by kcj_m) (by kcj_m) (by kcj_m) (by assumption) (by assumption) (by assumption) (by assumption) (by assumption) (by assumption) (by assumption) (by assumption) (by assumption) (by assumption) (by assumption) (by assumption)))
  trivial

theorem fix3 {a b c d : Nat} {x y z : Obj} {P : Prop} (h : P ∧ c < d ∧ b < d ∧ a < d) : ∀ p ∈ [(a, x), (b, y), (c, z)], p.1 ≠ d := fun p hp => by
  simp only [List.mem_cons, List.not_mem_nil, or_false] at hp
  rcases hp with rfl | rfl | rfl
  · exact Nat.ne_of_lt h.2.2.2
  · exact Nat.ne_of_lt h.2.2.1
  · exact Nat.ne_of_lt h.2.1
theorem news_rv {H h : Heap} {L : Addr} {a b c d e : Addr × Obj} (N : News H L h [a, b, c, d, e]) : News H L h [a, e, d, c] := fun p hp => N p (by
  simp only [List.mem_cons, List.not_mem_nil, or_false] at hp ⊢
  rcases hp with h | h | h | h
  · exact .inl h
  · exact .inr (.inr (.inr (.inr h)))
  · exact .inr (.inr (.inr (.inl h)))
  · exact .inr (.inr (.inl h)))
theorem t12 : PySem.Challenge.rw_xm0816_01.Holds := hd (by
  k_with "call ref" => (k_here; (with_reducible show wpAny _ _ (call (Value.ref 234) [Value.int _ _, Value.ref _, Value.ref _]) _ _ _); k_dflt (refine told_at2 (by k_asm) (by k_asm) (by k_asm) (by k_asm) (by k_asm) (by k_asm) (by k_asm) (by first | exact rfl | assumption) (by first | exact Nat.le_of_ble_eq_true rfl | ktr_room) (by first | exact Nat.le_of_ble_eq_true rfl | ktr_units) (by first | assumption | l_ints | l_intsW) (by first | decide | assumption) (by first | decide | assumption) ?_); intro v' t' h' tk' hv' F' N'; (replace hv' := Eq.trans (Eq.symm hv') pick_first); subst hv')
  k_with "call ref" => (k_here; (with_reducible show wpAny _ _ (call (Value.ref 215) [Value.ref _]) _ _ _); k_dflt (refine pool_spec (by k_asm) (by k_asm) (by k_asm) (by k_asm) (by k_asm) (by first | exact rfl | assumption) (by first | exact Nat.le_of_ble_eq_true rfl | ktr_room) (by first | exact Nat.le_of_ble_eq_true rfl | ktr_units) (by assumption) (by l_ints) (by lay_of) (by omega) ?_); intro d' x' tx' y' ty' h' tk' g1' g2' g3' l1 F' N'; (try k_lt l1))
  k_with "execs cons" => (k_here; (with_reducible show wpAny _ _ (execs (Stmt.Assign [Expr.Tuple [Expr.Name (Str.ofString "precision") _, _] _ _] _ _ :: _) _) _ _ _); k_dflt (refine wpAny_mono (law_0 (by k_asm) (by k_asm) (by k_asm) (fr_name (fr_name (by k_asm) (by rfl)) (by rfl)) (news_rv (by k_asm)) (fix3 (by assumption)) (by assumption) (by assumption) (by assumption) (by assumption) (by assumption) (by assumption) ?_) (fun _ _ h => h) (fun _ _ h => h.elim)); intro h' tk' m' F')
  w_strict (k_go0; (all_goals try k_fold)); k_steps)

end
end Mine

theorem PySem.Challenge.cw_xm0816_01_holds : PySem.Challenge.rw_xm0816_01.Holds := by
  exact Mine.t12
