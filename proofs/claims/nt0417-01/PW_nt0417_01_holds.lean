import PyProof.Rows.All
import Wide.All
import OpenK.AllK
import Wide.FinOn
import PySem.Challenge.RW_nt0417_01
set_option Elab.async false
section
open PySem PySem.W PyProof.Rows
namespace Mine
set_option maxRecDepth 100000
set_option maxHeartbeats 8000000
open_top hd for PySem.Challenge.rw_nt0417_01
end Mine
end
theorem Mine.topOff : True := by
  w_top off
  exact trivial
section
open PySem PySem.W PyProof.Rows
set_option maxRecDepth 100000
set_option maxHeartbeats 8000000
namespace Mine
open PySem.Calls PySem.Spec
/-! the text's statements, by their place in the row's own term -/
def nthS : Nat → List Stmt → Stmt
  | _, [] => .Pass ⟨0, 0, 0, 0⟩
  | 0, s :: _ => s
  | n + 1, _ :: r => nthS n r
def stm (i : Nat) : Stmt := nthS i PySem.Challenge.pw_nt0417_01.main.body
def bodyOf : Stmt → List Stmt
  | .FunctionDef _ _ b _ _ _ _ _ _ _ => b
  | .For _ _ b _ _ => b
  | .While _ b _ _ => b
  | .If _ b _ _ => b
  | _ => []
def scopeOf : Stmt → Scope
  | .FunctionDef _ _ _ _ _ _ sc _ _ _ => sc
  | _ => { kind := .function, names := [], isGenerator := false, isCoroutine := false, more := [] }
def iterOf : Stmt → Expr
  | .For _ it _ _ _ => it
  | .While t _ _ _ => t
  | .If t _ _ _ => t
  | _ => .Name "" ⟨0, 0, 0, 0⟩
def sub2 (i j : Nat) : Stmt := nthS j (bodyOf (stm i))
def sub3 (i j k : Nat) : Stmt := nthS k (bodyOf (sub2 i j))
def sub4 (i j k l : Nat) : Stmt := nthS l (bodyOf (sub3 i j k))
theorem wp_append {M : Model} {Γ : PySem.Ctx} {env : Env} {E : Value → Pos → Shared → Prop} : ∀ (a b : List Stmt) {Q : Flow → Pos → Shared → Prop} {p : Pos} {s : Shared},
    Sem.wp M Γ (execs a env) (fun f p s => match f with | .next => Sem.wp M Γ (execs b env) Q E p s | f => Q f p s) E p s → Sem.wp M Γ (execs (a ++ b) env) Q E p s
  | [], _, _, _, _, h => h
  | st :: r, b, Q, p, s, h => by
    rw [List.cons_append, execs_cons, Sem.wp_bind']
    rw [execs_cons, Sem.wp_bind'] at h
    refine Sem.wp_mono M Γ _ (fun f p' s' h' => ?_) (fun _ _ _ h' => h') _ _ h
    cases f <;> first | exact wp_append r b h' | exact h'
theorem execs_append {M : Model} {A : Around} {env : Env} {E : Value → Shared → Prop} {Q : Flow → Shared → Prop} {s : Shared} (a b : List Stmt)
    (h : wpAny M A (execs a env) (fun f s' => match f with | .next => wpAny M A (execs b env) Q E s' | f => Q f s') E s) : wpAny M A (execs (a ++ b) env) Q E s := fun Γ p hΓ => by
  refine wp_append a b (Sem.wp_mono M Γ _ (fun f p' s' h' => ?_) (fun _ _ _ h' => h') _ _ (h Γ p hΓ))
  cases f <;> first | exact h' Γ p' hΓ | exact h'
theorem execs_one {M : Model} {A : Around} {env : Env} {E : Value → Shared → Prop} {st : Stmt} {Q : Flow → Shared → Prop} {s : Shared} (h : wpAny M A (exec st env) Q E s) : wpAny M A (execs [st] env) Q E s :=
  wpAny_execs_cons (wpAny_mono h (fun f s' q => by cases f <;> first | exact wpAny_execs_nil q | exact q) fun _ _ e => e)
theorem upd_ne {m : Str → Option Value} {x y : Str} {v u : Option Value} (h : m y = u) (ne : decide (y ≠ x) = true) : (fun z => if z = x then v else m z) y = u := by
  have ne' : y ≠ x := of_decide_eq_true ne
  show (if y = x then v else m y) = u
  rw [if_neg ne', h]
theorem upd_eq {m : Str → Option Value} {x : Str} {v : Option Value} : (fun z => if z = x then v else m z) x = v := if_pos rfl
theorem foldl_take_succ {α β : Type} (f : β → α → β) (b : β) {l : List α} {k : Nat} {a : α} (h : l[k]? = some a) : (l.take (k + 1)).foldl f b = f ((l.take k).foldl f b) a := by
  rw [List.take_add_one, h]; simp

end Mine
end
section
open PySem PySem.W PyProof.Rows
set_option maxRecDepth 100000
set_option maxHeartbeats 8000000
namespace Mine
open PySem.Calls PySem.Spec

def gi (l : List Int) (k : Int) : Int := l.getD k.toNat 0
def gl (l : List (List Int)) (k : Int) : List Int := l.getD k.toNat []
def gb (l : List Bool) (k : Int) : Bool := l.getD k.toNat false

/-! what stands in a heap -/
def IL (h : Heap) (a : Addr) (ns : List Int) : Prop := ∃ vs : List Value, h.IsList a vs.toArray ∧ IntsAre vs ns
def BL (h : Heap) (a : Addr) (bs : List Bool) : Prop := h.IsList a (bs.map Value.bool).toArray
def RL (h : Heap) (a : Addr) (rs : List Addr) : Prop := h.IsList a (rs.map Value.ref).toArray
theorem isList_keeps {h h' : Heap} {a : Addr} {its : Array Value} (x : h.IsList a its) (hk : ∀ b o, h.get? b = some o → h'.get? b = some o) : h'.IsList a its :=
  let ⟨o, e, r⟩ := x; ⟨o, hk _ _ e, r⟩
theorem IL.keeps {h h' : Heap} {a : Addr} {ns : List Int} (x : IL h a ns) (hk : ∀ b o, h.get? b = some o → h'.get? b = some o) : IL h' a ns :=
  let ⟨vs, e, r⟩ := x; ⟨vs, isList_keeps e hk, r⟩
theorem BL.keeps {h h' : Heap} {a : Addr} {bs : List Bool} (x : BL h a bs) (hk : ∀ b o, h.get? b = some o → h'.get? b = some o) : BL h' a bs := isList_keeps x hk
theorem RL.keeps {h h' : Heap} {a : Addr} {rs : List Addr} (x : RL h a rs) (hk : ∀ b o, h.get? b = some o → h'.get? b = some o) : RL h' a rs := isList_keeps x hk

def RowsAre (h : Heap) (rs : List Addr) (nss : List (List Int)) : Prop := ∀ (j : Nat) (r : Addr), rs[j]? = some r → IL h r (nss.getD j [])
theorem RowsAre.at {h : Heap} {rs : List Addr} {nss : List (List Int)} {j : Nat} {r : Addr} (x : RowsAre h rs nss) (e : rs[j]? = some r) : IL h r (nss.getD j []) := x j r e
theorem RowsAre.keeps {h h' : Heap} {rs : List Addr} {nss : List (List Int)} (x : RowsAre h rs nss) (hk : ∀ b o, h.get? b = some o → h'.get? b = some o) : RowsAre h' rs nss := fun j r e => (x j r e).keeps hk

/-! what stands in a ledger -/
def ILn (nx : List (Addr × Obj)) (a : Addr) (ns : List Int) : Prop := ∃ (vs : List Value) (k : Nat), (a, W.listOf vs.toArray k) ∈ nx ∧ IntsAre vs ns
def RLn (nx : List (Addr × Obj)) (a : Addr) (rs : List Addr) : Prop := ∃ k : Nat, (a, W.listOf (rs.map Value.ref).toArray k) ∈ nx
def BLn (nx : List (Addr × Obj)) (a : Addr) (bs : List Bool) : Prop := ∃ k : Nat, (a, W.listOf (bs.map Value.bool).toArray k) ∈ nx
theorem ILn.sub {nx ny : List (Addr × Obj)} {a : Addr} {ns : List Int} (x : ILn nx a ns) (hs : ∀ p ∈ nx, p ∈ ny) : ILn ny a ns := let ⟨vs, k, m, i⟩ := x; ⟨vs, k, hs _ m, i⟩
theorem RLn.sub {nx ny : List (Addr × Obj)} {a : Addr} {rs : List Addr} (x : RLn nx a rs) (hs : ∀ p ∈ nx, p ∈ ny) : RLn ny a rs := let ⟨k, m⟩ := x; ⟨k, hs _ m⟩
theorem BLn.sub {nx ny : List (Addr × Obj)} {a : Addr} {rs : List Bool} (x : BLn nx a rs) (hs : ∀ p ∈ nx, p ∈ ny) : BLn ny a rs := let ⟨k, m⟩ := x; ⟨k, hs _ m⟩
section
variable {h₀ h : Heap} {L a : Addr} {nx own : List (Addr × Obj)} {ns : List Int} {rs : List Addr} {bs : List Bool}
theorem isList_news {its : Array Value} {k : Nat} (N : News h₀ L h nx) (m : (a, W.listOf its k) ∈ nx) : h.IsList a its := ⟨_, (N _ m).1, rfl, k, rfl⟩
theorem ILn.il (N : News h₀ L h nx) (x : ILn nx a ns) : IL h a ns := let ⟨vs, _, m, i⟩ := x; ⟨vs, isList_news N m, i⟩
theorem RLn.rl (N : News h₀ L h nx) (x : RLn nx a rs) : RL h a rs := let ⟨_, m⟩ := x; isList_news N m
theorem BLn.bl (N : News h₀ L h nx) (x : BLn nx a bs) : BL h a bs := let ⟨_, m⟩ := x; isList_news N m
theorem ILn.at (N : News h₀ L h (nx ++ own)) (x : ILn nx a ns) : IL h a ns := (x.sub fun _ m => List.mem_append.mpr (.inl m)).il N
theorem RLn.at (N : News h₀ L h (nx ++ own)) (x : RLn nx a rs) : RL h a rs := (x.sub fun _ m => List.mem_append.mpr (.inl m)).rl N
theorem BLn.at (N : News h₀ L h (nx ++ own)) (x : BLn nx a bs) : BL h a bs := (x.sub fun _ m => List.mem_append.mpr (.inl m)).bl N
end

/-! reading -/
section
variable {prog : Program} {w : World} {A : Around} {E : Value → Shared → Prop} {s : Shared} {a : Addr} {k : Int} {u : Tok}
theorem item_i {value slice : Expr} {ns : List Int} {Q : Value → Shared → Prop} (hl : IL s.heap a ns) (h0 : 0 ≤ k) (h1 : k < ns.length) (hf : ns.length ≤ 2 ^ 20) (h : ∀ t, Q (.int (gi ns k) t) s)
    (hs : subscripted slice false (.ref a) (.int k u) = operate [.ref a, .int k u] (getItem (.ref a) (.int k u)) := by with_unfolding_all rfl) :
    wpAny (model prog w) A (subscriptTail value slice (.ref a) (.int k u)) Q E s := by
  obtain ⟨vs, hl, hi⟩ := hl
  exact item_anyK hl hi h0 h1 (by omega) h hs
theorem get_i {ns : List Int} {Q : Value → Shared → Prop} (hl : IL s.heap a ns) (h0 : 0 ≤ k) (h1 : k < ns.length) (hf : ns.length ≤ 2 ^ 20) (h : ∀ t, Q (.int (gi ns k) t) s) :
    wpAny (model prog w) A (getItem (.ref a) (.int k u)) Q E s := by
  obtain ⟨vs, hl, hi⟩ := hl
  exact getItem_intsK hl hi h0 h1 (by omega) h
theorem item_b {value slice : Expr} {bs : List Bool} {Q : Value → Shared → Prop} (hl : BL s.heap a bs) (h0 : 0 ≤ k) (h1 : k < bs.length) (hf : bs.length ≤ 2 ^ 20) (h : Q (.bool (gb bs k)) s)
    (hs : subscripted slice false (.ref a) (.int k u) = operate [.ref a, .int k u] (getItem (.ref a) (.int k u)) := by with_unfolding_all rfl) :
    wpAny (model prog w) A (subscriptTail value slice (.ref a) (.int k u)) Q E s := by
  have hj : k.toNat < bs.length := by omega
  refine tail_any (Heap.IsList.typeIs hl) slot_list_getitem.lookup (wpAny_getItem_list hl h0 (by omega) (x := .bool (gb bs k)) ?_ h) hs
  simp [gb, hj]
theorem item_r {value slice : Expr} {rs : List Addr} {Q : Value → Shared → Prop} (hl : RL s.heap a rs) (h0 : 0 ≤ k) (h1 : k < rs.length) (hf : rs.length ≤ 2 ^ 20) (h : ∀ b, rs[k.toNat]? = some b → Q (.ref b) s)
    (hs : subscripted slice false (.ref a) (.int k u) = operate [.ref a, .int k u] (getItem (.ref a) (.int k u)) := by with_unfolding_all rfl) :
    wpAny (model prog w) A (subscriptTail value slice (.ref a) (.int k u)) Q E s := by
  have hj : k.toNat < rs.length := by omega
  have e : rs[k.toNat]? = some rs[k.toNat] := by simp [hj]
  refine tail_any (Heap.IsList.typeIs hl) slot_list_getitem.lookup (wpAny_getItem_list hl h0 (by omega) (x := .ref rs[k.toNat]) ?_ (h _ e)) hs
  simp [hj]
theorem len_v {vs : List Value} {n : Nat} {Q : Value → Shared → Prop} (hl : s.heap.IsList a vs.toArray) (hn : vs.length = n) (hf : n ≤ 2 ^ 20) (h : ∀ t tk, Q (.int (n : Nat) t) { s with toks := tk }) :
    wpAny (model prog w) A (call (.builtin "len") [.ref a]) Q E s := by
  subst hn
  refine Calls.call_len_list hl (by rw [List.size_toArray]; omega) ?_
  rw [List.size_toArray]
  exact h _ _
theorem len_i {ns : List Int} {Q : Value → Shared → Prop} (hl : IL s.heap a ns) (hf : ns.length ≤ 2 ^ 20) (h : ∀ t tk, Q (.int (ns.length : Nat) t) { s with toks := tk }) :
    wpAny (model prog w) A (call (.builtin "len") [.ref a]) Q E s := by
  obtain ⟨vs, hl, hi⟩ := hl
  exact len_v hl hi.length hf h
theorem len_r {rs : List Addr} {Q : Value → Shared → Prop} (hl : RL s.heap a rs) (hf : rs.length ≤ 2 ^ 20) (h : ∀ t tk, Q (.int (rs.length : Nat) t) { s with toks := tk }) :
    wpAny (model prog w) A (call (.builtin "len") [.ref a]) Q E s := len_v hl (by simp) hf h
end

section
variable {prog : Program} {w : World} {A : Around} {E : Value → Shared → Prop} {s : Shared} {a b : Addr} {ns ms : List Int} {Q : Value → Shared → Prop}
theorem eq_i (ha : IL s.heap a ns) (hb : IL s.heap b ms) (hu : A.units + 64 < cLine) (h : Q (.bool (decide (ns = ms))) s) : wpAny (model prog w) A (compareOp .Eq (.ref a) (.ref b)) Q E s := by
  obtain ⟨vs, hl, hi⟩ := ha
  obtain ⟨us, hl', hi'⟩ := hb
  exact ke_eq_ints hl hl' hi hi' hu h
theorem ne_i (ha : IL s.heap a ns) (hb : IL s.heap b ms) (hu : A.units + 64 < cLine) (h : Q (.bool (!decide (ns = ms))) s) : wpAny (model prog w) A (compareOp .NotEq (.ref a) (.ref b)) Q E s := by
  obtain ⟨vs, hl, hi⟩ := ha
  obtain ⟨us, hl', hi'⟩ := hb
  exact ke_ne_ints hl hl' hi hi' hu h
end

/-! the ledger as a map -/
def put (D : Addr) (o : Obj) (l : List (Addr × Obj)) : List (Addr × Obj) := l.map fun p => if p.1 = D then (D, o) else p
theorem put_fst (D : Addr) (o : Obj) (l : List (Addr × Obj)) : (put D o l).map (·.1) = l.map (·.1) := by
  unfold put
  rw [List.map_map]
  refine List.map_congr_left fun p _ => ?_
  by_cases h : p.1 = D <;> simp [h]
theorem put_self {D : Addr} {o o₀ : Obj} {l : List (Addr × Obj)} (h : (D, o₀) ∈ l) : (D, o) ∈ put D o l := List.mem_map.mpr ⟨_, h, by simp⟩
theorem put_ne {D b : Addr} {o ob : Obj} {l : List (Addr × Obj)} (hb : b ≠ D) (h : (b, ob) ∈ l) : (b, ob) ∈ put D o l := List.mem_map.mpr ⟨_, h, by simp [hb]⟩
theorem put_of_mem {D : Addr} {o : Obj} {l : List (Addr × Obj)} {p : Addr × Obj} (h : p ∈ put D o l) : p = (D, o) ∧ (∃ o₀, (D, o₀) ∈ l) ∨ p.1 ≠ D ∧ p ∈ l := by
  obtain ⟨q, hq, rfl⟩ := List.mem_map.mp h
  by_cases e : q.1 = D
  · exact .inl ⟨by simp [e], q.2, by rw [← e]; exact hq⟩
  · exact .inr ⟨by simpa [e] using e, by simpa [e] using hq⟩
def Kept (nx nx' : List (Addr × Obj)) (D : Addr) : Prop := ∀ q ∈ nx, q.1 ≠ D → q ∈ nx'
theorem put_kept (D : Addr) (o : Obj) (nx : List (Addr × Obj)) : Kept nx (put D o nx) D := fun _ hq hne => Mine.put_ne hne hq
theorem ILn.put_ne {nx : List (Addr × Obj)} {a D : Addr} {o : Obj} {ns : List Int} (x : ILn nx a ns) (ne : a ≠ D) : ILn (put D o nx) a ns := let ⟨vs, k, m, i⟩ := x; ⟨vs, k, Mine.put_ne ne m, i⟩
theorem RLn.put_ne {nx : List (Addr × Obj)} {a D : Addr} {o : Obj} {rs : List Addr} (x : RLn nx a rs) (ne : a ≠ D) : RLn (put D o nx) a rs := let ⟨k, m⟩ := x; ⟨k, Mine.put_ne ne m⟩
theorem BLn.put_ne {nx : List (Addr × Obj)} {a D : Addr} {o : Obj} {rs : List Bool} (x : BLn nx a rs) (ne : a ≠ D) : BLn (put D o nx) a rs := let ⟨k, m⟩ := x; ⟨k, Mine.put_ne ne m⟩
theorem ILn.put_at {nx : List (Addr × Obj)} {D : Addr} {o₀ : Obj} {vs : List Value} {k : Nat} {ns : List Int} (m : (D, o₀) ∈ nx) (i : IntsAre vs ns) : ILn (put D (W.listOf vs.toArray k) nx) D ns := ⟨vs, k, put_self m, i⟩

/-! writing: the ledger is nx (what may turn) and own (what stands by) -/
section
variable {prog : Program} {w : World} {A : Around} {E : Value → Shared → Prop} {s : Shared} {h₀ h h' : Heap} {L D : Addr} {m : Str → Option Value} {nx own : List (Addr × Obj)} {adr : List Addr} {vs : List Value} {n : Nat}
theorem news_put2 {o o₀ : Obj} (F : Fr h₀ L h m) (N : News h₀ L h (nx ++ own)) (ad : nx.map (·.1) = adr) (off : OwnOff own adr) (hm : (D, o₀) ∈ nx) (hs : Heap.SameBut D h h') (ho : h'.get? D = some o) :
    Fr h₀ L h' m ∧ News h₀ L h' (put D o nx ++ own) := by
  have hD := N _ (List.mem_append.mpr (.inl hm))
  refine ⟨F.change hs hD.2.1 hD.2.2, fun p hp => ?_⟩
  rcases List.mem_append.mp hp with hp | hp
  · rcases put_of_mem hp with ⟨rfl, o₁, h1⟩ | ⟨hne, h1⟩
    · exact ⟨ho, (N _ (List.mem_append.mpr (.inl h1))).2⟩
    · have z := N _ (List.mem_append.mpr (.inl h1))
      exact ⟨(hs.2 _ hne).trans z.1, z.2⟩
  · have z := N _ (List.mem_append.mpr (.inr hp))
    refine ⟨(hs.2 _ (off p hp D ?_)).trans z.1, z.2⟩
    exact ad ▸ List.mem_map.mpr ⟨_, hm, rfl⟩
theorem set_core {k : Int} {t : Tok} {v : Value} {Q : Unit → Shared → Prop} (F : Fr h₀ L s.heap m) (N : News h₀ L s.heap (nx ++ own)) (ad : nx.map (·.1) = adr) (off : OwnOff own adr) (hm : (D, W.listOf vs.toArray n) ∈ nx)
    (h0 : 0 ≤ k) (hn : k < vs.length) (hf : vs.length ≤ 2 ^ 20) (h : ∀ h', Fr h₀ L h' m → News h₀ L h' (put D (W.listOf (vs.set k.toNat v).toArray n) nx ++ own) → Q () { s with heap := h' }) :
    wpAny (model prog w) A (setItem (.ref D) (.int k t) v) Q E s := by
  have ho := (N _ (List.mem_append.mpr (.inl hm))).1
  have hu : (s.heap.update D (Obj.mapSeq (·.setIfInBounds k.toNat v))).get? D = some (W.listOf (vs.set k.toNat v).toArray n) := by
    rw [Heap.get?_update_self _ ho rfl]; simp [Obj.mapSeq]
  have z := news_put2 F N ad off hm (Heap.SameBut.update ..) hu
  exact ki_setAt ho h0 (by omega) (by simpa using hn) (h _ z.1 z.2)
theorem app_core {x : Value} {Q : Value → Shared → Prop} (F : Fr h₀ L s.heap m) (N : News h₀ L s.heap (nx ++ own)) (ad : nx.map (·.1) = adr) (off : OwnOff own adr) (hm : (D, W.listOf vs.toArray n) ∈ nx)
    (hf : vs.length ≤ 2 ^ 20) (h : ∀ h', Fr h₀ L h' m → News h₀ L h' (put D (W.listOf (vs ++ [x]).toArray (n + 1)) nx ++ own) → Q .none { s with heap := h' }) :
    wpAny (model prog w) A (call (.builtin "list.append") [.ref D, x]) Q E s := by
  have ho := (N _ (List.mem_append.mpr (.inl hm))).1
  have hz : vs.toArray.size ≤ sizeLine := by rw [List.size_toArray, sizeLine_eq]; omega
  refine append_at (hsz := hz) ho fun h' hs ho' => ?_
  have z := news_put2 F N ad off hm hs (by rw [ho']; simp : h'.get? D = some (W.listOf (vs ++ [x]).toArray (n + 1)))
  exact h h' z.1 z.2
theorem meth_n {o : Obj} {pl : Sem Bool} {Q : Value × List Value → Shared → Prop} (N : News h₀ L s.heap nx) (hm : (D, o) ∈ nx) (hc : o.cls = .type "list") (hd : o.dict = none) (h : Q (.builtin "list.append", [.ref D]) s) :
    wpAny (model prog w) A (getMethod (.ref D) (Str.ofString "append") pl) Q E s := Calls.getMethod_list_append (N _ hm).1 hc hd h
theorem meth_i {ns : List Int} {pl : Sem Bool} {Q : Value × List Value → Shared → Prop} (hl : IL s.heap D ns) (h : Q (.builtin "list.append", [.ref D]) s)
    (hd : ∀ o, s.heap.get? D = some o → o.dict = none) :
    wpAny (model prog w) A (getMethod (.ref D) (Str.ofString "append") pl) Q E s := by
  obtain ⟨vs, ⟨o, ho, hc, _⟩, _⟩ := hl
  exact Calls.getMethod_list_append ho hc (hd _ ho) h
end

section
variable {M : Model} {A : Around} {E : Value → Shared → Prop} {s : Shared} {h₀ : Heap} {L D : Addr} {nx own : List (Addr × Obj)} {ns : List Int}
theorem ILn.meth {pl : Sem Bool} {Q : Value × List Value → Shared → Prop} (N : News h₀ L s.heap (nx ++ own)) (x : ILn nx D ns) (h : Q (.builtin "list.append", [.ref D]) s) :
    wpAny M A (getMethod (.ref D) (Str.ofString "append") pl) Q E s := by
  obtain ⟨vs, k, hm, _⟩ := x
  exact Calls.getMethod_list_append (N _ (List.mem_append.mpr (.inl hm))).1 rfl rfl h
end

section
variable {M : Model} {A : Around} {E : Value → Shared → Prop} {s : Shared} {h₀ : Heap} {L a : Addr} {m : Str → Option Value} {cn : Str} {cs : Scope} {ccd : Value} {cl : List (Str × Addr)} {x : Str} {v : Value} {Q : Value → Shared → Prop}
theorem load_L (F : Fr h₀ L s.heap m) (hv : m x = some v) (h : Q v s) (hk : cs.kind = .function) (hx : (envX cn cs L a ccd cl).kindOf x = some .local) : wpAny M A (loadName (envX cn cs L a ccd cl) x) Q E s :=
  wpAny_loadName_local hk hx F.ns hv h
end

/-! solve's four lists -/
structure SH (nx : List (Addr × Obj)) (adr : List Addr) (V Lf Bf Qq : Addr) (bs : List Addr) (vals left : List Int) (bv : List (List Int)) (qu : List Int) : Prop where
  ad : nx.map (·.1) = adr
  v : ILn nx V vals
  l : ILn nx Lf left
  b : RLn nx Bf bs
  q : ILn nx Qq qu
  r : ∀ (j : Nat) (b : Addr), bs[j]? = some b → ILn nx b (bv.getD j [])
  nd : (V :: Lf :: Bf :: Qq :: bs).Nodup
  bl : bs.length = bv.length

section
variable {prog : Program} {w : World} {A : Around} {E : Value → Shared → Prop} {s : Shared} {h₀ h h' : Heap} {L : Addr} {m : Str → Option Value} {nx own : List (Addr × Obj)} {adr : List Addr} {V Lf Bf Qq : Addr} {bs : List Addr} {vals left : List Int} {bv : List (List Int)} {qu : List Int}

theorem SH.mem_ne (S : SH nx adr V Lf Bf Qq bs vals left bv qu) : (V ≠ Lf ∧ V ≠ Bf ∧ V ≠ Qq ∧ Lf ≠ Bf ∧ Lf ≠ Qq ∧ Bf ≠ Qq) ∧ ∀ b ∈ bs, V ≠ b ∧ Lf ≠ b ∧ Bf ≠ b ∧ Qq ≠ b := by
  have h := S.nd
  simp only [List.nodup_cons, List.mem_cons, not_or] at h
  obtain ⟨⟨a1, a2, a3, a4⟩, ⟨b1, b2, b3⟩, ⟨c1, c2⟩, d, _⟩ := h
  exact ⟨⟨a1, a2, a3, b1, b2, c1⟩, fun b hb => ⟨fun e => a4 (e ▸ hb), fun e => b3 (e ▸ hb), fun e => c2 (e ▸ hb), fun e => d (e ▸ hb)⟩⟩

theorem SH.setV {k x : Int} {t u : Tok} {Q : Unit → Shared → Prop} (S : SH nx adr V Lf Bf Qq bs vals left bv qu) (F : Fr h₀ L s.heap m) (N : News h₀ L s.heap (nx ++ own)) (off : OwnOff own adr) (h0 : 0 ≤ k) (h1 : k < vals.length) (hf : vals.length ≤ 2 ^ 20)
    (h : ∀ h' nx', Fr h₀ L h' m → News h₀ L h' (nx' ++ own) → SH nx' adr V Lf Bf Qq bs (vals.set k.toNat x) left bv qu → Kept nx nx' V → Q () { s with heap := h' }) :
    wpAny (model prog w) A (setItem (.ref V) (.int k t) (.int x u)) Q E s := by
  obtain ⟨vs, n, hm, hi⟩ := S.v
  have hl := hi.length
  obtain ⟨⟨n1, n2, n3, n4, n5, n6⟩, nb⟩ := S.mem_ne
  refine set_core F N S.ad off hm h0 (by omega) (by omega) fun h' F' N' => h h' _ F' N' ⟨by rw [put_fst, S.ad], .put_at hm (ints_set hi _), S.l.put_ne n1.symm, S.b.put_ne n2.symm, S.q.put_ne n3.symm, fun j b hj => (S.r j b hj).put_ne ?_, S.nd, S.bl⟩ (put_kept _ _ _)
  exact (nb b (List.mem_of_getElem? hj)).1.symm
theorem SH.setL {k x : Int} {t u : Tok} {Q : Unit → Shared → Prop} (S : SH nx adr V Lf Bf Qq bs vals left bv qu) (F : Fr h₀ L s.heap m) (N : News h₀ L s.heap (nx ++ own)) (off : OwnOff own adr) (h0 : 0 ≤ k) (h1 : k < left.length) (hf : left.length ≤ 2 ^ 20)
    (h : ∀ h' nx', Fr h₀ L h' m → News h₀ L h' (nx' ++ own) → SH nx' adr V Lf Bf Qq bs vals (left.set k.toNat x) bv qu → Kept nx nx' Lf → Q () { s with heap := h' }) :
    wpAny (model prog w) A (setItem (.ref Lf) (.int k t) (.int x u)) Q E s := by
  obtain ⟨vs, n, hm, hi⟩ := S.l
  have hl := hi.length
  obtain ⟨⟨n1, n2, n3, n4, n5, n6⟩, nb⟩ := S.mem_ne
  refine set_core F N S.ad off hm h0 (by omega) (by omega) fun h' F' N' => h h' _ F' N' ⟨by rw [put_fst, S.ad], S.v.put_ne n1, .put_at hm (ints_set hi _), S.b.put_ne n4.symm, S.q.put_ne n5.symm, fun j b hj => (S.r j b hj).put_ne ?_, S.nd, S.bl⟩ (put_kept _ _ _)
  exact (nb b (List.mem_of_getElem? hj)).2.1.symm
theorem SH.appL {x : Int} {u : Tok} {Q : Value → Shared → Prop} (S : SH nx adr V Lf Bf Qq bs vals left bv qu) (F : Fr h₀ L s.heap m) (N : News h₀ L s.heap (nx ++ own)) (off : OwnOff own adr) (hf : left.length ≤ 2 ^ 20)
    (h : ∀ h' nx', Fr h₀ L h' m → News h₀ L h' (nx' ++ own) → SH nx' adr V Lf Bf Qq bs vals (left ++ [x]) bv qu → Kept nx nx' Lf → Q .none { s with heap := h' }) :
    wpAny (model prog w) A (call (.builtin "list.append") [.ref Lf, .int x u]) Q E s := by
  obtain ⟨vs, n, hm, hi⟩ := S.l
  have hl := hi.length
  obtain ⟨⟨n1, n2, n3, n4, n5, n6⟩, nb⟩ := S.mem_ne
  refine app_core F N S.ad off hm (by omega) fun h' F' N' => h h' _ F' N' ⟨by rw [put_fst, S.ad], S.v.put_ne n1, .put_at hm (hi.append (.cons _ _ .nil)), S.b.put_ne n4.symm, S.q.put_ne n5.symm, fun j b hj => (S.r j b hj).put_ne ?_, S.nd, S.bl⟩ (put_kept _ _ _)
  exact (nb b (List.mem_of_getElem? hj)).2.1.symm
theorem SH.appQ {x : Int} {u : Tok} {Q : Value → Shared → Prop} (S : SH nx adr V Lf Bf Qq bs vals left bv qu) (F : Fr h₀ L s.heap m) (N : News h₀ L s.heap (nx ++ own)) (off : OwnOff own adr) (hf : qu.length ≤ 2 ^ 20)
    (h : ∀ h' nx', Fr h₀ L h' m → News h₀ L h' (nx' ++ own) → SH nx' adr V Lf Bf Qq bs vals left bv (qu ++ [x]) → Kept nx nx' Qq → Q .none { s with heap := h' }) :
    wpAny (model prog w) A (call (.builtin "list.append") [.ref Qq, .int x u]) Q E s := by
  obtain ⟨vs, n, hm, hi⟩ := S.q
  have hl := hi.length
  obtain ⟨⟨n1, n2, n3, n4, n5, n6⟩, nb⟩ := S.mem_ne
  refine app_core F N S.ad off hm (by omega) fun h' F' N' => h h' _ F' N' ⟨by rw [put_fst, S.ad], S.v.put_ne n3, S.l.put_ne n5, S.b.put_ne n6, .put_at hm (hi.append (.cons _ _ .nil)), fun j b hj => (S.r j b hj).put_ne ?_, S.nd, S.bl⟩ (put_kept _ _ _)
  exact (nb b (List.mem_of_getElem? hj)).2.2.2.symm
theorem SH.appB {b : Addr} {j : Nat} {x : Int} {u : Tok} {Q : Value → Shared → Prop} (S : SH nx adr V Lf Bf Qq bs vals left bv qu) (F : Fr h₀ L s.heap m) (N : News h₀ L s.heap (nx ++ own)) (off : OwnOff own adr) (hb : bs[j]? = some b) (hf : (bv.getD j []).length ≤ 2 ^ 20)
    (h : ∀ h' nx', Fr h₀ L h' m → News h₀ L h' (nx' ++ own) → SH nx' adr V Lf Bf Qq bs vals left (bv.set j (bv.getD j [] ++ [x])) qu → Kept nx nx' b → Q .none { s with heap := h' }) :
    wpAny (model prog w) A (call (.builtin "list.append") [.ref b, .int x u]) Q E s := by
  obtain ⟨vs, n, hm, hi⟩ := S.r j b hb
  have hl := hi.length
  obtain ⟨⟨n1, n2, n3, n4, n5, n6⟩, nb⟩ := S.mem_ne
  obtain ⟨m1, m2, m3, m4⟩ := nb b (List.mem_of_getElem? hb)
  have hj : j < bv.length := by
    have := (List.getElem?_eq_some_iff.mp hb).1
    rw [← S.bl]; exact this
  refine app_core F N S.ad off hm (by omega) fun h' F' N' => h h' _ F' N' ⟨by rw [put_fst, S.ad], S.v.put_ne m1, S.l.put_ne m2, S.b.put_ne m3, S.q.put_ne m4, fun i c hi' => ?_, S.nd, by rw [List.length_set]; exact S.bl⟩ (put_kept _ _ _)
  by_cases e : i = j
  · subst e
    rw [hb] at hi'
    cases hi'
    have : (bv.set i (bv.getD i [] ++ [x])).getD i [] = bv.getD i [] ++ [x] := by simp [List.getD_eq_getElem?_getD, List.getElem?_set, hj]
    rw [this]
    exact .put_at hm (hi.append (.cons _ _ .nil))
  · have : (bv.set j (bv.getD j [] ++ [x])).getD i [] = bv.getD i [] := by simp [List.getD_eq_getElem?_getD, List.getElem?_set, Ne.symm e]
    rw [this]
    refine (S.r i c hi').put_ne fun ec => e ?_
    subst ec
    have nd : bs.Nodup := by
      have := S.nd
      simp only [List.nodup_cons] at this
      exact this.2.2.2.2
    exact (List.getElem?_inj (List.getElem?_eq_some_iff.mp hi').1 nd).mp (hi'.trans hb.symm)
end
end Mine
end
section
open PySem PySem.W PyProof.Rows
set_option maxRecDepth 100000
set_option maxHeartbeats 8000000
namespace Mine
open PySem.Calls PySem.Spec
section
variable {prog : Program} {w : World} {A : Around} {s : Shared} {h₀ : Heap} {L : Addr} {m : Str → Option Value} {env : Env} {ct : Expr} {x : Str} {scope : Scope} {cl : List (Str × Addr)} {S : List (Addr × Obj) → Prop}
  {Fin : List Value → List (Addr × Obj) → Prop} {news : List (Addr × Obj)} {px : Pos} {vs : List Value} {ns : List Int}
/-- a comprehension that keeps the items that pass a test which changes nothing -/
theorem comp_filter (pz : Int → Bool) (hi : IntsAre vs ns) (hS : S news) (hk : ∀ C, (compEnvC scope cl C env).scope.kind = .function) (hl : ∀ C, (compEnvC scope cl C env).kindOf x = some .local) (hd : (x == ("__debug__" : Str)) = false)
    (htest : ∀ (n : Int) (t : Tok) I oI C oC D oD m₂ h tk (Q' : Bool → Shared → Prop) (E' : Value → Shared → Prop), n ∈ ns → LCg.NsObj oC m₂ → m₂ x = some (.int n t) → Fr h₀ L h m → News h₀ L h ((I, oI) :: (C, oC) :: (D, oD) :: news) →
      (∀ tk', Q' (pz n) { s with heap := h, toks := tk' }) → wpAny (model prog w) A (isTrue ct (compEnvC scope cl C env) (eval ct (compEnvC scope cl C env))) Q' E' { s with heap := h, toks := tk })
    (fin : ∀ ys, IntsAre ys (ns.filter pz) → Fin ys news) :
    ∀ (k i : Nat) (ys : List Value), i + k = ns.length → IntsAre ys ((ns.take i).filter pz) → LCt.CompRestT prog w A h₀ L m env ct (.Name x px) x scope cl s S (fun i v => vs.toArray[i]? = some v) Fin k i ys news
  | 0, i, ys, hk', hy => by
    refine LCt.CompRestT.zero (fin ys ?_)
    rw [List.take_of_length_le (by omega)] at hy
    exact hy
  | k + 1, i, ys, hk', hy => by
    refine LCt.CompRestT.succ fun v I oI C oC D m₂ h tk E' hP hC hx F N off ne => ?_
    have hlt : i < ns.length := by omega
    obtain ⟨t, ht⟩ := hi.get i ns[i] (by simp [hlt])
    have hv : v = .int ns[i] t := by
      have hP' : vs[i]? = some v := by simpa using hP
      rw [ht] at hP'; exact (Option.some.inj hP').symm
    subst hv
    have htk : ns.take (i + 1) = ns.take i ++ [ns[i]] := by rw [List.take_add_one, List.getElem?_eq_getElem hlt]; rfl
    refine htest ns[i] t I oI C oC D _ m₂ h tk _ _ (List.getElem_mem hlt) hC hx F N fun tk' => ?_
    have sub : ∀ p ∈ (I, oI) :: (C, oC) :: (D, LCg.lst ys) :: news, p ∈ (I, oI) :: (C, oC) :: (D, LCg.lst ys) :: news := fun _ h => h
    cases hp : pz ns[i] with
    | true =>
      rw [if_pos rfl]
      refine LCgL.ld_own (s := { s with heap := h, toks := tk' }) N (.tail _ (.head _)) hC hx ?_ (hk C) (hl C) hd
      refine LCg.CompEnd.intro F N news sub off hS (comp_filter pz hi hS hk hl hd htest fin k (i + 1) _ (by omega) ?_)
      rw [htk, List.filter_append]
      simp only [List.filter_cons, hp, if_true, List.filter_nil]
      exact hy.append (.cons _ _ .nil)
    | false =>
      rw [if_neg (by decide)]
      refine LCg.CompEnd.intro F N news sub off hS (comp_filter pz hi hS hk hl hd htest fin k (i + 1) _ (by omega) ?_)
      rw [htk, List.filter_append]
      simp only [List.filter_cons, hp, List.filter_nil, List.append_nil, Bool.false_eq_true, if_false]
      exact hy
end
section
variable {prog : Program} {w : World} {A : Around} {s : Shared} {h₀ : Heap} {L : Addr} {m : Str → Option Value} {env : Env} {elt : Expr} {x : Str} {scope : Scope} {cl : List (Str × Addr)} {P : Nat → Value → Prop}
  {Fin : List Value → List (Addr × Obj) → Prop} {own : List (Addr × Obj)} {n : Nat}
/-- a comprehension of ints whose element turns the ledger -/
theorem comp_takes (Inv : List (Addr × Obj) → Nat → Prop) (Pz : Int → Prop)
    (helt : ∀ (j : Nat) nx I oI C oC D oD h tk (Q' E' : Value → Shared → Prop), j < n → Inv nx j → Fr h₀ L h m → News h₀ L h ((I, oI) :: (C, oC) :: (D, oD) :: (nx ++ own)) → LCg.Off3 I C D (nx ++ own) →
      (∀ z t nx' h' tk', Pz z → Fr h₀ L h' m → News h₀ L h' ((I, oI) :: (C, oC) :: (D, oD) :: (nx' ++ own)) → LCg.Off3 I C D (nx' ++ own) → Inv nx' (j + 1) → Q' (.int z t) { s with heap := h', toks := tk' }) →
      wpAny (model prog w) A (eval elt (compEnvC scope cl C env)) Q' E' { s with heap := h, toks := tk })
    (fin : ∀ ys zs nx, IntsAre ys zs → zs.length = n → (∀ z ∈ zs, Pz z) → Inv nx n → Fin ys (nx ++ own)) :
    ∀ (k i : Nat) (ys : List Value) (zs : List Int) (nx : List (Addr × Obj)), i + k = n → IntsAre ys zs → zs.length = i → (∀ z ∈ zs, Pz z) → Inv nx i → LCg.CompRest prog w A h₀ L m env elt x scope cl s (fun _ => True) P Fin k i ys (nx ++ own)
  | 0, i, ys, zs, nx, hk, hy, hl, hz, hI => by
    have e : i = n := by omega
    subst e
    exact LCg.CompRest.zero (fin ys zs nx hy hl hz hI)
  | k + 1, i, ys, zs, nx, hk, hy, hl, hz, hI => by
    refine LCg.CompRest.succ fun v I oI C oC D m₂ h tk E' _ _ _ F N off ne => ?_
    refine helt i nx I oI C oC D _ h tk _ _ (by omega) hI F N off fun z t nx' h' tk' hz' F' N' off' hI' => ?_
    refine LCg.CompEnd.intro F' N' (nx' ++ own) (fun _ h => h) off' trivial (comp_takes Inv Pz helt fin k (i + 1) (ys ++ [.int z t]) (zs ++ [z]) nx' (by omega) (hy.append (.cons _ _ .nil)) (by simp [hl]) ?_ hI')
    intro y hy'
    exact (List.mem_append.mp hy').elim (hz y) fun e => (List.mem_singleton.mp e) ▸ hz'
end
end Mine
end
section
open PySem PySem.W PyProof.Rows
set_option maxRecDepth 100000
set_option maxHeartbeats 8000000
namespace Mine
open PySem.Calls PySem.Spec

abbrev NoE : Value → Shared → Prop := fun _ _ => False
abbrev prog := PySem.Challenge.rw_nt0417_01.row.prog

/-! a call that changes nothing of what stands: the frame's base is the whole heap at the call -/
section
variable {prog : Program} {w : World} {A₀ A : Around} {s : Shared} {base h₀ : Heap} {outer : List Env} {L : Addr} {m mg mb : Str → Option Value} {env : Env} {K : Frag} {p : Program} {loose : List Str} {mean : ExcName → Option Value}
  {Q E : Value → Shared → Prop} {name qual : Str} {params : Arguments} {body : List Stmt} {scope : Scope} {dV kV doc pm cdv ct oc : Value} {an od : Option Addr} {osl : Array (Option Value)} {f : Addr} {vs : List Value} {binds : List (Str × Value)}

theorem below_at (B : Below A₀ base outer h₀) (F : Fr h₀ L s.heap m) (hA : A.frames = some (env :: outer)) (hf : env.frame = some L) (hke : env.scope.kind = .function) : Below A base (env :: outer) s.heap :=
  have B₁ := pushX B F hf hke
  ⟨hA, B₁.stays, B₁.frames⟩

theorem call_pure (B : Below A₀ base outer h₀) (F : Fr h₀ L s.heap m) (X₀ : K.In h₀) (T : Top p loose mean mg mb h₀) (hA : A.frames = some (env :: outer)) (hf : env.frame = some L) (hke : env.scope.kind = .function)
    (ho : K.lookup f = some ⟨oc, od, .func (fnOf name qual params body scope dV kV doc pm an cdv ct), osl⟩) (hcd : codeIn K cdv qual = true) (hroom : A.depth < recursionLimit)
    (hbind : BindsTo s (fnOf name qual params body scope dV kV doc pm an cdv ct) ⟨vs, []⟩ binds) (hloc : ∀ y ∈ binds, scope.names.lookup y.1 = some .local)
    (h : ∀ L' h₁, Fr s.heap L' h₁ (fun y => binds.reverse.lookup y) → News s.heap L' h₁ [] → Below A base (env :: outer) s.heap → K.In s.heap → Top p loose mean mg mb s.heap →
      wpAny (model prog w) (A.deeper (envOf qual scope L' f cdv)) (execs body (envOf qual scope L' f cdv))
        (fun fl s' => Q (match fl with | .ret v => v | _ => .none) s') NoE
        { s with heap := h₁, toks := s.toks + binds.length })
    (hcell : ∀ x ∈ scope.names, x.2 ≠ .cell) (hco : scope.isCoroutine = false := by rfl) (hgen : scope.isGenerator = false := by rfl) (hk : scope.kind = .function := by rfl) :
    wpAny (model prog w) A (call (.ref f) vs) Q E s := by
  have hlim : s.heap.NoLimit := T.nolimit.keeps F.keep
  refine wpAny_call (codeAny_call_def (fd := fnOf name qual params body scope dV kV doc pm an cdv ct) (body := body) (binds := binds) hroom ((X₀.keeps F.keep) _ _ ho) rfl hlim (codeRec_of (X₀.keeps F.keep) hcd) rfl hbind hcell hloc (fun h₁ hns hk₁ => ?_) hco hgen hk)
  exact wpAny_mono (h s.heap.objs.size h₁ ⟨hns, hk₁, Nat.le_refl _⟩ News.nil (below_at B F hA hf hke) (X₀.keeps F.keep) (T.keeps F.keep)) (fun fl s' x => x) fun _ _ y => y.elim

theorem call_pureC (B : Below A₀ base outer h₀) (F : Fr h₀ L s.heap m) (X₀ : K.In h₀) (T : Top p loose mean mg mb h₀) (hA : A.frames = some (env :: outer)) (hf : env.frame = some L) (hke : env.scope.kind = .function)
    (ho : K.lookup f = some ⟨oc, od, .func (fnOf name qual params body scope dV kV doc pm an cdv ct), osl⟩) (hcd : codeIn K cdv qual = true) (hroom : A.depth < recursionLimit)
    (hbind : BindsTo s (fnOf name qual params body scope dV kV doc pm an cdv ct) ⟨vs, []⟩ binds)
    (hkind : (binds.all fun y => scope.names.lookup y.1 == some .local || scope.names.lookup y.1 == some .cell) = true) (hnd : ((cellsFrom 0 scope.names []).map (·.1)).Nodup)
    (h : ∀ L' h₁ tk cells, Fr s.heap L' h₁ (bindL (envOfC qual scope L' f cdv).kindOf binds fun _ => none) → News s.heap L' h₁ cells →
      CellsAre (bindC (envOfC qual scope L' f cdv).kindOf binds fun _ => none) (cellsFrom (L' + 1) scope.names []) cells → Below A base (env :: outer) s.heap → K.In s.heap → Top p loose mean mg mb s.heap →
      wpAny (model prog w) (A.deeper (envOfC qual scope L' f cdv)) (execs body (envOfC qual scope L' f cdv))
        (fun fl s' => Q (match fl with | .ret v => v | _ => .none) s') NoE
        { s with heap := h₁, toks := tk })
    (hco : scope.isCoroutine = false := by rfl) (hgen : scope.isGenerator = false := by rfl) (hk : scope.kind = .function := by rfl) :
    wpAny (model prog w) A (call (.ref f) vs) Q E s := by
  have X := X₀.keeps F.keep
  refine wpAny_call (codeAny_call_function hroom (X _ _ ho) rfl hco hgen rfl (codeRec_of X hcd) (hbind _ _ _ _ ?_))
  refine wpAny_newFunctionEnv_cells hk (kindsX hkind _) fun env' he s' x => ?_
  subst he
  refine ⟨(T.nolimit.keeps F.keep).keeps x.toInCall.keep, codeAny_func ?_⟩
  obtain ⟨h₁, tk, rfl, _⟩ := x.done
  obtain ⟨cells, NC, Y⟩ := Cl.news (h₀ := s.heap) (Nat.le_refl _) fun n c hm => ⟨x.cell n c (lookup_of_mem_nodup (cellsFrom_names scope.names 0 (s.heap.objs.size + 1) [] [] rfl ▸ hnd) hm), x.above n c hm⟩
  exact wpAny_mono (h s.heap.objs.size h₁ tk cells ⟨x.toInCall.ns, x.toInCall.keep, Nat.le_refl _⟩ NC Y (below_at B F hA hf hke) X (T.keeps F.keep)) (fun fl s' x => x) fun _ _ y => y.elim
end
end Mine
end
section
open PySem PySem.W PyProof.Rows
set_option maxRecDepth 100000
set_option maxHeartbeats 8000000
namespace Mine
open PySem.Calls PySem.Spec
section
variable {prog : Program} {w : World} {A : Around} {s : Shared} {env : Env} {h₀ : Heap} {x : Str} {body : List Stmt} {Q : Flow → Shared → Prop} {m : Str → Option Value} {nx : List (Addr × Obj)} {iter : Expr} {px pos : Pos}
theorem inv_end {h' : Heap} {L : Addr} {J : (Str → Option Value) → List (Addr × Obj) → Prop} {own nx' : List (Addr × Obj)} {adr : List Addr} {s₁ : Shared} {tk : Nat} {m' : Str → Option Value}
    (F : Fr h₀ L h' m') (N : News h₀ L h' (nx' ++ own)) (ad : nx'.map (·.1) = adr) (hj : J m' nx') : InvPostN h₀ L J own adr s₁ Q .next { s₁ with heap := h', toks := tk } :=
  InvEndN.intro F N hj ad (fun _ hp => List.mem_append.mpr (.inl hp)) fun _ hp => List.mem_append.mpr (.inr hp)

theorem size_one {n : Nat} : Builtin.Range.rangeSize 0 n 1 = (n : Int) := by rw [rangeSize_one]; split <;> omega

theorem for_range {n : Nat} (J : Nat → (Str → Option Value) → List (Addr × Obj) → Prop) (hh : A.handled = none) (hx : env.kindOf x = some .local)
    (hp : (env.scope.kind == .class || (env.scope.kind == .module && env.locals != env.globals)) = false) (hb : n ≤ 2 ^ 20)
    (hiter : ∀ Q' : Value → Shared → Prop, (∀ r h' tk t u v, Fr h₀ env.locals h' m → News h₀ env.locals h' nx → IsRange h' r 0 n 1 t u v → Q' (.ref r) { s with heap := h', toks := tk }) → wpAny (model prog w) A (eval iter env) Q' NoE s)
    (hj : J 0 m nx)
    (turn : ∀ (i : Nat) t m₁ nx₁ h tk own, i < n → nx₁.map (·.1) = nx.map (·.1) → OwnOff own (nx.map (·.1)) → J i m₁ nx₁ → Fr h₀ env.locals h (fun y => if y = x then some (.int (i : Int) t) else m₁ y) → News h₀ env.locals h (nx₁ ++ own) →
      wpAny (model prog w) A (execs body env) (InvPostN h₀ env.locals (J (i + 1)) own (nx.map (·.1)) { s with heap := h, toks := tk } Q) NoE { s with heap := h, toks := tk })
    (done : ∀ m₁ nx₁ h tk, J n m₁ nx₁ → Fr h₀ env.locals h m₁ → News h₀ env.locals h nx₁ → Q .next { s with heap := h, toks := tk })
    (hs : ∀ x, foldedSetIterable iter env x = pure x) :
    wpAny (model prog w) A (exec (.For (.Name x px) iter body [] pos) env) Q NoE s := by
  refine For_invV h₀ hx hp (hiter _ fun r h' tk t u v F N hr => ?_) hs PassesOwn.never
  refine wpAny_pyIter_range hr (small_one (by omega) (by omega) (by omega) (by omega)) ?_
  have W : Walks prog w A h'.objs.size [h'.objs.size] [h'.objs.size] n (fun i v => i < n ∧ ∃ t, v = .int (0 + i * 1) t)
      (fun i h => IsRangeIter h h'.objs.size (0 + (i : Nat) * 1) ((n : Int) - (i : Nat)) 1) := (Walks.range hh _ 0 1 n).bound
  refine loop_invN J W ?_ ?_ ?_ ?_ (by show IsRangeIter _ _ _ _ _; rw [size_one]; simpa using Heap.get?_push_size _ rfl) (F.push _) (fun p hp => ⟨Heap.get?_push_of_some _ (N p hp).1, (N p hp).2⟩) hj ?_ ?_
  · intro hm
    exact absurd F.ns.lt ((List.mem_singleton.mp hm) ▸ Nat.lt_irrefl _)
  · intro b hb
    rw [List.mem_singleton.mp hb]
    exact next_is_new F
  · intro p hp hI
    exact absurd (Heap.lt_size (N p hp).1) ((List.mem_singleton.mp hI) ▸ Nat.lt_irrefl _)
  · intro p hp hI
    exact absurd (Heap.lt_size (N p hp).1) ((List.mem_singleton.mp hI) ▸ Nat.lt_irrefl _)
  · rintro i v m₁ nx₁ h tk own hi ⟨_, t, rfl⟩ hadr hoff hJ F₁ N₁
    have e1 : (0 : Int) + (i : Int) * 1 = (i : Int) := by omega
    rw [e1] at F₁
    exact turn i t m₁ nx₁ h tk own hi hadr hoff hJ F₁ N₁
  · exact fun m₁ nx₁ h tk hJ F₁ N₁ => done m₁ nx₁ h tk hJ F₁ N₁

/-- over a list of ints that stands in the base -/
theorem for_base {l : Addr} {vs : List Value} {ns : List Int} (J : Nat → (Str → Option Value) → List (Addr × Obj) → Prop) (hh : A.handled = none) (hx : env.kindOf x = some .local)
    (hp : (env.scope.kind == .class || (env.scope.kind == .module && env.locals != env.globals)) = false)
    (hiter : ∀ Q' : Value → Shared → Prop, (∀ tk, Q' (.ref l) { s with toks := tk }) → wpAny (model prog w) A (eval iter env) Q' NoE s)
    (F : Fr h₀ env.locals s.heap m) (N : News h₀ env.locals s.heap nx) (hl : h₀.IsList l vs.toArray) (hi : IntsAre vs ns) (hj : J 0 m nx)
    (turn : ∀ (i : Nat) n t m₁ nx₁ h tk own, ns[i]? = some n → nx₁.map (·.1) = nx.map (·.1) → OwnOff own (nx.map (·.1)) → J i m₁ nx₁ → Fr h₀ env.locals h (fun y => if y = x then some (.int n t) else m₁ y) → News h₀ env.locals h (nx₁ ++ own) →
      wpAny (model prog w) A (execs body env) (InvPostN h₀ env.locals (J (i + 1)) own (nx.map (·.1)) { s with heap := h, toks := tk } Q) NoE { s with heap := h, toks := tk })
    (done : ∀ m₁ nx₁ h tk, J ns.length m₁ nx₁ → Fr h₀ env.locals h m₁ → News h₀ env.locals h nx₁ → Q .next { s with heap := h, toks := tk })
    (hs : ∀ x, foldedSetIterable iter env x = pure x) :
    wpAny (model prog w) A (exec (.For (.Name x px) iter body [] pos) env) Q NoE s := by
  refine For_invV h₀ hx hp (hiter _ fun tk => ?_) hs PassesOwn.never
  exact iter_invN (s := { s with toks := tk }) J hh hl hi F N hj turn done

/-- over a list of ints of the ledger -/
theorem for_led {l : Addr} {vs : List Value} {nn : Nat} {ns : List Int} (J : Nat → (Str → Option Value) → List (Addr × Obj) → Prop) (hh : A.handled = none) (hx : env.kindOf x = some .local)
    (hp : (env.scope.kind == .class || (env.scope.kind == .module && env.locals != env.globals)) = false)
    (hiter : ∀ Q' : Value → Shared → Prop, (∀ tk, Q' (.ref l) { s with toks := tk }) → wpAny (model prog w) A (eval iter env) Q' NoE s)
    (F : Fr h₀ env.locals s.heap m) (N : News h₀ env.locals s.heap nx) (hl : (l, W.listOf vs.toArray nn) ∈ nx) (hi : IntsAre vs ns) (hj : J 0 m nx)
    (turn : ∀ (i : Nat) n t m₁ nx₁ h tk own, ns[i]? = some n → nx₁.map (·.1) = nx.map (·.1) → OwnOff own (nx.map (·.1)) → (l, W.listOf vs.toArray nn) ∈ nx₁ → J i m₁ nx₁ → Fr h₀ env.locals h (fun y => if y = x then some (.int n t) else m₁ y) → News h₀ env.locals h (nx₁ ++ own) →
      wpAny (model prog w) A (execs body env) (InvPostN h₀ env.locals (fun m' nx' => (l, W.listOf vs.toArray nn) ∈ nx' ∧ J (i + 1) m' nx') own (nx.map (·.1)) { s with heap := h, toks := tk } Q) NoE { s with heap := h, toks := tk })
    (done : ∀ m₁ nx₁ h tk, J ns.length m₁ nx₁ → Fr h₀ env.locals h m₁ → News h₀ env.locals h nx₁ → Q .next { s with heap := h, toks := tk })
    (hs : ∀ x, foldedSetIterable iter env x = pure x) :
    wpAny (model prog w) A (exec (.For (.Name x px) iter body [] pos) env) Q NoE s := by
  refine For_invV h₀ hx hp (hiter _ fun tk => ?_) hs PassesOwn.never
  exact iter_invNL (s := { s with toks := tk }) J hh hl hi F N hj turn fun m₁ nx₁ h tk _ hJ F₁ N₁ => done m₁ nx₁ h tk hJ F₁ N₁

/-- over a list of bools that stands in the base -/
theorem for_bools {l : Addr} {bs : List Bool} (J : Nat → (Str → Option Value) → List (Addr × Obj) → Prop) (hh : A.handled = none) (hx : env.kindOf x = some .local)
    (hp : (env.scope.kind == .class || (env.scope.kind == .module && env.locals != env.globals)) = false)
    (hiter : ∀ Q' : Value → Shared → Prop, (∀ tk, Q' (.ref l) { s with toks := tk }) → wpAny (model prog w) A (eval iter env) Q' NoE s)
    (F : Fr h₀ env.locals s.heap m) (N : News h₀ env.locals s.heap nx) (hl : h₀.IsList l (bs.map Value.bool).toArray) (hj : J 0 m nx)
    (turn : ∀ (i : Nat) b m₁ nx₁ h tk own, bs[i]? = some b → nx₁.map (·.1) = nx.map (·.1) → OwnOff own (nx.map (·.1)) → J i m₁ nx₁ → Fr h₀ env.locals h (fun y => if y = x then some (.bool b) else m₁ y) → News h₀ env.locals h (nx₁ ++ own) →
      wpAny (model prog w) A (execs body env) (InvPostN h₀ env.locals (J (i + 1)) own (nx.map (·.1)) { s with heap := h, toks := tk } Q) NoE { s with heap := h, toks := tk })
    (done : ∀ m₁ nx₁ h tk, J bs.length m₁ nx₁ → Fr h₀ env.locals h m₁ → News h₀ env.locals h nx₁ → Q .next { s with heap := h, toks := tk })
    (hs : ∀ x, foldedSetIterable iter env x = pure x) :
    wpAny (model prog w) A (exec (.For (.Name x px) iter body [] pos) env) Q NoE s := by
  refine For_invV h₀ hx hp (hiter _ fun tk => ?_) hs PassesOwn.never
  obtain ⟨ol, hol, r⟩ := id hl
  have hls : s.heap.IsList l (bs.map Value.bool).toArray := ⟨ol, F.keep _ _ hol, r⟩
  have hlt : l < h₀.objs.size := Heap.lt_size hol
  have hne : l ≠ s.heap.objs.size := Nat.ne_of_lt (Nat.lt_trans (Nat.lt_of_lt_of_le hlt F.above) F.ns.lt)
  refine wpAny_pyIter_list (s := { s with toks := tk }) hls ?_
  have W := Walks.list (prog := prog) (w := w) hh s.heap.objs.size l hne (bs.map Value.bool).toArray
  have hlen : (bs.map Value.bool).toArray.size = bs.length := by simp
  rw [hlen] at W
  refine loop_invN J W ?_ ?_ ?_ ?_ ⟨⟨_, Heap.get?_push_size _ rfl, rfl, rfl⟩, ⟨ol, Heap.get?_push_of_some _ (F.keep _ _ hol), r⟩⟩ (F.push _) (fun p hp => ⟨Heap.get?_push_of_some _ (N p hp).1, (N p hp).2⟩) hj ?_ ?_
  · intro hm
    rcases List.mem_cons.mp hm with e | hm
    · exact absurd F.ns.lt (e ▸ Nat.lt_irrefl _)
    · exact absurd (Nat.lt_of_lt_of_le hlt F.above) ((List.mem_singleton.mp hm) ▸ Nat.lt_irrefl _)
  · intro b hb
    rw [List.mem_singleton.mp hb]
    exact next_is_new F
  · intro p hp hI
    exact absurd (Heap.lt_size (N p hp).1) ((List.mem_singleton.mp hI) ▸ Nat.lt_irrefl _)
  · intro p hp hI
    rcases List.mem_cons.mp hI with e | hI
    · exact absurd (Heap.lt_size (N p hp).1) (e ▸ Nat.lt_irrefl _)
    · have h3 := (N p hp).2.2
      rw [List.mem_singleton.mp hI, hol] at h3
      cases h3
  · rintro i v m₁ nx₁ h tk' own hi hP hadr hoff hJ F₁ N₁
    have hv : bs[i]? = some bs[i] := by simp [hi]
    have e : v = .bool bs[i] := by
      have hP' : (bs.map Value.bool)[i]? = some v := by simpa using hP
      rw [List.getElem?_map, hv] at hP'
      exact (Option.some.inj hP').symm
    subst e
    exact turn i bs[i] m₁ nx₁ h tk' own hv hadr hoff hJ F₁ N₁
  · exact fun m₁ nx₁ h tk' hJ F₁ N₁ => done m₁ nx₁ h tk' hJ F₁ N₁

theorem grow_end {h' : Heap} {L : Addr} {J : (Str → Option Value) → List (Addr × Obj) → Prop} {own nx' : List (Addr × Obj)} {s₁ : Shared} {tk : Nat} {m' : Str → Option Value}
    (F : Fr h₀ L h' m') (N : News h₀ L h' (nx' ++ own)) (off : OwnOff own (nx'.map (·.1))) (hj : J m' nx') : InvPostG h₀ L J own s₁ Q .next { s₁ with heap := h', toks := tk } :=
  InvEndG.intro F N hj off (fun _ hp => List.mem_append.mpr (.inl hp)) fun _ hp => List.mem_append.mpr (.inr hp)

/-- over a range, the ledger may grow -/
theorem for_grow {n : Nat} (J : Nat → (Str → Option Value) → List (Addr × Obj) → Prop) (hh : A.handled = none) (hx : env.kindOf x = some .local)
    (hp : (env.scope.kind == .class || (env.scope.kind == .module && env.locals != env.globals)) = false) (hb : n ≤ 2 ^ 20)
    (hiter : ∀ Q' : Value → Shared → Prop, (∀ r h' tk t u v, Fr h₀ env.locals h' m → News h₀ env.locals h' nx → IsRange h' r 0 n 1 t u v → Q' (.ref r) { s with heap := h', toks := tk }) → wpAny (model prog w) A (eval iter env) Q' NoE s)
    (hj : J 0 m nx)
    (turn : ∀ (i : Nat) t m₁ nx₁ h tk own, i < n → OwnOff own (nx₁.map (·.1)) → J i m₁ nx₁ → Fr h₀ env.locals h (fun y => if y = x then some (.int (i : Int) t) else m₁ y) → News h₀ env.locals h (nx₁ ++ own) →
      wpAny (model prog w) A (execs body env) (InvPostG h₀ env.locals (J (i + 1)) own { s with heap := h, toks := tk } Q) NoE { s with heap := h, toks := tk })
    (done : ∀ m₁ nx₁ h tk, J n m₁ nx₁ → Fr h₀ env.locals h m₁ → News h₀ env.locals h nx₁ → Q .next { s with heap := h, toks := tk })
    (hs : ∀ x, foldedSetIterable iter env x = pure x) :
    wpAny (model prog w) A (exec (.For (.Name x px) iter body [] pos) env) Q NoE s := by
  refine For_invV h₀ hx hp (hiter _ fun r h' tk t u v F N hr => ?_) hs PassesOwn.never
  refine wpAny_pyIter_range hr (small_one (by omega) (by omega) (by omega) (by omega)) ?_
  have W : Walks prog w A h'.objs.size [h'.objs.size] [h'.objs.size] n (fun i v => i < n ∧ ∃ t, v = .int (0 + i * 1) t)
      (fun i h => IsRangeIter h h'.objs.size (0 + (i : Nat) * 1) ((n : Int) - (i : Nat)) 1) := (Walks.range hh _ 0 1 n).bound
  refine ⟨_, _, _, n, _, _, m, nx, J, rfl, W, ?_, ?_, ?_, (by show IsRangeIter _ _ _ _ _; rw [size_one]; simpa using Heap.get?_push_size _ rfl), F.push _, (fun p hp => ⟨Heap.get?_push_of_some _ (N p hp).1, (N p hp).2⟩), hj, ?_, ?_⟩
  · intro hm
    exact absurd F.ns.lt ((List.mem_singleton.mp hm) ▸ Nat.lt_irrefl _)
  · intro b hb
    rw [List.mem_singleton.mp hb]
    exact next_is_new F
  · intro p hp hI
    exact absurd (Heap.lt_size (N p hp).1) ((List.mem_singleton.mp hI) ▸ Nat.lt_irrefl _)
  · rintro i v m₁ nx₁ s₁ own ⟨hh', tk', rfl⟩ hin ⟨_, t, rfl⟩ hJ hoff hown _ hall hst F₁ N₁
    have e1 : (0 : Int) + (i : Int) * 1 = (i : Int) := by omega
    rw [e1] at F₁
    have hIown : (h'.objs.size, _) ∈ own := hall _ (List.mem_singleton.mpr rfl) (next_is_new F) _ hst
    have hsep : OwnOff own (nx₁.map (·.1)) := by
      intro p hp b hb e
      obtain ⟨q, hq, rfl⟩ := List.mem_map.mp hb
      exact hoff q hq (e ▸ hown p hp)
    have N₂ : News h₀ env.locals hh' (nx₁ ++ own) := fun p hp => N₁ p ((List.mem_append.mp hp).elim (fun h => List.mem_append.mpr (.inr h)) fun h => List.mem_append.mpr (.inl h))
    refine wpAny_mono (turn i t m₁ nx₁ hh' tk' own hin hsep hJ F₁ N₂) (fun f s₂ p => ?_) fun _ _ e => e
    have fin : ∀ s₂, InvEndG h₀ env.locals (J (i + 1)) own { s with heap := hh', toks := tk' } s₂ → LoopStepU h₀ env.locals [h'.objs.size] own (J (i + 1)) { s with heap := hh', toks := tk' } .next s₂ := by
      rintro s₂ ⟨h2, tk2, m', news', nx2, e, F', N', hn, ho, ha, hm⟩
      refine ⟨rfl, h2, tk2, m', nx2, e, F', fun p hp => N' p ((List.mem_append.mp hp).elim (ho p) (hn p)), fun p hp hq => ?_, hm⟩
      exact ha _ hIown p.1 (List.mem_map.mpr ⟨p, hp, rfl⟩) (List.mem_singleton.mp hq).symm
    cases f with
    | ret v => exact .ret p
    | brk => exact .brk p
    | next => exact .next (fin _ p)
    | cont => exact .cont (fin _ p)
  · exact fun h1 tk1 m' nx' F' N' _ hJ => done m' nx' h1 tk1 hJ F' N'

theorem while_inv {test : Expr} {L : Addr} (J : Nat → (Str → Option Value) → List (Addr × Obj) → Prop) {n₀ : Nat} (F : Fr h₀ L s.heap m) (N : News h₀ L s.heap nx) (hj : J n₀ m nx)
    (turn : ∀ n m₁ nx₁ h tk, Fr h₀ L h m₁ → News h₀ L h nx₁ → J n m₁ nx₁ →
      wpAny (model prog w) A (isTrue test env (eval test env)) (fun b s₂ => if b = true then wpAny (model prog w) A (execs body env) (WhileStep2 h₀ L s J Q n) NoE s₂ else Q .next s₂) NoE { s with heap := h, toks := tk }) :
    wpAny (model prog w) A (exec (.While test body [] pos) env) Q NoE s := While_inv2 J F N hj turn PassesOwn.never
theorem while_end {L : Addr} {J : Nat → (Str → Option Value) → List (Addr × Obj) → Prop} {n n' : Nat} {h' : Heap} {tk : Nat} {m' : Str → Option Value} {nx' : List (Addr × Obj)}
    (F : Fr h₀ L h' m') (N : News h₀ L h' nx') (hn : n' < n) (hj : J n' m' nx') : WhileStep2 h₀ L s J Q n .next { s with heap := h', toks := tk } := ⟨h', tk, m', nx', n', rfl, F, N, hn, hj⟩
end
end Mine
end
section
namespace Mine
open PySem PyProof.Rows

/-- solve's state: values, left, before, queue -/
structure St where
  vals : List Int
  left : List Int
  bv : List (List Int)
  qu : List Int

def inRow (i : Int) (bv : List (List Int)) (m : Int) : List (List Int) := if m = -1 then bv else bv.set m.toNat (bv.getD m.toNat [] ++ [i])
def turn1 (after : List (List Int)) (lost : List Bool) (σ : St) (i : Nat) : St where
  vals := if gb lost i then σ.vals.set i 0 else σ.vals
  left := σ.left ++ [((after.getD i []).length : Int)]
  bv := (after.getD i []).foldl (inRow i) σ.bv
  qu := if gb lost i then σ.qu ++ [(i : Int)] else σ.qu
def init (n : Nat) : St := ⟨List.replicate n (-1), [], List.replicate n [], []⟩
def start (after : List (List Int)) (lost : List Bool) (n : Nat) : St := (List.range n).foldl (turn1 after lost) (init after.length)
def inQ (sides : List Int) (m : Int) (σ : St) (n : Int) : St :=
  if gi σ.vals n = -1 ∧ (gi sides n = 0 ∨ gi (σ.left.set n.toNat (gi σ.left n - 1)) n = 0) then
    ⟨σ.vals.set n.toNat (gi σ.vals m + 1), σ.left.set n.toNat (gi σ.left n - 1), σ.bv, σ.qu ++ [n]⟩
  else ⟨σ.vals, σ.left.set n.toNat (gi σ.left n - 1), σ.bv, σ.qu⟩
def stepQ (sides : List Int) (σ : St) (k : Nat) : St := (gl σ.bv (gi σ.qu k)).foldl (inQ sides (gi σ.qu k)) σ

theorem start_succ (after : List (List Int)) (lost : List Bool) (n : Nat) : start after lost (n + 1) = turn1 after lost (start after lost n) n := by simp [start, List.range_succ]
theorem inRow_length (i : Int) (bv : List (List Int)) (m : Int) : (inRow i bv m).length = bv.length := by unfold inRow; split <;> simp
theorem rows_length (i : Int) : ∀ (r : List Int) (bv : List (List Int)), (r.foldl (inRow i) bv).length = bv.length
  | [], _ => rfl
  | m :: r, bv => by rw [List.foldl_cons, rows_length i r, inRow_length]
theorem inRow_row (i : Int) (bv : List (List Int)) (m : Int) (j : Nat) : ((inRow i bv m).getD j []).length ≤ (bv.getD j []).length + 1 := by
  unfold inRow
  split
  · omega
  · rw [List.getD_eq_getElem?_getD, List.getElem?_set]
    split
    · rename_i e
      subst e
      split
      · simp
      · rename_i h1
        have e1 : bv[m.toNat]? = none := List.getElem?_eq_none (Nat.le_of_not_lt h1)
        simp
    · rw [← List.getD_eq_getElem?_getD]; omega
theorem rows_row (i : Int) (j : Nat) : ∀ (r : List Int) (bv : List (List Int)), ((r.foldl (inRow i) bv).getD j []).length ≤ (bv.getD j []).length + r.length
  | [], _ => by simp
  | m :: r, bv => by
    rw [List.foldl_cons]
    have h1 := rows_row i j r (inRow i bv m)
    have h2 := inRow_row i bv m j
    simp only [List.length_cons]
    omega
theorem inQ_sizes (sides : List Int) (m : Int) (σ : St) (n : Int) : (inQ sides m σ n).vals.length = σ.vals.length ∧ (inQ sides m σ n).left.length = σ.left.length ∧ (inQ sides m σ n).bv = σ.bv ∧ (inQ sides m σ n).qu.length ≤ σ.qu.length + 1 := by
  unfold inQ
  split <;> simp
theorem foldQ_sizes (sides : List Int) (m : Int) : ∀ (r : List Int) (σ : St), (r.foldl (inQ sides m) σ).vals.length = σ.vals.length ∧ (r.foldl (inQ sides m) σ).left.length = σ.left.length ∧ (r.foldl (inQ sides m) σ).bv = σ.bv ∧ (r.foldl (inQ sides m) σ).qu.length ≤ σ.qu.length + r.length
  | [], σ => by simp
  | n :: r, σ => by
    have h1 := foldQ_sizes sides m r (inQ sides m σ n)
    have h2 := inQ_sizes sides m σ n
    rw [List.foldl_cons, List.length_cons]
    exact ⟨h1.1.trans h2.1, h1.2.1.trans h2.2.1, h1.2.2.1.trans h2.2.2.1, by omega⟩
structure Start1 (after : List (List Int)) (lost : List Bool) (n : Nat) (σ : St) : Prop where
  vals : σ.vals.length = after.length
  left : σ.left.length = n
  bv : σ.bv.length = after.length
  qu : σ.qu.length ≤ n
  row : ∀ j, (σ.bv.getD j []).length ≤ 4 * n
theorem start_sizes {after : List (List Int)} {lost : List Bool} (hr : ∀ j, (after.getD j []).length ≤ 3) : ∀ n, Start1 after lost n (start after lost n)
  | 0 => by
    refine ⟨by simp [start, init], rfl, by simp [start, init], by simp [start, init], fun j => ?_⟩
    simp only [start, init, List.range_zero, List.foldl_nil, List.getD_eq_getElem?_getD, List.getElem?_replicate]
    split <;> simp
  | n + 1 => by
    have h := start_sizes (lost := lost) hr n
    rw [start_succ]
    refine ⟨?_, ?_, ?_, ?_, fun j => ?_⟩
    · simp only [turn1]; split <;> simp [h.vals]
    · simp [turn1, h.left]
    · simp [turn1, rows_length, h.bv]
    · have := h.qu
      simp only [turn1]; split <;> simp <;> omega
    · have h1 := rows_row (n : Int) j (after.getD n []) (start after lost n).bv
      have h2 := h.row j
      have h3 := hr n
      simp only [turn1]
      omega

/-! the plain rounds -/
abbrev rpz (told : List Int) (n : Int) : Bool := decide (0 ≤ n) && decide (0 ≤ gi told n)
abbrev readyR (sides : List Int) (row told : List Int) (n : Int) : Prop := row.filter (rpz told) ≠ [] ∧ (gi sides n = 0 ∨ (row.filter (rpz told)).length = row.length)
def rnd (sides : List Int) (after : List (List Int)) (told : List Int) (k : Int) (σ : List Int × Bool) (n : Nat) : List Int × Bool :=
  if gi told n = -1 ∧ readyR sides (after.getD n []) told n then (σ.1.set n k, true) else σ
def roundN (sides : List Int) (after : List (List Int)) (told : List Int) (k : Int) (n : Nat) : List Int × Bool := (List.range n).foldl (rnd sides after told k) (told, false)
theorem roundN_succ (sides : List Int) (after : List (List Int)) (told : List Int) (k : Int) (n : Nat) : roundN sides after told k (n + 1) = rnd sides after told k (roundN sides after told k n) n := by
  simp [roundN, List.range_succ]
theorem roundN_length (sides : List Int) (after : List (List Int)) (told : List Int) (k : Int) : ∀ n, (roundN sides after told k n).1.length = told.length
  | 0 => rfl
  | n + 1 => by
    rw [roundN_succ]
    have h := roundN_length sides after told k n
    unfold rnd
    split
    · rw [List.length_set, h]
    · exact h
end Mine
end
section
open PySem PySem.W PyProof.Rows
set_option maxRecDepth 100000
set_option maxHeartbeats 8000000
namespace Mine
open PySem.Calls PySem.Spec
local macro_rules | `(tactic| ktr_rel) => `(tactic| first
  | exact IL.keeps (by with_reducible assumption) (Fr.keep (by k_asm))
  | exact RL.keeps (by with_reducible assumption) (Fr.keep (by k_asm))
  | exact BL.keeps (by with_reducible assumption) (Fr.keep (by k_asm))
  | exact IL.keeps (RowsAre.at (by with_reducible assumption) (by with_reducible assumption)) (Fr.keep (by k_asm))
  | exact ILn.at (by k_asm) (SH.v (by with_reducible assumption))
  | exact ILn.at (by k_asm) (SH.l (by with_reducible assumption))
  | exact ILn.at (by k_asm) (SH.q (by with_reducible assumption))
  | exact RLn.at (by k_asm) (SH.b (by with_reducible assumption)))
local macro_rules | `(tactic| walk_at "call builtin:len") => `(tactic| (k_here; (with_reducible show wpAny _ _ (call (Value.builtin "len") [Value.ref _]) _ _ _); k_dflt (first
  | (refine' len_r ?l ?c ?_; (case l => ktr_rel); (case c => omega); k_whole; intro _ _)
  | (refine' len_i ?l ?c ?_; (case l => ktr_rel); (case c => omega); k_whole; intro _ _))))
local macro_rules | `(tactic| walk_at "subscriptTail") => `(tactic| (k_here; (with_reducible show wpAny _ _ (subscriptTail _ _ (Value.ref _) (Value.int _ _)) _ _ _); k_dflt (first
  | (refine' item_i ?l ?a ?b ?c ?_ ?z; (case l => ktr_rel); (case a => omega); (case b => omega); (case c => omega); (case z => with_unfolding_all rfl); k_whole; intro _)
  | (refine' item_b ?l ?a ?b ?c ?_ ?z; (case l => ktr_rel); (case a => omega); (case b => omega); (case c => omega); (case z => with_unfolding_all rfl); k_whole)
  | (refine' item_r ?l ?a ?b ?c ?_ ?z; (case l => ktr_rel); (case a => omega); (case b => omega); (case c => omega); (case z => with_unfolding_all rfl); k_whole; intro _ _))))
local macro_rules | `(tactic| walk_at "getItem ref int") => `(tactic| (k_here; (with_reducible show wpAny _ _ (getItem (Value.ref _) (Value.int _ _)) _ _ _); k_dflt (
  (refine' get_i ?l ?a ?b ?c ?_; (case l => ktr_rel); (case a => omega); (case b => omega); (case c => omega); k_whole; intro _))))
local macro_rules | `(tactic| walk_at "eval Name") => `(tactic| (k_here; k_dflt (refine' nameX_L ?F ?v ?_ ?a ?b; (case F => k_asm); (case a => rfl); (case b => rfl); (case v => assumption); k_whole)))
local macro_rules | `(tactic| walk_at "loadName") => `(tactic| (k_here; k_dflt (refine' load_L ?F ?v ?_ ?a ?b; (case F => k_asm); (case a => rfl); (case b => rfl); (case v => assumption); k_whole)))
local macro_rules | `(tactic| walk_at "setItem ref int") => `(tactic| (k_here; (with_reducible show wpAny _ _ (setItem (Value.ref _) (Value.int _ _) (Value.int _ _)) _ _ _); k_dflt (first
  | (refine' SH.setV ?S ?F ?N ?o ?a ?b ?c ?_; (case F => k_asm); (case N => k_asm); (case S => with_reducible assumption); (case o => with_reducible assumption); (case a => omega); (case b => omega); (case c => omega); k_whole; intro _ _ _ _ _ _)
  | (refine' SH.setL ?S ?F ?N ?o ?a ?b ?c ?_; (case F => k_asm); (case N => k_asm); (case S => with_reducible assumption); (case o => with_reducible assumption); (case a => omega); (case b => omega); (case c => omega); k_whole; intro _ _ _ _ _ _))))
local macro_rules | `(tactic| walk_at "getMethod ref") => `(tactic| (k_here; k_dflt (first
  | (refine' ILn.meth ?N ?x ?_; (case N => k_asm); (case x => exact SH.q (by with_reducible assumption)); k_whole)
  | (refine' ILn.meth ?N ?x ?_; (case N => k_asm); (case x => exact SH.l (by with_reducible assumption)); k_whole)
  | (refine' ILn.meth ?N ?x ?_; (case N => k_asm); (case x => exact SH.r (by with_reducible assumption) _ _ (by with_reducible assumption)); k_whole))))
local macro_rules | `(tactic| walk_at "call builtin:list.append") => `(tactic| (k_here; (with_reducible show wpAny _ _ (call (Value.builtin _) [Value.ref _, Value.int _ _]) _ _ _); k_dflt (first
  | (refine' SH.appQ ?S ?F ?N ?o ?c ?_; (case F => k_asm); (case N => k_asm); (case S => with_reducible assumption); (case o => with_reducible assumption); (case c => omega); k_whole; intro _ _ _ _ _ _)
  | (refine' SH.appL ?S ?F ?N ?o ?c ?_; (case F => k_asm); (case N => k_asm); (case S => with_reducible assumption); (case o => with_reducible assumption); (case c => omega); k_whole; intro _ _ _ _ _ _)
  | (refine' SH.appB ?S ?F ?N ?o ?b ?c ?_; (case F => k_asm); (case N => k_asm); (case S => with_reducible assumption); (case o => with_reducible assumption); (case b => with_reducible assumption); (case c => omega); k_whole; intro _ _ _ _ _ _))))
abbrev sEnv (L : Addr) : Env := envOf "solve" (scopeOf (stm 4)) L 19 (.ref 18)
structure ML (m : Str → Option Value) (aS aA aL V Lf Bf Qq : Addr) : Prop where
  sides : m "sides" = some (.ref aS)
  after : m "after" = some (.ref aA)
  lost : m "lost" = some (.ref aL)
  values : m "values" = some (.ref V)
  left : m "left" = some (.ref Lf)
  before : m "before" = some (.ref Bf)
  queue : m "queue" = some (.ref Qq)
theorem ML.set {m : Str → Option Value} {aS aA aL V Lf Bf Qq : Addr} (M : ML m aS aA aL V Lf Bf Qq) {x : Str} {v : Option Value} (hx : (["sides", "after", "lost", "values", "left", "before", "queue"] : List Str).all (fun y => decide (y ≠ x)) = true) :
    ML (fun y => if y = x then v else m y) aS aA aL V Lf Bf Qq := by
  simp only [List.all_cons, List.all_nil, Bool.and_eq_true, decide_eq_true_eq, Bool.and_true] at hx
  obtain ⟨h1, h2, h3, h4, h5, h6, h7⟩ := hx
  exact ⟨by simpa [h1] using M.sides, by simpa [h2] using M.after, by simpa [h3] using M.lost, by simpa [h4] using M.values, by simpa [h5] using M.left, by simpa [h6] using M.before, by simpa [h7] using M.queue⟩

section
variable {w : World} {p : Program} {loose : List Str} {mean : ExcName → Option Value} {mg mb : Str → Option Value} 
    {env : Env} {base h₀ : Heap} {L : Addr} {m : Str → Option Value} {s : Shared}
    {nx own : List (Addr × Obj)} {adr : List Addr} {V Lf Bf Qq : Addr} {bs : List Addr} {vals left : List Int} {bv : List (List Int)} {qu : List Int}
    {aS aA aL : Addr} {sides : List Int} {rows : List Addr} {after : List (List Int)} {lost : List Bool} {Q : Flow → Shared → Prop}

theorem f1a (B : Below (callerA.deeper env) base [env] h₀) (F : Fr h₀ L s.heap m) (X : (hd.heap_39 w.params).In h₀) (T : Top p loose mean mg mb h₀) 
    (N : News h₀ L s.heap (nx ++ own)) (S : SH nx adr V Lf Bf Qq bs vals left bv qu) (off : OwnOff own adr) (M : ML m aS aA aL V Lf Bf Qq)
    (hA : RL h₀ aA rows) (hR : RowsAre h₀ rows after) (hlen : rows.length ≤ 10) (hl : left.length ≤ 10) {i : Int} {t : Tok} (i0 : 0 ≤ i) (i1 : i < rows.length) (hrow : (after.getD i.toNat []).length ≤ 3)
    (mn : m "n" = some (.int i t))
    (ret : ∀ nx' h' tk', Fr h₀ L h' m → News h₀ L h' (nx' ++ own) → SH nx' adr V Lf Bf Qq bs vals (left ++ [((after.getD i.toNat []).length : Int)]) bv qu → Q .next { s with heap := h', toks := tk' }) :
    wpAny (model prog w) ((callerA.deeper env).deeper (sEnv L)) (exec (sub3 4 4 0) (sEnv L)) Q NoE s := by
  obtain ⟨ms, ma, ml, mv, mle, mb', mq⟩ := M
  simp only [sEnv, scopeOf, sub3, sub2, stm, nthS, bodyOf, PySem.Challenge.pw_nt0417_01]
  k_steps
  exact ret _ _ _ (by k_asm) (by k_asm) (by assumption)

theorem f2body (B : Below (callerA.deeper env) base [env] h₀) (F : Fr h₀ L s.heap m) (X : (hd.heap_39 w.params).In h₀) (T : Top p loose mean mg mb h₀) 
    (N : News h₀ L s.heap (nx ++ own)) (S : SH nx adr V Lf Bf Qq bs vals left bv qu) (off : OwnOff own adr) (M : ML m aS aA aL V Lf Bf Qq)
    (hlen : bs.length ≤ 10) {i j : Int} {t u : Tok} (j1 : j < bs.length) (j0 : -1 ≤ j) (hrow : (bv.getD j.toNat []).length ≤ 1000)
    (mn : m "n" = some (.int i t)) (mm : m "m" = some (.int j u))
    (ret : ∀ nx' h' tk', Fr h₀ L h' m → News h₀ L h' (nx' ++ own) → SH nx' adr V Lf Bf Qq bs vals left (inRow i bv j) qu → Q .next { s with heap := h', toks := tk' }) :
    wpAny (model prog w) ((callerA.deeper env).deeper (sEnv L)) (execs (bodyOf (sub3 4 4 1)) (sEnv L)) Q NoE s := by
  obtain ⟨ms, ma, ml, mv, mle, mb', mq⟩ := M
  simp only [sEnv, scopeOf, sub3, sub2, stm, nthS, bodyOf, PySem.Challenge.pw_nt0417_01]
  k_steps
  · rename_i hj b hb h' nx' F' N' S' _
    have e : inRow i bv j = bv.set j.toNat (bv.getD j.toNat [] ++ [i]) := by unfold inRow; rw [if_neg hj]
    exact ret _ _ _ F' N' (e ▸ S')
  · rename_i hj
    have e : inRow i bv j = bv := by unfold inRow; rw [if_pos hj]
    exact ret nx s.heap s.toks F N (e.symm ▸ S)

theorem f1c (B : Below (callerA.deeper env) base [env] h₀) (F : Fr h₀ L s.heap m) (X : (hd.heap_39 w.params).In h₀) (T : Top p loose mean mg mb h₀) 
    (N : News h₀ L s.heap (nx ++ own)) (S : SH nx adr V Lf Bf Qq bs vals left bv qu) (off : OwnOff own adr) (M : ML m aS aA aL V Lf Bf Qq)
    (hL : BL h₀ aL lost) (hlen : lost.length ≤ 10) (hll : vals.length = lost.length) (hq : qu.length ≤ 10) {i : Int} {t : Tok} (i0 : 0 ≤ i) (i1 : i < lost.length)
    (mn : m "n" = some (.int i t))
    (ret : ∀ nx' h' tk', Fr h₀ L h' m → News h₀ L h' (nx' ++ own) → SH nx' adr V Lf Bf Qq bs (if gb lost i then vals.set i.toNat 0 else vals) left bv (if gb lost i then qu ++ [i] else qu) → Q .next { s with heap := h', toks := tk' }) :
    wpAny (model prog w) ((callerA.deeper env).deeper (sEnv L)) (exec (sub3 4 4 2) (sEnv L)) Q NoE s := by
  obtain ⟨ms, ma, ml, mv, mle, mb', mq⟩ := M
  simp only [sEnv, scopeOf, sub3, sub2, stm, nthS, bodyOf, PySem.Challenge.pw_nt0417_01]
  k_steps
  · rename_i e h1 nx1 F1 N1 S1 _ h' nx' F' N' S' _
    exact ret _ _ _ F' N' (by simpa only [e, if_true] using S')
  · rename_i e
    exact ret nx s.heap s.toks F N (by simpa only [e, if_false, Bool.false_eq_true] using S)

theorem off_app {own own2 : List (Addr × Obj)} (o1 : OwnOff own adr) (ad : nx.map (·.1) = adr) (o2 : OwnOff own2 ((nx ++ own).map (·.1))) : OwnOff (own ++ own2) adr := by
  intro q hq b hb
  rcases List.mem_append.mp hq with hq | hq
  · exact o1 q hq b hb
  · refine o2 q hq b ?_
    rw [List.map_append, ad]
    exact List.mem_append.mpr (.inl hb)

theorem f1b (B : Below (callerA.deeper env) base [env] h₀) (F : Fr h₀ L s.heap m) (X : (hd.heap_39 w.params).In h₀) (T : Top p loose mean mg mb h₀) 
    (N : News h₀ L s.heap (nx ++ own)) (S : SH nx adr V Lf Bf Qq bs vals left bv qu) (off : OwnOff own adr) (M : ML m aS aA aL V Lf Bf Qq)
    (hA : RL h₀ aA rows) (hR : RowsAre h₀ rows after) (hlen : rows.length ≤ 10) (hbs : bs.length ≤ 10) {i : Int} {t : Tok} (i0 : 0 ≤ i) (i1 : i < rows.length) (hrow : (after.getD i.toNat []).length ≤ 3)
    (hin : ∀ x ∈ after.getD i.toNat [], -1 ≤ x ∧ x < bs.length) (hbv : ∀ j, (bv.getD j []).length ≤ 900)
    (mn : m "n" = some (.int i t))
    (ret : ∀ nx' m' h' tk', Fr h₀ L h' m' → ML m' aS aA aL V Lf Bf Qq → m' "n" = some (.int i t) → News h₀ L h' (nx' ++ own) → SH nx' adr V Lf Bf Qq bs vals left ((after.getD i.toNat []).foldl (inRow i) bv) qu → Q .next { s with heap := h', toks := tk' }) :
    wpAny (model prog w) ((callerA.deeper env).deeper (sEnv L)) (exec (sub3 4 4 1) (sEnv L)) Q NoE s := by
  have hj : i.toNat < rows.length := by omega
  have er : rows[i.toNat]? = some rows[i.toNat] := by simp [hj]
  obtain ⟨vs, hl, hi⟩ := hR _ _ er
  refine for_base (x := "m") (iter := iterOf (sub3 4 4 1)) (body := bodyOf (sub3 4 4 1)) (nx := nx ++ own) (m := m)
    (fun k m' nx2 => ∃ nx', nx2 = nx' ++ own ∧ ML m' aS aA aL V Lf Bf Qq ∧ m' "n" = some (.int i t) ∧ SH nx' adr V Lf Bf Qq bs vals left (((after.getD i.toNat []).take k).foldl (inRow i) bv) qu)
    rfl rfl rfl ?_ F N hl hi ⟨nx, rfl, M, mn, S⟩ ?_ ?_ (fun _ => rfl)
  · intro Q' hQ'
    obtain ⟨ms, ma, ml, mv, mle, mb', mq⟩ := M
    simp only [sEnv, scopeOf, sub3, sub2, stm, nthS, bodyOf, iterOf, PySem.Challenge.pw_nt0417_01]
    k_steps
    rename_i b hb
    rw [er] at hb
    cases hb
    exact hQ' _
  · rintro k n u m₁ _ h tk own2 hk _ hoff ⟨nx', rfl, M', mn', S'⟩ F₁ N₁
    have hmem := List.mem_of_getElem? hk
    have h900 := rows_row i n.toNat ((after.getD i.toNat []).take k) bv
    have h1 := hbv n.toNat
    have h2 : ((after.getD i.toNat []).take k).length ≤ 3 := by rw [List.length_take]; omega
    refine f2body (nx := nx') (own := own ++ own2) (i := i) (j := n) B F₁ X T (by rw [← List.append_assoc]; exact N₁) S' (off_app off S.ad hoff) (M'.set (by decide)) hbs (hin n hmem).2 (hin n hmem).1 (by omega) (upd_ne mn' (by decide)) upd_eq ?_
    intro nx'' h' tk' F' N' S''
    refine inv_end F' (by rw [List.append_assoc]; exact N') ?_ ⟨nx'', rfl, M'.set (by decide), upd_ne mn' (by decide), ?_⟩
    · rw [List.map_append, List.map_append, S''.ad, S.ad]
    · rw [foldl_take_succ _ _ hk]; exact S''
  · rintro m₁ _ h tk ⟨nx', rfl, M', mn', S'⟩ F₁ N₁
    rw [List.take_length] at S'
    exact ret nx' m₁ h tk F₁ M' mn' N₁ S'

theorem loop1 (B : Below (callerA.deeper env) base [env] h₀) (F : Fr h₀ L s.heap m) (X : (hd.heap_39 w.params).In h₀) (T : Top p loose mean mg mb h₀) 
    (N : News h₀ L s.heap nx) (M : ML m aS aA aL V Lf Bf Qq)
    (hA : RL h₀ aA rows) (hR : RowsAre h₀ rows after) (hL : BL h₀ aL lost) (hlen : after.length ≤ 10) (hrl : rows.length = after.length) (hll : lost.length = after.length) (hbs : bs.length = after.length)
    (hrow : ∀ j, (after.getD j []).length ≤ 3) (hin : ∀ j, ∀ x ∈ after.getD j [], -1 ≤ x ∧ x < after.length)
    (S : SH nx adr V Lf Bf Qq bs (init after.length).vals (init after.length).left (init after.length).bv (init after.length).qu)
    (ret : ∀ nx' m' h' tk', Fr h₀ L h' m' → ML m' aS aA aL V Lf Bf Qq → News h₀ L h' nx' → 
      SH nx' adr V Lf Bf Qq bs (start after lost after.length).vals (start after lost after.length).left (start after lost after.length).bv (start after lost after.length).qu → Q .next { s with heap := h', toks := tk' }) :
    wpAny (model prog w) ((callerA.deeper env).deeper (sEnv L)) (exec (sub2 4 4) (sEnv L)) Q NoE s := by
  refine for_range (h₀ := h₀) (x := "n") (iter := iterOf (sub2 4 4)) (body := bodyOf (sub2 4 4)) (nx := nx) (m := m) (n := after.length)
    (fun k m' nx' => ML m' aS aA aL V Lf Bf Qq ∧ SH nx' adr V Lf Bf Qq bs (start after lost k).vals (start after lost k).left (start after lost k).bv (start after lost k).qu)
    rfl rfl rfl (by omega) ?_ ⟨M, S⟩ ?_ ?_ (fun _ => rfl)
  · intro Q' hQ'
    obtain ⟨ms, ma, ml, mv, mle, mb', mq⟩ := M
    simp only [sEnv, scopeOf, sub3, sub2, stm, nthS, bodyOf, iterOf, PySem.Challenge.pw_nt0417_01]
    k_steps
    rename_i R' F' N' _
    rw [hrl] at R'
    exact hQ' _ _ _ _ _ _ F' N' R'
  · rintro k u m₁ nx₁ h tk own hk _ hoff ⟨M', S'⟩ F₁ N₁
    have z := start_sizes (lost := lost) hrow k
    have off : OwnOff own adr := by rw [← S.ad]; exact hoff
    show wpAny _ _ (execs [sub3 4 4 0, sub3 4 4 1, sub3 4 4 2] _) _ _ _
    have hz := z.left; have hz2 := z.vals; have hz3 := z.qu
    refine wpAny_execs_cons (f1a B F₁ X T N₁ S' off (M'.set (by decide)) hA hR (by omega) (by omega) (i := (k : Int)) (by omega) (by omega) (hrow _) upd_eq fun nx2 h2 tk2 F2 N2 S2 => ?_)
    refine wpAny_execs_cons (f1b B F2 X T N2 S2 off (M'.set (by decide)) hA hR (by omega) (by omega) (i := (k : Int)) (by omega) (by omega) (hrow _) (by rw [hbs]; exact hin _) (fun j => by have := z.row j; omega) upd_eq fun nx3 m3 h3 tk3 F3 M3 mn3 N3 S3 => ?_)
    refine execs_one (f1c B F3 X T N3 S3 off M3 hL (by omega) (by omega) (by omega) (i := (k : Int)) (by omega) (by omega) mn3 fun nx4 h4 tk4 F4 N4 S4 => ?_)
    refine inv_end F4 N4 (S4.ad.trans S.ad.symm) ⟨M3, ?_⟩
    rw [start_succ]
    simpa only [turn1, Int.toNat_natCast] using S4
  · rintro m₁ nx₁ h tk ⟨M', S'⟩ F₁ N₁
    exact ret nx₁ m₁ h tk F₁ M' N₁ S'

theorem w1 (B : Below (callerA.deeper env) base [env] h₀) (F : Fr h₀ L s.heap m) (X : (hd.heap_39 w.params).In h₀) (T : Top p loose mean mg mb h₀) 
    (N : News h₀ L s.heap (nx ++ own)) (S : SH nx adr V Lf Bf Qq bs vals left bv qu) (M : ML m aS aA aL V Lf Bf Qq)
    (hq : qu.length ≤ 10) {k : Int} {t : Tok} (k0 : 0 ≤ k) (k1 : k < qu.length) (ma : m "at" = some (.int k t))
    (ret : ∀ m' h' tk' t u, Fr h₀ L h' m' → ML m' aS aA aL V Lf Bf Qq → m' "m" = some (.int (gi qu k) u) → m' "at" = some (.int (k + 1) t) → News h₀ L h' (nx ++ own) → Q .next { s with heap := h', toks := tk' }) :
    wpAny (model prog w) ((callerA.deeper env).deeper (sEnv L)) (execs [sub3 4 6 0, sub3 4 6 1] (sEnv L)) Q NoE s := by
  have M₀ := M
  obtain ⟨ms, maf, ml, mv, mle, mb', mq⟩ := M
  simp only [sEnv, scopeOf, sub3, sub2, stm, nthS, bodyOf, PySem.Challenge.pw_nt0417_01]
  k_steps
  exact ret _ _ _ _ _ (by k_asm) ((M₀.set (by decide)).set (by decide)) (by rw [if_neg (by decide), if_pos rfl]) (by rw [if_pos rfl]) (by k_asm)
theorem w2body (B : Below (callerA.deeper env) base [env] h₀) (F : Fr h₀ L s.heap m) (X : (hd.heap_39 w.params).In h₀) (T : Top p loose mean mg mb h₀) 
    (N : News h₀ L s.heap (nx ++ own)) (S : SH nx adr V Lf Bf Qq bs vals left bv qu) (off : OwnOff own adr) (M : ML m aS aA aL V Lf Bf Qq)
    (hS : IL h₀ aS sides) (hlen : vals.length ≤ 10) (hl : left.length = vals.length) (hs : sides.length = vals.length) (hq : qu.length ≤ 2000) {j n : Int} {t u : Tok} (j0 : 0 ≤ j) (j1 : j < vals.length) (n0 : 0 ≤ n) (n1 : n < vals.length)
    (mn : m "n" = some (.int n t)) (mm : m "m" = some (.int j u))
    (ret : ∀ nx' h' tk', Fr h₀ L h' m → News h₀ L h' (nx' ++ own) → (∀ q ∈ nx, q.1 ≠ V → q.1 ≠ Lf → q.1 ≠ Qq → q ∈ nx') →
      SH nx' adr V Lf Bf Qq bs (inQ sides j ⟨vals, left, bv, qu⟩ n).vals (inQ sides j ⟨vals, left, bv, qu⟩ n).left bv (inQ sides j ⟨vals, left, bv, qu⟩ n).qu → Q .next { s with heap := h', toks := tk' }) :
    wpAny (model prog w) ((callerA.deeper env).deeper (sEnv L)) (execs (bodyOf (sub3 4 6 2)) (sEnv L)) Q NoE s := by
  obtain ⟨ms, ma, ml, mv, mle, mb', mq⟩ := M
  have hset : (left.set n.toNat (gi left n - 1)).length = left.length := List.length_set ..
  simp only [sEnv, scopeOf, sub3, sub2, stm, nthS, bodyOf, PySem.Challenge.pw_nt0417_01]
  k_steps
  · have e : inQ sides j ⟨vals, left, bv, qu⟩ n = ⟨vals.set n.toNat (gi vals j + 1), left.set n.toNat (gi left n - 1), bv, qu ++ [n]⟩ := if_pos ⟨by assumption, .inl (by assumption)⟩
    refine ret _ _ _ (by assumption) (by assumption) (fun q hq h1 h2 h3 => ?_) (by rw [e]; assumption)
    exact (by assumption : Kept _ _ Qq) q ((by assumption : Kept _ _ V) q ((by assumption : Kept _ _ Lf) q hq h2) h1) h3
  · have e : inQ sides j ⟨vals, left, bv, qu⟩ n = ⟨vals.set n.toNat (gi vals j + 1), left.set n.toNat (gi left n - 1), bv, qu ++ [n]⟩ := if_pos ⟨by assumption, .inr (by assumption)⟩
    refine ret _ _ _ (by assumption) (by assumption) (fun q hq h1 h2 h3 => ?_) (by rw [e]; assumption)
    exact (by assumption : Kept _ _ Qq) q ((by assumption : Kept _ _ V) q ((by assumption : Kept _ _ Lf) q hq h2) h1) h3
  · have e : inQ sides j ⟨vals, left, bv, qu⟩ n = ⟨vals, left.set n.toNat (gi left n - 1), bv, qu⟩ := if_neg fun h => h.2.elim (by assumption) (by assumption)
    refine ret _ _ _ (by assumption) (by assumption) (fun q hq h1 h2 h3 => ?_) (by rw [e]; assumption)
    exact (by assumption : Kept _ _ Lf) q hq h2
  · have e : inQ sides j ⟨vals, left, bv, qu⟩ n = ⟨vals, left.set n.toNat (gi left n - 1), bv, qu⟩ := if_neg fun h => absurd h.1 (by assumption)
    refine ret _ _ _ (by assumption) (by assumption) (fun q hq h1 h2 h3 => ?_) (by rw [e]; assumption)
    exact (by assumption : Kept _ _ Lf) q hq h2
end
end Mine
end
section
local macro_rules | `(tactic| walk_at "pad 0") => `(tactic| skip)
open PySem PySem.W PyProof.Rows
set_option maxRecDepth 100000
set_option maxHeartbeats 8000000
namespace Mine
open PySem.Calls PySem.Spec
local macro_rules | `(tactic| ktr_rel) => `(tactic| first
  | exact IL.keeps (by with_reducible assumption) (Fr.keep (by k_asm))
  | exact RL.keeps (by with_reducible assumption) (Fr.keep (by k_asm))
  | exact BL.keeps (by with_reducible assumption) (Fr.keep (by k_asm))
  | exact IL.keeps (RowsAre.at (by with_reducible assumption) (by with_reducible assumption)) (Fr.keep (by k_asm))
  | exact ILn.at (by k_asm) (SH.v (by with_reducible assumption))
  | exact ILn.at (by k_asm) (SH.l (by with_reducible assumption))
  | exact ILn.at (by k_asm) (SH.q (by with_reducible assumption))
  | exact RLn.at (by k_asm) (SH.b (by with_reducible assumption)))
local macro_rules | `(tactic| walk_at "call builtin:len") => `(tactic| (k_here; (with_reducible show wpAny _ _ (call (Value.builtin "len") [Value.ref _]) _ _ _); k_dflt (first
  | (refine' len_r ?l ?c ?_; (case l => ktr_rel); (case c => omega); k_whole; intro _ _)
  | (refine' len_i ?l ?c ?_; (case l => ktr_rel); (case c => omega); k_whole; intro _ _))))
local macro_rules | `(tactic| walk_at "subscriptTail") => `(tactic| (k_here; (with_reducible show wpAny _ _ (subscriptTail _ _ (Value.ref _) (Value.int _ _)) _ _ _); k_dflt (first
  | (refine' item_i ?l ?a ?b ?c ?_ ?z; (case l => ktr_rel); (case a => omega); (case b => omega); (case c => omega); (case z => with_unfolding_all rfl); k_whole; intro _)
  | (refine' item_b ?l ?a ?b ?c ?_ ?z; (case l => ktr_rel); (case a => omega); (case b => omega); (case c => omega); (case z => with_unfolding_all rfl); k_whole)
  | (refine' item_r ?l ?a ?b ?c ?_ ?z; (case l => ktr_rel); (case a => omega); (case b => omega); (case c => omega); (case z => with_unfolding_all rfl); k_whole; intro _ _))))
local macro_rules | `(tactic| walk_at "getItem ref int") => `(tactic| (k_here; (with_reducible show wpAny _ _ (getItem (Value.ref _) (Value.int _ _)) _ _ _); k_dflt (
  (refine' get_i ?l ?a ?b ?c ?_; (case l => ktr_rel); (case a => omega); (case b => omega); (case c => omega); k_whole; intro _))))
local macro_rules | `(tactic| walk_at "eval Name") => `(tactic| (k_here; k_dflt (refine' nameX_L ?F ?v ?_ ?a ?b; (case F => k_asm); (case a => rfl); (case b => rfl); (case v => assumption); k_whole)))
local macro_rules | `(tactic| walk_at "loadName") => `(tactic| (k_here; k_dflt (refine' load_L ?F ?v ?_ ?a ?b; (case F => k_asm); (case a => rfl); (case b => rfl); (case v => assumption); k_whole)))
local macro_rules | `(tactic| walk_at "setItem ref int") => `(tactic| (k_here; (with_reducible show wpAny _ _ (setItem (Value.ref _) (Value.int _ _) (Value.int _ _)) _ _ _); k_dflt (first
  | (refine' SH.setV ?S ?F ?N ?o ?a ?b ?c ?_; (case F => k_asm); (case N => k_asm); (case S => with_reducible assumption); (case o => with_reducible assumption); (case a => omega); (case b => omega); (case c => omega); k_whole; intro _ _ _ _ _ _)
  | (refine' SH.setL ?S ?F ?N ?o ?a ?b ?c ?_; (case F => k_asm); (case N => k_asm); (case S => with_reducible assumption); (case o => with_reducible assumption); (case a => omega); (case b => omega); (case c => omega); k_whole; intro _ _ _ _ _ _))))
local macro_rules | `(tactic| walk_at "getMethod ref") => `(tactic| (k_here; k_dflt (first
  | (refine' ILn.meth ?N ?x ?_; (case N => k_asm); (case x => exact SH.q (by with_reducible assumption)); k_whole)
  | (refine' ILn.meth ?N ?x ?_; (case N => k_asm); (case x => exact SH.l (by with_reducible assumption)); k_whole)
  | (refine' ILn.meth ?N ?x ?_; (case N => k_asm); (case x => exact SH.r (by with_reducible assumption) _ _ (by with_reducible assumption)); k_whole))))
local macro_rules | `(tactic| walk_at "call builtin:list.append") => `(tactic| (k_here; (with_reducible show wpAny _ _ (call (Value.builtin _) [Value.ref _, Value.int _ _]) _ _ _); k_dflt (first
  | (refine' SH.appQ ?S ?F ?N ?o ?c ?_; (case F => k_asm); (case N => k_asm); (case S => with_reducible assumption); (case o => with_reducible assumption); (case c => omega); k_whole; intro _ _ _ _ _ _)
  | (refine' SH.appL ?S ?F ?N ?o ?c ?_; (case F => k_asm); (case N => k_asm); (case S => with_reducible assumption); (case o => with_reducible assumption); (case c => omega); k_whole; intro _ _ _ _ _ _)
  | (refine' SH.appB ?S ?F ?N ?o ?b ?c ?_; (case F => k_asm); (case N => k_asm); (case S => with_reducible assumption); (case o => with_reducible assumption); (case b => with_reducible assumption); (case c => omega); k_whole; intro _ _ _ _ _ _))))
section
variable {w : World} {p : Program} {loose : List Str} {mean : ExcName → Option Value} {mg mb : Str → Option Value} 
    {env : Env} {base h₀ : Heap} {L : Addr} {m : Str → Option Value} {s : Shared}
    {nx own : List (Addr × Obj)} {adr : List Addr} {V Lf Bf Qq : Addr} {bs : List Addr} {vals left : List Int} {bv : List (List Int)} {qu : List Int}
    {aS aA aL : Addr} {sides : List Int} {rows : List Addr} {after : List (List Int)} {lost : List Bool} {Q : Flow → Shared → Prop}


theorem w2 (B : Below (callerA.deeper env) base [env] h₀) (F : Fr h₀ L s.heap m) (X : (hd.heap_39 w.params).In h₀) (T : Top p loose mean mg mb h₀) 
    (N : News h₀ L s.heap nx) (S : SH nx adr V Lf Bf Qq bs vals left bv qu) (M : ML m aS aA aL V Lf Bf Qq)
    (hS : IL h₀ aS sides) (hlen : vals.length ≤ 10) (hl : left.length = vals.length) (hs : sides.length = vals.length) (hb : bs.length = vals.length) (hq : qu.length ≤ 10) {j : Int} {k : Int} {t u : Tok} (j0 : 0 ≤ j) (j1 : j < vals.length)
    (hbl : (bv.getD j.toNat []).length ≤ 1000) (hin : ∀ x ∈ bv.getD j.toNat [], 0 ≤ x ∧ x < vals.length)
    (mm : m "m" = some (.int j u)) (mat : m "at" = some (.int k t))
    (ret : ∀ nx' m' h' tk', Fr h₀ L h' m' → ML m' aS aA aL V Lf Bf Qq → m' "at" = some (.int k t) → News h₀ L h' nx' →
      SH nx' adr V Lf Bf Qq bs ((bv.getD j.toNat []).foldl (inQ sides j) ⟨vals, left, bv, qu⟩).vals ((bv.getD j.toNat []).foldl (inQ sides j) ⟨vals, left, bv, qu⟩).left bv ((bv.getD j.toNat []).foldl (inQ sides j) ⟨vals, left, bv, qu⟩).qu → Q .next { s with heap := h', toks := tk' }) :
    wpAny (model prog w) ((callerA.deeper env).deeper (sEnv L)) (exec (sub3 4 6 2) (sEnv L)) Q NoE s := by
  have hj : j.toNat < bs.length := by omega
  have eb : bs[j.toNat]? = some bs[j.toNat] := by simp [hj]
  obtain ⟨vs, nn, hm, hi⟩ := S.r _ _ eb
  obtain ⟨_, nb⟩ := S.mem_ne
  obtain ⟨n1, n2, n3, n4⟩ := nb _ (List.mem_of_getElem? eb)
  refine for_led (x := "n") (iter := iterOf (sub3 4 6 2)) (body := bodyOf (sub3 4 6 2)) (nx := nx) (m := m)
    (fun c m' nx' => ML m' aS aA aL V Lf Bf Qq ∧ m' "m" = some (.int j u) ∧ m' "at" = some (.int k t) ∧
      SH nx' adr V Lf Bf Qq bs (((bv.getD j.toNat []).take c).foldl (inQ sides j) ⟨vals, left, bv, qu⟩).vals (((bv.getD j.toNat []).take c).foldl (inQ sides j) ⟨vals, left, bv, qu⟩).left bv (((bv.getD j.toNat []).take c).foldl (inQ sides j) ⟨vals, left, bv, qu⟩).qu)
    rfl rfl rfl ?_ F N hm hi ⟨M, mm, mat, S⟩ ?_ ?_ (fun _ => rfl)
  · intro Q' hQ'
    have N' : News h₀ L s.heap (nx ++ []) := by rw [List.append_nil]; exact N
    obtain ⟨ms, ma, ml, mv, mle, mb', mq⟩ := M
    simp only [sEnv, scopeOf, sub3, sub2, stm, nthS, bodyOf, iterOf, PySem.Challenge.pw_nt0417_01]
    clear N
    k_steps
    rename_i b hb
    rw [eb] at hb
    cases hb
    exact hQ' _
  · rintro c n v m₁ nx₁ h tk own hc _ hoff hmem ⟨M', mm', mat', S'⟩ F₁ N₁
    have hn := hin n (List.mem_of_getElem? hc)
    have z := foldQ_sizes sides j ((bv.getD j.toNat []).take c) ⟨vals, left, bv, qu⟩
    generalize hσ : ((bv.getD j.toNat []).take c).foldl (inQ sides j) ⟨vals, left, bv, qu⟩ = σ at z S'
    have h2 : ((bv.getD j.toNat []).take c).length ≤ 1000 := by rw [List.length_take]; omega
    obtain ⟨z1, z2, z3, z4⟩ := z
    dsimp only at z1 z2 z3 z4
    have off : OwnOff own adr := by rw [← S.ad]; exact hoff
    refine w2body B F₁ X T N₁ S' off (M'.set (by decide)) hS (by omega) (by omega) (by omega) (by omega) (j := j) (n := n) j0 (by omega) hn.1 (by omega) upd_eq (upd_ne mm' (by decide)) fun nx2 h2 tk2 F2 N2 K2 S2 => ?_
    refine inv_end F2 N2 (S2.ad.trans S.ad.symm) ⟨K2 _ hmem n1.symm n2.symm n4.symm, M'.set (by decide), upd_ne mm' (by decide), upd_ne mat' (by decide), ?_⟩
    rw [foldl_take_succ _ _ hc, hσ]
    have e : σ = ⟨σ.vals, σ.left, bv, σ.qu⟩ := by rw [← z3]
    rw [e]
    exact S2
  · rintro m₁ nx₁ h tk ⟨M', _, mat', S'⟩ F₁ N₁
    rw [List.take_length] at S'
    exact ret nx₁ m₁ h tk F₁ M' mat' N₁ S'
end
end Mine
end
section
open PySem PySem.W PyProof.Rows
set_option maxRecDepth 100000
set_option maxHeartbeats 8000000
namespace Mine
open PySem.Calls PySem.Spec
local macro_rules | `(tactic| ktr_rel) => `(tactic| first
  | exact IL.keeps (by with_reducible assumption) (Fr.keep (by k_asm))
  | exact RL.keeps (by with_reducible assumption) (Fr.keep (by k_asm))
  | exact BL.keeps (by with_reducible assumption) (Fr.keep (by k_asm))
  | exact IL.keeps (RowsAre.at (by with_reducible assumption) (by with_reducible assumption)) (Fr.keep (by k_asm))
  | exact ILn.at (by k_asm) (SH.v (by with_reducible assumption))
  | exact ILn.at (by k_asm) (SH.l (by with_reducible assumption))
  | exact ILn.at (by k_asm) (SH.q (by with_reducible assumption))
  | exact RLn.at (by k_asm) (SH.b (by with_reducible assumption)))
local macro_rules | `(tactic| walk_at "call builtin:len") => `(tactic| (k_here; (with_reducible show wpAny _ _ (call (Value.builtin "len") [Value.ref _]) _ _ _); k_dflt (first
  | (refine' len_r ?l ?c ?_; (case l => ktr_rel); (case c => omega); k_whole; intro _ _)
  | (refine' len_i ?l ?c ?_; (case l => ktr_rel); (case c => omega); k_whole; intro _ _))))
local macro_rules | `(tactic| walk_at "subscriptTail") => `(tactic| (k_here; (with_reducible show wpAny _ _ (subscriptTail _ _ (Value.ref _) (Value.int _ _)) _ _ _); k_dflt (first
  | (refine' item_i ?l ?a ?b ?c ?_ ?z; (case l => ktr_rel); (case a => omega); (case b => omega); (case c => omega); (case z => with_unfolding_all rfl); k_whole; intro _)
  | (refine' item_b ?l ?a ?b ?c ?_ ?z; (case l => ktr_rel); (case a => omega); (case b => omega); (case c => omega); (case z => with_unfolding_all rfl); k_whole)
  | (refine' item_r ?l ?a ?b ?c ?_ ?z; (case l => ktr_rel); (case a => omega); (case b => omega); (case c => omega); (case z => with_unfolding_all rfl); k_whole; intro _ _))))
local macro_rules | `(tactic| walk_at "getItem ref int") => `(tactic| (k_here; (with_reducible show wpAny _ _ (getItem (Value.ref _) (Value.int _ _)) _ _ _); k_dflt (
  (refine' get_i ?l ?a ?b ?c ?_; (case l => ktr_rel); (case a => omega); (case b => omega); (case c => omega); k_whole; intro _))))
local macro_rules | `(tactic| walk_at "eval Name") => `(tactic| (k_here; k_dflt (refine' nameX_L ?F ?v ?_ ?a ?b; (case F => k_asm); (case a => rfl); (case b => rfl); (case v => assumption); k_whole)))
local macro_rules | `(tactic| walk_at "loadName") => `(tactic| (k_here; k_dflt (refine' load_L ?F ?v ?_ ?a ?b; (case F => k_asm); (case a => rfl); (case b => rfl); (case v => assumption); k_whole)))
local macro_rules | `(tactic| walk_at "setItem ref int") => `(tactic| (k_here; (with_reducible show wpAny _ _ (setItem (Value.ref _) (Value.int _ _) (Value.int _ _)) _ _ _); k_dflt (first
  | (refine' SH.setV ?S ?F ?N ?o ?a ?b ?c ?_; (case F => k_asm); (case N => k_asm); (case S => with_reducible assumption); (case o => with_reducible assumption); (case a => omega); (case b => omega); (case c => omega); k_whole; intro _ _ _ _ _ _)
  | (refine' SH.setL ?S ?F ?N ?o ?a ?b ?c ?_; (case F => k_asm); (case N => k_asm); (case S => with_reducible assumption); (case o => with_reducible assumption); (case a => omega); (case b => omega); (case c => omega); k_whole; intro _ _ _ _ _ _))))
local macro_rules | `(tactic| walk_at "getMethod ref") => `(tactic| (k_here; k_dflt (first
  | (refine' ILn.meth ?N ?x ?_; (case N => k_asm); (case x => exact SH.q (by with_reducible assumption)); k_whole)
  | (refine' ILn.meth ?N ?x ?_; (case N => k_asm); (case x => exact SH.l (by with_reducible assumption)); k_whole)
  | (refine' ILn.meth ?N ?x ?_; (case N => k_asm); (case x => exact SH.r (by with_reducible assumption) _ _ (by with_reducible assumption)); k_whole))))
local macro_rules | `(tactic| walk_at "call builtin:list.append") => `(tactic| (k_here; (with_reducible show wpAny _ _ (call (Value.builtin _) [Value.ref _, Value.int _ _]) _ _ _); k_dflt (first
  | (refine' SH.appQ ?S ?F ?N ?o ?c ?_; (case F => k_asm); (case N => k_asm); (case S => with_reducible assumption); (case o => with_reducible assumption); (case c => omega); k_whole; intro _ _ _ _ _ _)
  | (refine' SH.appL ?S ?F ?N ?o ?c ?_; (case F => k_asm); (case N => k_asm); (case S => with_reducible assumption); (case o => with_reducible assumption); (case c => omega); k_whole; intro _ _ _ _ _ _)
  | (refine' SH.appB ?S ?F ?N ?o ?b ?c ?_; (case F => k_asm); (case N => k_asm); (case S => with_reducible assumption); (case o => with_reducible assumption); (case b => with_reducible assumption); (case c => omega); k_whole; intro _ _ _ _ _ _))))
section
variable {w : World} {p : Program} {loose : List Str} {mean : ExcName → Option Value} {mg mb : Str → Option Value} 
    {env : Env} {base h₀ : Heap} {L : Addr} {m : Str → Option Value} {s : Shared}
    {nx own : List (Addr × Obj)} {adr : List Addr} {V Lf Bf Qq : Addr} {bs : List Addr} {vals left : List Int} {bv : List (List Int)} {qu : List Int}
    {aS aA aL : Addr} {sides : List Int} {rows : List Addr} {after : List (List Int)} {lost : List Bool} {Q : Flow → Shared → Prop}



theorem wtest {Q' : Bool → Shared → Prop} (B : Below (callerA.deeper env) base [env] h₀) (F : Fr h₀ L s.heap m) (X : (hd.heap_39 w.params).In h₀) (T : Top p loose mean mg mb h₀) 
    (N : News h₀ L s.heap nx) (S : SH nx adr V Lf Bf Qq bs vals left bv qu) (M : ML m aS aA aL V Lf Bf Qq) (hq : qu.length ≤ 10) {k : Int} {t : Tok} (mat : m "at" = some (.int k t))
    (ret : ∀ tk, Q' (decide (k < (qu.length : Int))) { s with toks := tk }) :
    wpAny (model prog w) ((callerA.deeper env).deeper (sEnv L)) (isTrue (iterOf (sub2 4 6)) (sEnv L) (eval (iterOf (sub2 4 6)) (sEnv L))) Q' NoE s := by
  have N' : News h₀ L s.heap (nx ++ []) := by rw [List.append_nil]; exact N
  obtain ⟨ms, ma, ml, mv, mle, mb', mq⟩ := M
  simp only [sEnv, scopeOf, sub3, sub2, stm, nthS, bodyOf, iterOf, PySem.Challenge.pw_nt0417_01]
  clear N
  k_steps
  exact ret _

theorem w3 (P : Nat → St → Prop) (B : Below (callerA.deeper env) base [env] h₀) (F : Fr h₀ L s.heap m) (X : (hd.heap_39 w.params).In h₀) (T : Top p loose mean mg mb h₀) 
    (N : News h₀ L s.heap nx) {σ₀ : St} (S : SH nx adr V Lf Bf Qq bs σ₀.vals σ₀.left σ₀.bv σ₀.qu) (M : ML m aS aA aL V Lf Bf Qq)
    (hS : IL h₀ aS sides) (hlen : sides.length ≤ 10) (hb : bs.length = sides.length) {t : Tok} (mat : m "at" = some (.int 0 t)) (hP : P 0 σ₀)
    (hz : ∀ k σ, P k σ → σ.vals.length = sides.length ∧ σ.left.length = sides.length ∧ σ.qu.length ≤ sides.length ∧ (∀ x ∈ σ.qu, 0 ≤ x ∧ x < sides.length) ∧ (∀ j, (σ.bv.getD j []).length ≤ 1000) ∧ ∀ j, ∀ x ∈ σ.bv.getD j [], 0 ≤ x ∧ x < sides.length)
    (hs : ∀ k σ, P k σ → k < σ.qu.length → P (k + 1) (stepQ sides σ k))
    (ret : ∀ nx' m' h' tk' k σ, Fr h₀ L h' m' → ML m' aS aA aL V Lf Bf Qq → News h₀ L h' nx' → P k σ → σ.qu.length ≤ k → SH nx' adr V Lf Bf Qq bs σ.vals σ.left σ.bv σ.qu → Q .next { s with heap := h', toks := tk' }) :
    wpAny (model prog w) ((callerA.deeper env).deeper (sEnv L)) (exec (sub2 4 6) (sEnv L)) Q NoE s := by
  refine while_inv (test := iterOf (sub2 4 6)) (body := bodyOf (sub2 4 6)) (n₀ := sides.length - 0)
    (fun n m' nx' => ∃ (k : Nat) (σ : St) (t : Tok), n = sides.length - k ∧ ML m' aS aA aL V Lf Bf Qq ∧ m' "at" = some (.int (k : Int) t) ∧ P k σ ∧ SH nx' adr V Lf Bf Qq bs σ.vals σ.left σ.bv σ.qu) F N ⟨0, σ₀, t, rfl, M, mat, hP, S⟩ ?_
  rintro n m₁ nx₁ h tk F₁ N₁ ⟨k, σ, t₁, rfl, M₁, mat₁, hP₁, S₁⟩
  obtain ⟨z1, z2, z3, z4, z5, z6⟩ := hz k σ hP₁
  refine wtest B F₁ X T N₁ S₁ M₁ (by omega) mat₁ fun tk2 => ?_
  by_cases hk : k < σ.qu.length
  · have hkI : (k : Int) < (σ.qu.length : Int) := by omega
    rw [decide_eq_true hkI, if_pos rfl]
    have hg : gi σ.qu k ∈ σ.qu := by
      have e : σ.qu[(k : Int).toNat]? = some (gi σ.qu k) := by
        simp [gi, hk, List.getD_eq_getElem?_getD]
      exact List.mem_of_getElem? e
    obtain ⟨g0, g1⟩ := z4 _ hg
    show wpAny _ _ (execs ([sub3 4 6 0, sub3 4 6 1] ++ [sub3 4 6 2]) _) _ _ _
    refine execs_append _ _ ?_
    refine w1 (own := []) B F₁ X T (by rw [List.append_nil]; exact N₁) S₁ M₁ (by omega) (k := (k : Int)) (by omega) hkI mat₁ fun m2 h2 tk3 t2 u2 F2 M2 mm2 mat2 N2 => ?_
    refine execs_one (w2 B F2 X T (by rw [List.append_nil] at N2; exact N2) S₁ M2 hS (by omega) (by omega) (by omega) (by omega) (by omega) g0 (by omega) (z5 _) (by rw [z1]; exact z6 _) mm2 mat2 fun nx3 m3 h3 tk4 F3 M3 mat3 N3 S3 => ?_)
    have hP2 := hs k σ hP₁ hk
    refine while_end F3 N3 (n' := sides.length - (k + 1)) (by omega) ⟨k + 1, stepQ sides σ k, t2, rfl, M3, ?_, hP2, ?_⟩
    · rw [mat3]; rfl
    · have e : (stepQ sides σ k).bv = σ.bv := (foldQ_sizes sides _ _ σ).2.2.1
      rw [e]
      exact S3
  · have hkI : ¬ (k : Int) < (σ.qu.length : Int) := by omega
    rw [decide_eq_false hkI, if_neg (by decide)]
    exact ret nx₁ m₁ h _ k σ F₁ M₁ N₁ hP₁ (by omega) S₁
end

abbrev noInts (b : Addr) : Addr × Obj := (b, W.listOf ([] : List Value).toArray 0)
section
variable {prog : Program} {w : World} {A : Around} {s : Shared} {h₀ : Heap} {L : Addr} {m : Str → Option Value} {env : Env} {x : Str} {scope : Scope} {cl : List (Str × Addr)} {S : List (Addr × Obj) → Prop} {P : Nat → Value → Prop}
  {Fin : List Value → List (Addr × Obj) → Prop} {n : Nat} {news₀ : List (Addr × Obj)} {pos : Pos}
theorem list_nil_ {M : Model} {E : Value → Shared → Prop} {Q : Value → Shared → Prop} (h : wpAny M A (newList []) Q E s) : wpAny M A (eval (.List [] pos) env) Q E s := by
  refine List_ ?_
  walk1
  exact h
theorem comp_empties (hS : ∀ nw, S nw) (fin : ∀ bs : List Addr, bs.length = n → bs.Nodup → (∀ b ∈ bs, b ∉ news₀.map (·.1)) → Fin (bs.map Value.ref) (bs.map noInts ++ news₀)) :
    ∀ (k i : Nat) (bs : List Addr), i + k = n → bs.length = i → bs.Nodup → (∀ b ∈ bs, b ∉ news₀.map (·.1)) → LCg.CompRest prog w A h₀ L m env (.List [] pos) x scope cl s S P Fin k i (bs.map Value.ref) (bs.map noInts ++ news₀)
  | 0, i, bs, hk, hl, nd, hb => LCg.CompRest.zero (fin bs (by omega) nd hb)
  | k + 1, i, bs, hk, hl, nd, hb => by
    refine LCg.CompRest.succ fun v I oI C oC D m₂ h tk E' _ _ _ F N off ne => ?_
    refine list_nil_ (newList_K F N fun l h' F' N' hlt => ?_)
    have lI := hlt (I, oI) (.head _)
    have lC := hlt (C, oC) (.tail _ (.head _))
    have lD := hlt (D, LCg.lst (bs.map Value.ref)) (.tail _ (.tail _ (.head _)))
    have lb : ∀ p ∈ bs.map noInts ++ news₀, p.1 < l := fun p hp => hlt p (.tail _ (.tail _ (.tail _ hp)))
    have hlb : l ∉ bs := fun hm => Nat.lt_irrefl _ (lb (noInts l) (List.mem_append.mpr (.inl (List.mem_map_of_mem hm))))
    have hln : l ∉ news₀.map (·.1) := fun hm => by
      obtain ⟨p, hp, e⟩ := List.mem_map.mp hm
      exact Nat.lt_irrefl _ (e ▸ lb p (List.mem_append.mpr (.inr hp)))
    refine LCg.CompEnd.intro F' N' ((bs ++ [l]).map noInts ++ news₀) ?_ ?_ (hS _) ?_
    · intro p hp
      simp only [List.map_append, List.map_cons, List.map_nil, List.mem_cons, List.mem_append, List.not_mem_nil, or_false] at hp ⊢
      rcases hp with h | h | h | ((h | h) | h)
      · exact .inr (.inl h)
      · exact .inr (.inr (.inl h))
      · exact .inr (.inr (.inr (.inl h)))
      · exact .inr (.inr (.inr (.inr (.inl h))))
      · exact .inl h
      · exact .inr (.inr (.inr (.inr (.inr h))))
    · refine LCg.Off3.of fun p hp => ?_
      simp only [List.map_append, List.map_cons, List.map_nil, List.mem_cons, List.mem_append, List.not_mem_nil, or_false] at hp
      rcases hp with (h | h) | h
      · exact off.mem p (List.mem_append.mpr (.inl h))
      · subst h
        exact ⟨Nat.ne_of_gt lI, Nat.ne_of_gt lC, Nat.ne_of_gt lD⟩
      · exact off.mem p (List.mem_append.mpr (.inr h))
    · have e : bs.map Value.ref ++ [Value.ref l] = (bs ++ [l]).map Value.ref := by simp
      rw [e]
      refine comp_empties hS fin k (i + 1) (bs ++ [l]) (by omega) (by simp [hl]) ?_ ?_
      · rw [List.nodup_append]
        exact ⟨nd, by simp, fun a ha b hb' => by rw [List.mem_singleton.mp hb']; exact fun e => hlb (e ▸ ha)⟩
      · intro b hb'
        rcases List.mem_append.mp hb' with h | h
        · exact hb b h
        · rw [List.mem_singleton.mp h]; exact hln
end
end Mine
end
section
open PySem PySem.W PyProof.Rows
set_option maxRecDepth 100000
set_option maxHeartbeats 8000000
namespace Mine
open PySem.Calls PySem.Spec
local macro_rules | `(tactic| ktr_rel) => `(tactic| first
  | exact IL.keeps (by with_reducible assumption) (Fr.keep (by k_asm))
  | exact RL.keeps (by with_reducible assumption) (Fr.keep (by k_asm))
  | exact BL.keeps (by with_reducible assumption) (Fr.keep (by k_asm))
  | exact IL.keeps (RowsAre.at (by with_reducible assumption) (by with_reducible assumption)) (Fr.keep (by k_asm))
  | exact ILn.at (by k_asm) (SH.v (by with_reducible assumption))
  | exact ILn.at (by k_asm) (SH.l (by with_reducible assumption))
  | exact ILn.at (by k_asm) (SH.q (by with_reducible assumption))
  | exact RLn.at (by k_asm) (SH.b (by with_reducible assumption)))
local macro_rules | `(tactic| walk_at "call builtin:len") => `(tactic| (k_here; (with_reducible show wpAny _ _ (call (Value.builtin "len") [Value.ref _]) _ _ _); k_dflt (first
  | (refine' len_r ?l ?c ?_; (case l => ktr_rel); (case c => omega); k_whole; intro _ _)
  | (refine' len_i ?l ?c ?_; (case l => ktr_rel); (case c => omega); k_whole; intro _ _))))
local macro_rules | `(tactic| walk_at "subscriptTail") => `(tactic| (k_here; (with_reducible show wpAny _ _ (subscriptTail _ _ (Value.ref _) (Value.int _ _)) _ _ _); k_dflt (first
  | (refine' item_i ?l ?a ?b ?c ?_ ?z; (case l => ktr_rel); (case a => omega); (case b => omega); (case c => omega); (case z => with_unfolding_all rfl); k_whole; intro _)
  | (refine' item_b ?l ?a ?b ?c ?_ ?z; (case l => ktr_rel); (case a => omega); (case b => omega); (case c => omega); (case z => with_unfolding_all rfl); k_whole)
  | (refine' item_r ?l ?a ?b ?c ?_ ?z; (case l => ktr_rel); (case a => omega); (case b => omega); (case c => omega); (case z => with_unfolding_all rfl); k_whole; intro _ _))))
local macro_rules | `(tactic| walk_at "getItem ref int") => `(tactic| (k_here; (with_reducible show wpAny _ _ (getItem (Value.ref _) (Value.int _ _)) _ _ _); k_dflt (
  (refine' get_i ?l ?a ?b ?c ?_; (case l => ktr_rel); (case a => omega); (case b => omega); (case c => omega); k_whole; intro _))))
local macro_rules | `(tactic| walk_at "eval Name") => `(tactic| (k_here; k_dflt (refine' nameX_L ?F ?v ?_ ?a ?b; (case F => k_asm); (case a => rfl); (case b => rfl); (case v => assumption); k_whole)))
local macro_rules | `(tactic| walk_at "loadName") => `(tactic| (k_here; k_dflt (refine' load_L ?F ?v ?_ ?a ?b; (case F => k_asm); (case a => rfl); (case b => rfl); (case v => assumption); k_whole)))
local macro_rules | `(tactic| walk_at "setItem ref int") => `(tactic| (k_here; (with_reducible show wpAny _ _ (setItem (Value.ref _) (Value.int _ _) (Value.int _ _)) _ _ _); k_dflt (first
  | (refine' SH.setV ?S ?F ?N ?o ?a ?b ?c ?_; (case F => k_asm); (case N => k_asm); (case S => with_reducible assumption); (case o => with_reducible assumption); (case a => omega); (case b => omega); (case c => omega); k_whole; intro _ _ _ _ _ _)
  | (refine' SH.setL ?S ?F ?N ?o ?a ?b ?c ?_; (case F => k_asm); (case N => k_asm); (case S => with_reducible assumption); (case o => with_reducible assumption); (case a => omega); (case b => omega); (case c => omega); k_whole; intro _ _ _ _ _ _))))
local macro_rules | `(tactic| walk_at "getMethod ref") => `(tactic| (k_here; k_dflt (first
  | (refine' ILn.meth ?N ?x ?_; (case N => k_asm); (case x => exact SH.q (by with_reducible assumption)); k_whole)
  | (refine' ILn.meth ?N ?x ?_; (case N => k_asm); (case x => exact SH.l (by with_reducible assumption)); k_whole)
  | (refine' ILn.meth ?N ?x ?_; (case N => k_asm); (case x => exact SH.r (by with_reducible assumption) _ _ (by with_reducible assumption)); k_whole))))
local macro_rules | `(tactic| walk_at "call builtin:list.append") => `(tactic| (k_here; (with_reducible show wpAny _ _ (call (Value.builtin _) [Value.ref _, Value.int _ _]) _ _ _); k_dflt (first
  | (refine' SH.appQ ?S ?F ?N ?o ?c ?_; (case F => k_asm); (case N => k_asm); (case S => with_reducible assumption); (case o => with_reducible assumption); (case c => omega); k_whole; intro _ _ _ _ _ _)
  | (refine' SH.appL ?S ?F ?N ?o ?c ?_; (case F => k_asm); (case N => k_asm); (case S => with_reducible assumption); (case o => with_reducible assumption); (case c => omega); k_whole; intro _ _ _ _ _ _)
  | (refine' SH.appB ?S ?F ?N ?o ?b ?c ?_; (case F => k_asm); (case N => k_asm); (case S => with_reducible assumption); (case o => with_reducible assumption); (case b => with_reducible assumption); (case c => omega); k_whole; intro _ _ _ _ _ _))))
local macro_rules | `(tactic| walk_at "exec Assign cons ListComp") => `(tactic| (k_here; k_dflt (refine LCg.Assign_ListComp_U (F₀ := by k_asm) (by rfl) (by with_unfolding_all rfl) (by rfl) (by decide) (by rfl) (by decide) (by rfl) (by rfl) (by rfl) ?_)))
section
variable {w : World} {p : Program} {loose : List Str} {mean : ExcName → Option Value} {mg mb : Str → Option Value} 
    {env : Env} {base h₀ : Heap} {L : Addr} {m : Str → Option Value} {s : Shared}
    {nx own : List (Addr × Obj)} {adr : List Addr} {V Lf Bf Qq : Addr} {bs : List Addr} {vals left : List Int} {bv : List (List Int)} {qu : List Int}
    {aS aA aL : Addr} {sides : List Int} {rows : List Addr} {after : List (List Int)} {lost : List Bool} {Q : Flow → Shared → Prop}




theorem flat_rep {α : Type} (x : α) : ∀ n : Nat, (List.replicate n [x]).flatten = List.replicate n x
  | 0 => rfl
  | n + 1 => by rw [List.replicate_succ, List.flatten_cons, flat_rep x n]; rfl

theorem off1_mem {D : Addr} : ∀ {l : List (Addr × Obj)}, LCg.Off1 D l → ∀ p ∈ l, p.1 ≠ D
  | [], _, _, h => nomatch h
  | q :: r, x, p, h => by
    rcases List.mem_cons.mp h with rfl | h
    · exact x.1
    · exact off1_mem x.2 p h

theorem solve_pre (B : Below (callerA.deeper env) base [env] h₀) (F : Fr h₀ L s.heap m) (X : (hd.heap_39 w.params).In h₀) (T : Top p loose mean mg mb h₀) 
    (N : News h₀ L s.heap []) (hA : RL h₀ aA rows) (hlen : rows.length ≤ 10) (hrl : rows.length = after.length)
    (ms : m "sides" = some (.ref aS)) (ma : m "after" = some (.ref aA)) (ml : m "lost" = some (.ref aL))
    (ret : ∀ nx' m' h' tk' adr V Lf Bf Qq bs, Fr h₀ L h' m' → ML m' aS aA aL V Lf Bf Qq → News h₀ L h' nx' → bs.length = after.length → 
      SH nx' adr V Lf Bf Qq bs (init after.length).vals (init after.length).left (init after.length).bv (init after.length).qu → Q .next { s with heap := h', toks := tk' }) :
    wpAny (model prog w) ((callerA.deeper env).deeper (sEnv L)) (execs [sub2 4 0, sub2 4 1, sub2 4 2, sub2 4 3] (sEnv L)) Q NoE s := by
  simp only [sEnv, scopeOf, sub3, sub2, stm, nthS, bodyOf, iterOf, PySem.Challenge.pw_nt0417_01]
  k_steps
  rename_i l0 h0' l10 t0 tk0 Va h3 iV n1 s1 e1 e2 e3 l11 h2 tk1 Lf h4 l12 h5 F1 N1
  refine LCg.CompSrc.base (by rfl) (by k_asm) (by k_asm) hA (by simp; rw [sizeLine_eq]; omega) ?_
  intro g
  refine comp_empties (fun _ => .inl hA) (fun bs hbl nd hb => ?_) _ 0 [] (Nat.zero_add _) rfl List.nodup_nil (by simp)
  clear F1 N1
  unfold LCg.FinA
  intro Bf h6 tk2 F2 N2 o1
  simp only [List.size_toArray, List.length_map] at hbl
  (try dsimp only)
  k_steps
  rename_i Qq h7 l13 h8 F3 N3
  have o1' := off1_mem o1
  have l13' := ktn_ltOf l13.2
  have eI : (List.replicate ((rows.length : Int)).toNat [(-1 : Int)]).flatten = List.replicate after.length (-1) := by rw [flat_rep, hrl, Int.toNat_natCast]
  rw [eI] at iV
  have mLf : ∀ o o' o'', (Lf, o) ∈ bs.map noInts ++ [(Lf, o), (Va, o'), (l0, o'')] := fun o o' o'' => List.mem_append.mpr (.inr (.head _))
  have mVa : ∀ o o' o'', (Va, o') ∈ bs.map noInts ++ [(Lf, o), (Va, o'), (l0, o'')] := fun o o' o'' => List.mem_append.mpr (.inr (.tail _ (.head _)))
  have mb : ∀ b ∈ bs, ∀ r, noInts b ∈ bs.map noInts ++ r := fun b hb r => List.mem_append.mpr (.inl (List.mem_map_of_mem hb))
  have n1 : Lf ≠ Bf := o1' _ (mLf _ _ _)
  have n2 : Va ≠ Bf := o1' _ (mVa _ _ _)
  have n3 : Lf < Qq := l13' _ (mLf _ _ _)
  have n4 : Va < Qq := l13' _ (mVa _ _ _)
  have n5 : ∀ b ∈ bs, b ≠ Bf := fun b hb => o1' (noInts b) (mb b hb _)
  have n6 : ∀ b ∈ bs, b < Qq := fun b hb => l13' (noInts b) (mb b hb _)
  have n7 : ∀ b ∈ bs, b ≠ Lf ∧ b ≠ Va := fun b h9 => by
    have := hb b h9
    simp only [List.map_cons, List.mem_cons, not_or] at this
    exact ⟨this.1, this.2.1⟩
  have ne12 : Va ≠ Lf := Nat.ne_of_lt l12.1
  refine ret _ _ _ _ _ Va Lf Bf Qq bs F3 ?ml N3 (hbl.trans hrl) ⟨rfl, ?_, ?_, ?_, ?_, ?_, ?_, ?_⟩
  case ml =>
    constructor
    all_goals ((repeat (first | rw [if_pos rfl] | rw [if_neg (by decide)] | dsimp only)); first | with_unfolding_all rfl | assumption | trace_state)
  · exact ⟨_, _, .tail _ (.tail _ (mVa _ _ _)), iV⟩
  · exact ⟨[], _, .tail _ (.tail _ (mLf _ _ _)), .nil⟩
  · exact ⟨_, .tail _ (.head _)⟩
  · exact ⟨[], _, .head _, .nil⟩
  · intro j b hj
    have hm := List.mem_of_getElem? hj
    have e : (init after.length).bv.getD j [] = [] := by
      simp only [init, List.getD_eq_getElem?_getD, List.getElem?_replicate]
      split <;> rfl
    rw [e]
    exact ⟨[], 0, .tail _ (.tail _ (mb b hm _)), .nil⟩
  · simp only [List.nodup_cons, List.mem_cons, not_or]
    exact ⟨⟨ne12, n2, Nat.ne_of_lt n4, fun hm => (n7 _ hm).2 rfl⟩, ⟨n1, Nat.ne_of_lt n3, fun hm => (n7 _ hm).1 rfl⟩, ⟨Nat.ne_of_lt l13.1, fun hm => n5 _ hm rfl⟩, fun hm => Nat.lt_irrefl _ (n6 _ hm), nd⟩
  · simp only [init, List.length_replicate]
    exact hbl.trans hrl
theorem s5 (B : Below (callerA.deeper env) base [env] h₀) (F : Fr h₀ L s.heap m) (X : (hd.heap_39 w.params).In h₀) (T : Top p loose mean mg mb h₀) 
    (N : News h₀ L s.heap nx) (M : ML m aS aA aL V Lf Bf Qq)
    (ret : ∀ m' h' tk' t, Fr h₀ L h' m' → ML m' aS aA aL V Lf Bf Qq → m' "at" = some (.int 0 t) → News h₀ L h' nx → Q .next { s with heap := h', toks := tk' }) :
    wpAny (model prog w) ((callerA.deeper env).deeper (sEnv L)) (exec (sub2 4 5) (sEnv L)) Q NoE s := by
  simp only [sEnv, scopeOf, sub2, stm, nthS, bodyOf, PySem.Challenge.pw_nt0417_01]
  k_steps
  exact ret _ _ _ _ (by k_asm) (M.set (by decide)) (by rw [if_pos rfl]) (by k_asm)
theorem s7 (B : Below (callerA.deeper env) base [env] h₀) (F : Fr h₀ L s.heap m) (X : (hd.heap_39 w.params).In h₀) (T : Top p loose mean mg mb h₀) 
    (N : News h₀ L s.heap nx) (M : ML m aS aA aL V Lf Bf Qq) (ret : ∀ tk', Q (.ret (.ref V)) { s with toks := tk' }) :
    wpAny (model prog w) ((callerA.deeper env).deeper (sEnv L)) (exec (sub2 4 7) (sEnv L)) Q NoE s := by
  obtain ⟨ms, ma, ml, mv, mle, mb', mq⟩ := M
  simp only [sEnv, scopeOf, sub2, stm, nthS, bodyOf, PySem.Challenge.pw_nt0417_01]
  k_steps
  exact ret _
end

section
variable {w : World} {p : Program} {loose : List Str} {mean : ExcName → Option Value} {mg mb : Str → Option Value} 
    {env : Env} {base h₀ : Heap} {L : Addr} {m : Str → Option Value} {s : Shared}
    {aS aA aL : Addr} {sides : List Int} {rows : List Addr} {after : List (List Int)} {lost : List Bool} {Q E : Value → Shared → Prop}

theorem solve_spec (P : Nat → St → Prop) (B : Below callerA base [] h₀) (F : Fr h₀ L s.heap m) (X : (hd.heap_39 w.params).In h₀) (T : Top p loose mean mg mb h₀) (hf : env.frame = some L) (hke : env.scope.kind = .function)
    (hS : IL s.heap aS sides) (hA : RL s.heap aA rows) (hR : RowsAre s.heap rows after) (hL : BL s.heap aL lost)
    (hlen : after.length ≤ 10) (hrl : rows.length = after.length) (hll : lost.length = after.length) (hsl : sides.length = after.length)
    (hrow : ∀ j, (after.getD j []).length ≤ 3) (hin : ∀ j, ∀ x ∈ after.getD j [], -1 ≤ x ∧ x < after.length)
    (hP : P 0 (start after lost after.length))
    (hz : ∀ k σ, P k σ → σ.vals.length = sides.length ∧ σ.left.length = sides.length ∧ σ.qu.length ≤ sides.length ∧ (∀ x ∈ σ.qu, 0 ≤ x ∧ x < sides.length) ∧ (∀ j, (σ.bv.getD j []).length ≤ 1000) ∧ ∀ j, ∀ x ∈ σ.bv.getD j [], 0 ≤ x ∧ x < sides.length)
    (hs : ∀ k σ, P k σ → k < σ.qu.length → P (k + 1) (stepQ sides σ k))
    (ret : ∀ v vs n k σ h' tk', (∀ b o, s.heap.get? b = some o → h'.get? b = some o) → s.heap.get? v = none → h'.get? v = some (W.listOf (List.toArray vs) n) → IntsAre vs σ.vals → P k σ → σ.qu.length ≤ k → Q (.ref v) { s with heap := h', toks := tk' }) :
    wpAny (model prog w) (callerA.deeper env) (call (.ref 19) [.ref aS, .ref aA, .ref aL]) Q E s := by
  k_dflt (refine' call_pure B F X T ?hA hf hke ?ho ?hcd ?hroom ?hbind ?hloc ?_ ?hcell ?c1 ?c2 ?c3; (case hA => exact rfl); (case ho => k_is); (case hcd => k_is); (case hroom => exact Nat.lt_of_succ_le (Nat.le_of_ble_eq_true rfl)); (case hbind => exact BindsTo.of_eq rfl); (case hloc => exact locs rfl); (case hcell => decide); (case c1 => exact rfl); (case c2 => exact rfl); (case c3 => exact rfl))
  clear B F X T
  intro L' h₁ F N B X T
  show wpAny _ (Around.deeper _ (sEnv L')) (execs ([sub2 4 0, sub2 4 1, sub2 4 2, sub2 4 3] ++ [sub2 4 4, sub2 4 5, sub2 4 6, sub2 4 7]) (sEnv L')) _ _ _
  refine execs_append _ _ (solve_pre B F X T N hA (by omega) hrl rfl rfl rfl fun nx m1 h1 tk1 adr V Lf Bf Qq bs F1 M1 N1 hbs S1 => ?_)
  refine wpAny_execs_cons (loop1 B F1 X T N1 M1 hA hR hL hlen hrl hll hbs hrow hin S1 fun nx2 m2 h2 tk2 F2 M2 N2 S2 => ?_)
  refine wpAny_execs_cons (s5 B F2 X T N2 M2 fun m3 h3 tk3 t3 F3 M3 mat3 N3 => ?_)
  refine wpAny_execs_cons (w3 P B F3 X T N3 S2 M3 hS (by omega) (by omega) mat3 hP hz hs fun nx4 m4 h4 tk4 k σ F4 M4 N4 hPk hk S4 => ?_)
  refine execs_one (s7 B F4 X T N4 M4 fun tk5 => ?_)
  obtain ⟨vs, n, hm, hi⟩ := S4.v
  exact ret V vs n k σ h4 tk5 F4.keep (N4 _ hm).2.2 (N4 _ hm).1 hi hPk hk
end
end Mine
end
section
open PySem PySem.W PyProof.Rows
set_option maxRecDepth 100000
set_option maxHeartbeats 8000000
namespace Mine
open PySem.Calls PySem.Spec
local macro_rules | `(tactic| ktr_rel) => `(tactic| first
  | exact IL.keeps (by with_reducible assumption) (Fr.keep (by k_asm))
  | exact RL.keeps (by with_reducible assumption) (Fr.keep (by k_asm))
  | exact BL.keeps (by with_reducible assumption) (Fr.keep (by k_asm))
  | exact ILn.il (by k_asm) (by with_reducible assumption))
local macro_rules | `(tactic| walk_at "call builtin:len") => `(tactic| (k_here; (with_reducible show wpAny _ _ (call (Value.builtin "len") [Value.ref _]) _ _ _); k_dflt (first
  | (refine' len_r ?l ?c ?_; (case l => ktr_rel); (case c => omega); k_whole; intro _ _)
  | (refine' len_i ?l ?c ?_; (case l => ktr_rel); (case c => omega); k_whole; intro _ _))))
local macro_rules | `(tactic| walk_at "subscriptTail") => `(tactic| (k_here; (with_reducible show wpAny _ _ (subscriptTail _ _ (Value.ref _) (Value.int _ _)) _ _ _); k_dflt (first
  | (refine' item_i ?l ?a ?b ?c ?_ ?z; (case l => ktr_rel); (case a => omega); (case b => omega); (case c => omega); (case z => with_unfolding_all rfl); k_whole; intro _)
  | (refine' item_b ?l ?a ?b ?c ?_ ?z; (case l => ktr_rel); (case a => omega); (case b => omega); (case c => omega); (case z => with_unfolding_all rfl); k_whole)
  | (refine' item_r ?l ?a ?b ?c ?_ ?z; (case l => ktr_rel); (case a => omega); (case b => omega); (case c => omega); (case z => with_unfolding_all rfl); k_whole; intro _ _))))
local macro_rules | `(tactic| walk_at "getItem ref int") => `(tactic| (k_here; (with_reducible show wpAny _ _ (getItem (Value.ref _) (Value.int _ _)) _ _ _); k_dflt (
  (refine' get_i ?l ?a ?b ?c ?_; (case l => ktr_rel); (case a => omega); (case b => omega); (case c => omega); k_whole; intro _))))
local macro_rules | `(tactic| walk_at "eval Name") => `(tactic| (k_here; k_dflt (refine' nameX_L ?F ?v ?_ ?a ?b; (case F => k_asm); (case a => rfl); (case b => rfl); (case v => assumption); k_whole)))
local macro_rules | `(tactic| walk_at "loadName") => `(tactic| (k_here; k_dflt (refine' load_L ?F ?v ?_ ?a ?b; (case F => k_asm); (case a => rfl); (case b => rfl); (case v => assumption); k_whole)))
section
variable {prog : Program} {w : World} {A : Around} {E : Value → Shared → Prop} {s : Shared} {h₀ : Heap} {L a : Addr} {m : Str → Option Value} {led : List (Addr × Obj)} {k : Int} {u : Tok}
theorem item_lit {value slice : Expr} {vs : List Value} {n : Nat} {v : Value} {Q : Value → Shared → Prop} (N : News h₀ L s.heap led) (hm : (a, W.listOf vs.toArray n) ∈ led) (h0 : 0 ≤ k) (h1 : k < 2 ^ 63) (e : vs[k.toNat]? = some v) (h : Q v s)
    (hs : subscripted slice false (.ref a) (.int k u) = operate [.ref a, .int k u] (getItem (.ref a) (.int k u)) := by with_unfolding_all rfl) :
    wpAny (model prog w) A (subscriptTail value slice (.ref a) (.int k u)) Q E s := by
  have hl := isList_news N hm
  exact tail_any (Heap.IsList.typeIs hl) slot_list_getitem.lookup (wpAny_getItem_list hl h0 h1 (by simpa using e) h) hs
theorem set_tape {tp sc : Addr} {x y : Int} {t u v : Tok} {n : Nat} {ns : List Int} {Q : Unit → Shared → Prop} (F : Fr h₀ L s.heap m) (N : News h₀ L s.heap led) (hm : (tp, W.listOf [Value.ref sc, .int x t].toArray n) ∈ led) (hS : ILn led sc ns) (ne : sc ≠ tp)
    (h : ∀ h', Fr h₀ L h' m → News h₀ L h' (put tp (W.listOf [Value.ref sc, .int y u].toArray n) led) → (tp, W.listOf [Value.ref sc, .int y u].toArray n) ∈ put tp (W.listOf [Value.ref sc, .int y u].toArray n) led → ILn (put tp (W.listOf [Value.ref sc, .int y u].toArray n) led) sc ns → Q () { s with heap := h' }) :
    wpAny (model prog w) A (setItem (.ref tp) (.int 1 v) (.int y u)) Q E s := by
  refine set_core (nx := led) (own := []) (adr := led.map (·.1)) F (by rw [List.append_nil]; exact N) rfl (fun _ hp => nomatch hp) hm (by decide) (by simp) (by simp) fun h' F' N' => ?_
  rw [List.append_nil] at N'
  exact h h' F' N' (put_self hm) (hS.put_ne ne)
end
local macro_rules | `(tactic| walk_at "subscriptTail") => `(tactic| (k_here; (with_reducible show wpAny _ _ (subscriptTail _ _ (Value.ref _) (Value.int _ _)) _ _ _); k_dflt (
  (refine' item_lit ?N ?m ?a ?b ?e ?_ ?z; (case N => k_asm); (case m => with_reducible assumption); (case a => decide); (case b => decide); (case e => rfl); (case z => with_unfolding_all rfl); k_whole))))
local macro_rules | `(tactic| walk_at "setItem ref int") => `(tactic| (k_here; (with_reducible show wpAny _ _ (setItem (Value.ref _) (Value.int _ _) (Value.int _ _)) _ _ _); k_dflt (
  (refine' set_tape ?F ?N ?m ?S ?ne ?_; (case F => k_asm); (case N => k_asm); (case m => with_reducible assumption); (case S => with_reducible assumption); (case ne => with_reducible assumption); k_whole; intro _ _ _ _ _))))
theorem take_spec {w : World} {p : Program} {loose : List Str} {mean : ExcName → Option Value} {mg mb : Str → Option Value} 
    {cn : Str} {cs : Scope} {a : Addr} {ccd : Value} {cl : List (Str × Addr)} {base h₀ : Heap} {L : Addr} {m : Str → Option Value} {news : List (Addr × Obj)} {s : Shared}
    {Q E : Value → Shared → Prop}
    (B : Below callerA base [] h₀) (F : Fr h₀ L s.heap m) (X : (hd.heap_39 w.params).In h₀) (N : News h₀ L s.heap news) (T : Top p loose mean mg mb h₀) (hk : cs.kind = .function)
    {tp sc : Addr} {ns : List Int} {i n : Int} {ta tn : Tok} {k : Nat}
    (hT : (tp, W.listOf [Value.ref sc, .int i ta].toArray k) ∈ news) (hS : ILn news sc ns) (ne : sc ≠ tp) (hns : ns.length ≤ 63) (h0 : 0 ≤ i) (h1 : i < 1000) (hn : 0 < n) (hn2 : n ≤ 32)
    (ret : ∀ (r : Int) (t t' : Tok) (h' : Heap) (tk' : Nat), 0 ≤ r → r < n → Fr h₀ L h' m → News h₀ L h' (put tp (W.listOf [Value.ref sc, .int (i + 1) t].toArray k) news) → Q (.int r t') { s with heap := h', toks := tk' }) :
    wpAny (model prog w) (callerA.deeper (envX cn cs L a ccd cl)) (call (.ref 26) [.ref tp, .int n tn]) Q E s := by
  refine wpAny_call ?_
  k_dflt (refine' code_def (env := envX cn cs L a ccd cl) B F X N T ?kA ?kF ?kK ?k6 ?k7 ?k8 ?k9 ?kB ?_ ?c2 ?c3 ?c4 ?c5; (case kA => exact rfl); (case kF => exact rfl); (case kK => exact hk); (case k6 => k_is); (case k7 => k_is); (case k8 => exact Nat.lt_of_succ_le (Nat.le_of_ble_eq_true rfl)); (case k9 => exact BindsTo.of_eq rfl); (case c5 => decide); (case kB => exact locs rfl); (case c2 => exact rfl); (case c3 => exact rfl); (case c4 => exact rfl))
  clear B F N X T
  intro g L' h₁ FG F N B X T
  dsimp only
  k_fold
  have hfm : ∀ x : Int, 0 ≤ x.fmod n ∧ x.fmod n < n := fun x => ⟨Int.fmod_nonneg_of_pos x hn, Int.fmod_lt_of_pos x hn⟩
  k_steps
  all_goals exact leaveK_ (R := fun r s' => match r with | .ok (.ret v) => Q v s' | .ok _ => False | .error e => E e s') (by k_asm) (by k_asm) fun F9 N9 => ret _ _ _ _ _ (hfm _).1 (hfm _).2 F9 N9
end Mine
end
section
local macro_rules | `(tactic| walk_at "pad 0") => `(tactic| skip)
open PySem PySem.W PyProof.Rows
set_option maxRecDepth 100000
set_option maxHeartbeats 8000000
namespace Mine
open PySem.Calls PySem.Spec
local macro_rules | `(tactic| ktr_rel) => `(tactic| first
  | exact IL.keeps (by with_reducible assumption) (Fr.keep (by k_asm))
  | exact RL.keeps (by with_reducible assumption) (Fr.keep (by k_asm))
  | exact BL.keeps (by with_reducible assumption) (Fr.keep (by k_asm))
  | exact IL.keeps (RowsAre.at (by with_reducible assumption) (by with_reducible assumption)) (Fr.keep (by k_asm))
  | exact ILn.il (by k_asm) (by with_reducible assumption)
  | exact ILn.il (by k_asm) ⟨_, _, by k_mem, by with_reducible assumption⟩
  | exact ILn.il (by k_asm) ⟨[], _, by k_mem, IntsAre.nil⟩)
local macro_rules | `(tactic| walk_at "call builtin:len") => `(tactic| (k_here; (with_reducible show wpAny _ _ (call (Value.builtin "len") [Value.ref _]) _ _ _); k_dflt (first
  | (refine' len_r ?l ?c ?_; (case l => ktr_rel); (case c => omega); k_whole; intro _ _)
  | (refine' len_i ?l ?c ?_; (case l => ktr_rel); (case c => omega); k_whole; intro _ _))))
local macro_rules | `(tactic| walk_at "subscriptTail") => `(tactic| (k_here; (with_reducible show wpAny _ _ (subscriptTail _ _ (Value.ref _) (Value.int _ _)) _ _ _); k_dflt (first
  | (refine' item_i ?l ?a ?b ?c ?_ ?z; (case l => ktr_rel); (case a => omega); (case b => omega); (case c => omega); (case z => with_unfolding_all rfl); k_whole; intro _)
  | (refine' item_b ?l ?a ?b ?c ?_ ?z; (case l => ktr_rel); (case a => omega); (case b => omega); (case c => omega); (case z => with_unfolding_all rfl); k_whole)
  | (refine' item_r ?l ?a ?b ?c ?_ ?z; (case l => ktr_rel); (case a => omega); (case b => omega); (case c => omega); (case z => with_unfolding_all rfl); k_whole; intro _ _))))
local macro_rules | `(tactic| walk_at "getItem ref int") => `(tactic| (k_here; (with_reducible show wpAny _ _ (getItem (Value.ref _) (Value.int _ _)) _ _ _); k_dflt (
  (refine' get_i ?l ?a ?b ?c ?_; (case l => ktr_rel); (case a => omega); (case b => omega); (case c => omega); k_whole; intro _))))
local macro_rules | `(tactic| walk_at "eval Name") => `(tactic| (k_here; k_dflt (refine' nameX_L ?F ?v ?_ ?a ?b; (case F => k_asm); (case a => rfl); (case b => rfl); (case v => assumption); k_whole)))
local macro_rules | `(tactic| walk_at "loadName") => `(tactic| (k_here; k_dflt (refine' load_L ?F ?v ?_ ?a ?b; (case F => k_asm); (case a => rfl); (case b => rfl); (case v => assumption); k_whole)))
local macro_rules | `(tactic| walk_at "compareOp Eq ref ref") => `(tactic| (k_here; k_dflt (refine' eq_i ?a ?b ?u ?_; (case a => ktr_rel); (case b => ktr_rel); (case u => k_units); k_whole)))
local macro_rules | `(tactic| walk_at "compareOp NotEq ref ref") => `(tactic| (k_here; k_dflt (refine' ne_i ?a ?b ?u ?_; (case a => ktr_rel); (case b => ktr_rel); (case u => k_units); k_whole)))
abbrev hEnv (L : Addr) : Env := envOfC "_law_held" (scopeOf (stm 8)) L 36 (.ref 35)

section
variable {w : World} {p : Program} {loose : List Str} {mean : ExcName → Option Value} {mg mb : Str → Option Value} 
    {env : Env} {base h₀ : Heap} {L : Addr} {m : Str → Option Value} {s : Shared}
    {aS aA aT : Addr} {sides told : List Int} {rows : List Addr} {after : List (List Int)} {Q E : Value → Shared → Prop}

def heldF (sides row free : List Int) (n : Int) : Bool := if gi sides n = 0 then decide (free.length = row.length) else decide (row = []) || !decide (free = [])
abbrev hpz (told : List Int) (n : Int) : Bool := decide (n < 0) || (gi told n == -1)
theorem held0 {Q : Flow → Shared → Prop} {oc : Obj} (B : Below (callerA.deeper env) base [env] h₀) (F : Fr h₀ L s.heap m) (X : (hd.heap_39 w.params).In h₀) (T : Top p loose mean mg mb h₀)
    (N : News h₀ L s.heap [(L + 1, oc)]) (hc : oc.data = .cell (some (.ref aT)))
    (hA : RL h₀ aA rows) (hR : RowsAre h₀ rows after) (hT : IL h₀ aT told)
    (hlen : after.length ≤ 10) (hrl : rows.length = after.length) (htl : told.length = after.length) {n : Int} {t : Tok} (n0 : 0 ≤ n) (n1 : n < after.length)
    (hrow : (after.getD n.toNat []).length ≤ 3) (hin : ∀ x ∈ after.getD n.toNat [], -1 ≤ x ∧ x < after.length)
    (ma : m "after" = some (.ref aA)) (mn : m "n" = some (.int n t))
    (ret : ∀ D ys h' tk', Fr h₀ L h' (fun z => if z = Str.ofString "free" then some (.ref D) else m z) → News h₀ L h' [(D, LCg.lst ys), (L + 1, oc)] → IntsAre ys ((after.getD n.toNat []).filter (hpz told)) → Q .next { s with heap := h', toks := tk' }) :
    wpAny (model prog w) ((callerA.deeper env).deeper (hEnv L)) (exec (sub2 8 0) (hEnv L)) Q NoE s := by
  have hj : n.toNat < rows.length := by omega
  have er : rows[n.toNat]? = some rows[n.toNat] := by simp [hj]
  obtain ⟨vs, hl, hi⟩ := hR _ _ er
  simp only [hEnv, scopeOf, sub2, stm, nthS, bodyOf, PySem.Challenge.pw_nt0417_01]
  refine LCt.Assign_ListComp_T (F₀ := F) (by rfl) (by with_unfolding_all rfl) (by rfl) (by decide) (by rfl) (by decide) (by rfl) (by rfl) (by rfl) ?_
  k_steps
  rename_i b hb
  rw [er] at hb
  cases hb
  have hlv := hi.length
  refine LCt.CompSrcT.base (by rfl) F N hl (by rw [List.size_toArray, sizeLine_eq]; omega) ?_
  intro g
  refine comp_filter (hpz told) hi (.inl hl) (fun _ => rfl) (fun _ => rfl) (by decide) ?_ ?_ _ 0 [] (by rw [Nat.zero_add, List.size_toArray]; exact hlv) .nil
  · intro k tk I oI C oC D oD m₂ h tk2 Q' E' hk hC hm F' N' hQ'
    obtain ⟨k0, k1⟩ := hin k hk
    clear F N
    k_steps
    · rw [show hpz told k = true by simp [hpz, *]] at hQ'
      exact hQ' _
    · rw [show hpz told k = true by simp [hpz, *]] at hQ'
      exact hQ' _
    · rw [show hpz told k = false by simp [hpz, *]] at hQ'
      exact hQ' _
  · intro ys hys
    unfold LCg.FinA
    intro D h tk F' N' _
    exact ret D ys h tk F' N' hys

theorem held1 {Q : Flow → Shared → Prop} {oc : Obj} {D : Addr} {ys : List Value} {free : List Int} (B : Below (callerA.deeper env) base [env] h₀) (F : Fr h₀ L s.heap m) (X : (hd.heap_39 w.params).In h₀) (T : Top p loose mean mg mb h₀)
    (N : News h₀ L s.heap [(D, LCg.lst ys), (L + 1, oc)]) (hy : IntsAre ys free) (hfl : free.length ≤ 3)
    (hS : IL h₀ aS sides) (hA : RL h₀ aA rows) (hR : RowsAre h₀ rows after)
    (hlen : after.length ≤ 10) (hrl : rows.length = after.length) (hsl : sides.length = after.length) {n : Int} {t : Tok} (n0 : 0 ≤ n) (n1 : n < after.length)
    (hrow : (after.getD n.toNat []).length ≤ 3)
    (ms : m "sides" = some (.ref aS)) (ma : m "after" = some (.ref aA)) (mn : m "n" = some (.int n t)) (mf : m "free" = some (.ref D))
    (ret : ∀ b h' tk', Fr h₀ L h' m → b = heldF sides (after.getD n.toNat []) free n → Q (.ret (.bool b)) { s with heap := h', toks := tk' }) :
    wpAny (model prog w) ((callerA.deeper env).deeper (hEnv L)) (execs [sub2 8 1, sub2 8 2] (hEnv L)) Q NoE s := by
  have hFr : ILn [(D, LCg.lst ys), (L + 1, oc)] D free := ⟨ys, _, .head _, hy⟩
  simp only [hEnv, scopeOf, sub2, stm, nthS, bodyOf, PySem.Challenge.pw_nt0417_01]
  k_steps
  · refine ret _ _ _ (by k_asm) ?_
    unfold heldF
    rw [if_pos (by assumption), Bool.eq_iff_iff]
    simp only [beq_iff_eq, decide_eq_true_eq]
    omega
  · have hz : gi sides n ≠ 0 := by assumption
    have hd : decide (after.getD n.toNat [] = []) = true := by assumption
    refine ret _ _ _ (by k_asm) ?_
    unfold heldF
    rw [if_neg hz, hd, Bool.true_or]
  · have hz : gi sides n ≠ 0 := by assumption
    have hd : decide (after.getD n.toNat [] = []) = false := by assumption
    refine ret _ _ _ (by k_asm) ?_
    unfold heldF
    rw [if_neg hz, hd, Bool.false_or]
theorem held_spec (B : Below callerA base [] h₀) (F : Fr h₀ L s.heap m) (X : (hd.heap_39 w.params).In h₀) (T : Top p loose mean mg mb h₀) (hf : env.frame = some L) (hke : env.scope.kind = .function)
    (hS : IL s.heap aS sides) (hA : RL s.heap aA rows) (hR : RowsAre s.heap rows after) (hT : IL s.heap aT told)
    (hlen : after.length ≤ 10) (hrl : rows.length = after.length) (htl : told.length = after.length) (hsl : sides.length = after.length) {n : Int} {t : Tok} (n0 : 0 ≤ n) (n1 : n < after.length)
    (hrow : (after.getD n.toNat []).length ≤ 3) (hin : ∀ x ∈ after.getD n.toNat [], -1 ≤ x ∧ x < after.length)
    (ret : ∀ h' tk', (∀ b o, s.heap.get? b = some o → h'.get? b = some o) → Q (.bool (heldF sides (after.getD n.toNat []) ((after.getD n.toNat []).filter (hpz told)) n)) { s with heap := h', toks := tk' }) :
    wpAny (model prog w) (callerA.deeper env) (call (.ref 36) [.ref aS, .ref aA, .ref aT, .int n t]) Q E s := by
  k_dflt (refine' call_pureC B F X T ?hA hf hke ?ho ?hcd ?hroom ?hbind ?hk ?hnd ?_ ?c1 ?c2 ?c3; (case hA => exact rfl); (case ho => k_is); (case hcd => k_is); (case hroom => exact Nat.lt_of_succ_le (Nat.le_of_ble_eq_true rfl)); (case hbind => exact BindsTo.of_eq rfl); (case hk => exact rfl); (case hnd => decide +kernel); (case c1 => exact rfl); (case c2 => exact rfl); (case c3 => exact rfl))
  clear B F X T
  · intro L' h₁ tk cells F N Y B X T
    k_cells Y
    rename_i oc hc
    show wpAny _ (Around.deeper _ (hEnv L')) (execs ([sub2 8 0] ++ [sub2 8 1, sub2 8 2]) (hEnv L')) _ _ _
    refine execs_append _ _ (execs_one (held0 B F X T N hc hA hR hT hlen hrl htl n0 n1 hrow hin rfl rfl fun D ys h2 tk2 F2 N2 hys => ?_))
    refine held1 B F2 X T N2 hys (Nat.le_trans (List.length_filter_le ..) hrow) hS hA hR hlen hrl hsl n0 n1 hrow rfl rfl rfl rfl fun b h3 tk3 F3 hb => ?_
    rw [hb]
    exact ret h3 tk3 F3.keep
end
end Mine
end
section
open PySem PySem.W PyProof.Rows
set_option maxRecDepth 100000
set_option maxHeartbeats 8000000
namespace Mine
open PySem.Calls PySem.Spec
structure MR (m : Str → Option Value) (aS aA aL : Addr) : Prop where
  sides : m "sides" = some (.ref aS)
  after : m "after" = some (.ref aA)
  lost : m "lost" = some (.ref aL)
theorem MR.set {m : Str → Option Value} {aS aA aL : Addr} (M : MR m aS aA aL) {x : Str} {v : Option Value} (hx : (["sides", "after", "lost"] : List Str).all (fun y => decide (y ≠ x)) = true) : MR (fun y => if y = x then v else m y) aS aA aL := by
  simp only [List.all_cons, List.all_nil, Bool.and_eq_true, decide_eq_true_eq, Bool.and_true] at hx
  obtain ⟨h1, h2, h3⟩ := hx
  exact ⟨by simpa [h1] using M.sides, by simpa [h2] using M.after, by simpa [h3] using M.lost⟩
structure R1 (nx : List (Addr × Obj)) (adr : List Addr) (c Tl : Addr) (told : List Int) : Prop where
  ad : nx.map (·.1) = adr
  cell : ∃ oc, (c, oc) ∈ nx ∧ oc.data = .cell (some (.ref Tl))
  t : ILn nx Tl told
  ne : c ≠ Tl
section
variable {prog : Program} {w : World} {A : Around} {E : Value → Shared → Prop} {s : Shared} {h₀ : Heap} {L : Addr} {m : Str → Option Value} {nx own : List (Addr × Obj)} {adr : List Addr} {c Tl : Addr} {told : List Int}
theorem R1.app {x : Int} {u : Tok} {Q : Value → Shared → Prop} (S : R1 nx adr c Tl told) (F : Fr h₀ L s.heap m) (N : News h₀ L s.heap (nx ++ own)) (off : OwnOff own adr) (hf : told.length ≤ 2 ^ 20)
    (h : ∀ h' nx', Fr h₀ L h' m → News h₀ L h' (nx' ++ own) → R1 nx' adr c Tl (told ++ [x]) → Q .none { s with heap := h' }) :
    wpAny (model prog w) A (call (.builtin "list.append") [.ref Tl, .int x u]) Q E s := by
  obtain ⟨vs, n, hm, hi⟩ := S.t
  obtain ⟨oc, hc, hd⟩ := S.cell
  have hl := hi.length
  exact app_core F N S.ad off hm (by omega) fun h' F' N' => h h' _ F' N' ⟨by rw [put_fst, S.ad], ⟨oc, put_ne S.ne hc, hd⟩, .put_at hm (hi.append (.cons _ _ .nil)), S.ne⟩
end

local macro_rules | `(tactic| ktr_rel) => `(tactic| first
  | exact IL.keeps (by with_reducible assumption) (Fr.keep (by k_asm))
  | exact RL.keeps (by with_reducible assumption) (Fr.keep (by k_asm))
  | exact BL.keeps (by with_reducible assumption) (Fr.keep (by k_asm))
  | exact IL.keeps (RowsAre.at (by with_reducible assumption) (by with_reducible assumption)) (Fr.keep (by k_asm))
  | exact ILn.il (by k_asm) (by with_reducible assumption)
  | exact ILn.il (by k_asm) ⟨_, _, by k_mem, by with_reducible assumption⟩
  | exact ILn.il (by k_asm) ⟨[], _, by k_mem, IntsAre.nil⟩)
local macro_rules | `(tactic| walk_at "call builtin:len") => `(tactic| (k_here; (with_reducible show wpAny _ _ (call (Value.builtin "len") [Value.ref _]) _ _ _); k_dflt (first
  | (refine' len_r ?l ?c ?_; (case l => ktr_rel); (case c => omega); k_whole; intro _ _)
  | (refine' len_i ?l ?c ?_; (case l => ktr_rel); (case c => omega); k_whole; intro _ _))))
local macro_rules | `(tactic| walk_at "subscriptTail") => `(tactic| (k_here; (with_reducible show wpAny _ _ (subscriptTail _ _ (Value.ref _) (Value.int _ _)) _ _ _); k_dflt (first
  | (refine' item_i ?l ?a ?b ?c ?_ ?z; (case l => ktr_rel); (case a => omega); (case b => omega); (case c => omega); (case z => with_unfolding_all rfl); k_whole; intro _)
  | (refine' item_b ?l ?a ?b ?c ?_ ?z; (case l => ktr_rel); (case a => omega); (case b => omega); (case c => omega); (case z => with_unfolding_all rfl); k_whole)
  | (refine' item_r ?l ?a ?b ?c ?_ ?z; (case l => ktr_rel); (case a => omega); (case b => omega); (case c => omega); (case z => with_unfolding_all rfl); k_whole; intro _ _))))
local macro_rules | `(tactic| walk_at "getItem ref int") => `(tactic| (k_here; (with_reducible show wpAny _ _ (getItem (Value.ref _) (Value.int _ _)) _ _ _); k_dflt (
  (refine' get_i ?l ?a ?b ?c ?_; (case l => ktr_rel); (case a => omega); (case b => omega); (case c => omega); k_whole; intro _))))
local macro_rules | `(tactic| walk_at "eval Name") => `(tactic| (k_here; k_dflt (refine' nameX_L ?F ?v ?_ ?a ?b; (case F => k_asm); (case a => rfl); (case b => rfl); (case v => assumption); k_whole)))
local macro_rules | `(tactic| walk_at "loadName") => `(tactic| (k_here; k_dflt (refine' load_L ?F ?v ?_ ?a ?b; (case F => k_asm); (case a => rfl); (case b => rfl); (case v => assumption); k_whole)))
local macro_rules | `(tactic| walk_at "compareOp Eq ref ref") => `(tactic| (k_here; k_dflt (refine' eq_i ?a ?b ?u ?_; (case a => ktr_rel); (case b => ktr_rel); (case u => k_units); k_whole)))
local macro_rules | `(tactic| walk_at "compareOp NotEq ref ref") => `(tactic| (k_here; k_dflt (refine' ne_i ?a ?b ?u ?_; (case a => ktr_rel); (case b => ktr_rel); (case u => k_units); k_whole)))
local macro_rules | `(tactic| walk_at "eval Name") => `(tactic| (k_here; k_dflt (refine' nameX_C ?N ?c ?m ?d ?_ ?a ?b; (case a => rfl); (case b => rfl); (case N => k_asm); (case c => rfl); (case m => first | with_reducible assumption | exact List.mem_append.mpr (.inl (by with_reducible assumption))); (case d => with_reducible assumption); k_whole)))
local macro_rules | `(tactic| walk_at "subscriptTail Name Slice ref ref") => `(tactic| (k_here; k_dflt (refine' kmk_slice_ints ?F ?N ?l ?p ?q ?i ?m ?c ?_ ?s ?t ?z; (case F => k_asm); (case N => k_asm); (case l => exact isList_news (by k_asm) (by with_reducible assumption)); (case p => kmk_part); (case q => kmk_part); (case i => with_reducible assumption); (case m => exact kmk_all (by with_reducible assumption)); (case c => rfl); (case s => with_unfolding_all rfl); (case t => kmk_pure); (case z => assumption)); intro D' ws' h' F' N' l1 hI' hC' hL'))
local macro_rules | `(tactic| walk_at "getMethod ref") => `(tactic| (k_here; k_dflt (refine' ILn.meth ?N ?x ?_; (case N => k_asm); (case x => with_reducible assumption); k_whole)))
local macro_rules | `(tactic| walk_at "call builtin:list.append") => `(tactic| (k_here; (with_reducible show wpAny _ _ (call (Value.builtin _) [Value.ref _, Value.int _ _]) _ _ _); k_dflt (
  (refine' R1.app ?S ?F ?N ?o ?c ?_; (case F => k_asm); (case N => k_asm); (case S => with_reducible assumption); (case o => with_reducible assumption); (case c => omega); k_whole; intro _ _ _ _ _))))
abbrev rEnv (L : Addr) : Env := envOfC "_law_rounds" (scopeOf (stm 7)) L 31 (.ref 30)
section
variable {w : World} {p : Program} {loose : List Str} {mean : ExcName → Option Value} {mg mb : Str → Option Value} 
    {env : Env} {base h₀ : Heap} {L : Addr} {m : Str → Option Value} {s : Shared} {nx own : List (Addr × Obj)} {adr : List Addr} {Tl Nw : Addr} {told now : List Int}
    {aS aA aL : Addr} {sides : List Int} {rows : List Addr} {after : List (List Int)} {lost : List Bool} {Q : Flow → Shared → Prop}

theorem r1body (B : Below (callerA.deeper env) base [env] h₀) (F : Fr h₀ L s.heap m) (X : (hd.heap_39 w.params).In h₀) (T : Top p loose mean mg mb h₀)
    (N : News h₀ L s.heap (nx ++ own)) (S : R1 nx adr (L + 1) Tl told) (off : OwnOff own adr) (hl : told.length ≤ 10) {b : Bool} (mm : m "mark" = some (.bool b))
    (ret : ∀ nx' h' tk', Fr h₀ L h' m → News h₀ L h' (nx' ++ own) → R1 nx' adr (L + 1) Tl (told ++ [if b then 0 else -1]) → Q .next { s with heap := h', toks := tk' }) :
    wpAny (model prog w) ((callerA.deeper env).deeper (rEnv L)) (execs (bodyOf (sub2 7 1)) (rEnv L)) Q NoE s := by
  obtain ⟨oc, hc, hd⟩ := S.cell
  have hTl := S.t
  simp only [rEnv, scopeOf, sub2, stm, nthS, bodyOf, PySem.Challenge.pw_nt0417_01]
  k_steps
  · rename b = true => hb
    subst hb
    exact ret _ _ _ (by assumption) (by assumption) (by assumption)
  · rename b = false => hb
    subst hb
    exact ret _ _ _ (by assumption) (by assumption) (by assumption)

theorem r1loop (B : Below (callerA.deeper env) base [env] h₀) (F : Fr h₀ L s.heap m) (X : (hd.heap_39 w.params).In h₀) (T : Top p loose mean mg mb h₀)
    (N : News h₀ L s.heap nx) (S : R1 nx adr (L + 1) Tl []) (M : MR m aS aA aL) (hL : BL h₀ aL lost) (hlen : lost.length ≤ 10)
    (ret : ∀ nx' m' h' tk', Fr h₀ L h' m' → MR m' aS aA aL → News h₀ L h' nx' → R1 nx' adr (L + 1) Tl (lost.map fun b => if b then 0 else -1) → Q .next { s with heap := h', toks := tk' }) :
    wpAny (model prog w) ((callerA.deeper env).deeper (rEnv L)) (exec (sub2 7 1) (rEnv L)) Q NoE s := by
  refine for_bools (x := "mark") (iter := iterOf (sub2 7 1)) (body := bodyOf (sub2 7 1)) (nx := nx) (m := m) (bs := lost)
    (fun k m' nx' => MR m' aS aA aL ∧ R1 nx' adr (L + 1) Tl ((lost.take k).map fun b => if b then 0 else -1))
    rfl rfl rfl ?_ F N hL ⟨M, by simpa using S⟩ ?_ ?_ (fun _ => rfl)
  · intro Q' hQ'
    obtain ⟨ms, ma, ml⟩ := M
    simp only [rEnv, scopeOf, sub2, stm, nthS, bodyOf, iterOf, PySem.Challenge.pw_nt0417_01]
    k_steps
    exact hQ' _
  · rintro k b m₁ nx₁ h tk own hk _ hoff ⟨M', S'⟩ F₁ N₁
    have off : OwnOff own adr := by rw [← S.ad]; exact hoff
    refine r1body B F₁ X T N₁ S' off (by simp only [List.length_map, List.length_take]; omega) upd_eq fun nx2 h2 tk2 F2 N2 S2 => ?_
    refine inv_end F2 N2 (S2.ad.trans S.ad.symm) ⟨M'.set (by decide), ?_⟩
    rw [List.take_add_one, hk]
    simpa using S2
  · rintro m₁ nx₁ h tk ⟨M', S'⟩ F₁ N₁
    rw [List.take_length] at S'
    exact ret nx₁ m₁ h tk F₁ M' N₁ S'

theorem r0 {oc : Obj} (B : Below (callerA.deeper env) base [env] h₀) (F : Fr h₀ L s.heap m) (X : (hd.heap_39 w.params).In h₀) (T : Top p loose mean mg mb h₀)
    (N : News h₀ L s.heap [(L + 1, oc)]) (hc : oc.data = .cell none)
    (ret : ∀ nx' adr Tl h' tk', Fr h₀ L h' m → News h₀ L h' nx' → R1 nx' adr (L + 1) Tl [] → Q .next { s with heap := h', toks := tk' }) :
    wpAny (model prog w) ((callerA.deeper env).deeper (rEnv L)) (exec (sub2 7 0) (rEnv L)) Q NoE s := by
  simp only [rEnv, scopeOf, sub2, stm, nthS, bodyOf, iterOf, PySem.Challenge.pw_nt0417_01]
  k_steps
  exact ret _ _ _ _ _ (by k_asm) (by k_asm) ⟨rfl, ⟨_, .tail _ (.head _), by assumption⟩, ⟨[], _, .head _, .nil⟩, Nat.ne_of_lt (by assumption)⟩

theorem r23 (B : Below (callerA.deeper env) base [env] h₀) (F : Fr h₀ L s.heap m) (X : (hd.heap_39 w.params).In h₀) (T : Top p loose mean mg mb h₀)
    (N : News h₀ L s.heap nx) (M : MR m aS aA aL)
    (ret : ∀ m' h' tk' t, Fr h₀ L h' m' → News h₀ L h' nx → MR m' aS aA aL → m' "count" = some (.int 0 t) → m' "found" = some (.bool true) → Q .next { s with heap := h', toks := tk' }) :
    wpAny (model prog w) ((callerA.deeper env).deeper (rEnv L)) (execs [sub2 7 2, sub2 7 3] (rEnv L)) Q NoE s := by
  simp only [rEnv, scopeOf, sub2, stm, nthS, bodyOf, iterOf, PySem.Challenge.pw_nt0417_01]
  k_steps
  exact ret _ _ _ _ (by k_asm) (by k_asm) ((M.set (by decide)).set (by decide)) (by rw [if_neg (by decide), if_pos rfl]) (by rw [if_pos rfl])

theorem rwa {k : Int} {t : Tok} (B : Below (callerA.deeper env) base [env] h₀) (F : Fr h₀ L s.heap m) (X : (hd.heap_39 w.params).In h₀) (T : Top p loose mean mg mb h₀)
    (N : News h₀ L s.heap nx) (S : R1 nx adr (L + 1) Tl told) (M : MR m aS aA aL) (mc : m "count" = some (.int k t)) (hl : told.length ≤ 10)
    (ret : ∀ m' h' tk' t Nw ws, Fr h₀ L h' m' → News h₀ L h' ((Nw, W.listOf (List.toArray ws) 0) :: nx) → IntsAre ws told → (∀ p ∈ nx, p.1 < Nw) → MR m' aS aA aL → m' "count" = some (.int (k + 1) t) → m' "found" = some (.bool false) → m' "now" = some (.ref Nw) → Q .next { s with heap := h', toks := tk' }) :
    wpAny (model prog w) ((callerA.deeper env).deeper (rEnv L)) (execs [sub3 7 4 0, sub3 7 4 1, sub3 7 4 2] (rEnv L)) Q NoE s := by
  obtain ⟨oc, hc, hd⟩ := S.cell
  obtain ⟨vs, n, hm, hi⟩ := S.t
  have hz : vs.toArray.size ≤ sizeLine := by have := hi.length; rw [List.size_toArray, sizeLine_eq]; omega
  simp only [rEnv, scopeOf, sub3, sub2, stm, nthS, bodyOf, iterOf, PySem.Challenge.pw_nt0417_01]
  k_steps
  exact ret _ _ _ _ _ _ (by k_asm) (by k_asm) (by assumption) (by assumption) (((M.set (by decide)).set (by decide)).set (by decide)) (by rw [if_neg (by decide), if_neg (by decide), if_pos rfl]) (by rw [if_neg (by decide), if_pos rfl]) (by rw [if_pos rfl])
end
end Mine
end
section
open PySem PySem.W PyProof.Rows
set_option maxRecDepth 100000
set_option maxHeartbeats 8000000
namespace Mine
open PySem.Calls PySem.Spec
structure RH (nx : List (Addr × Obj)) (adr : List Addr) (c Tl Nw : Addr) (told now : List Int) : Prop where
  ad : nx.map (·.1) = adr
  cell : ∃ oc, (c, oc) ∈ nx ∧ oc.data = .cell (some (.ref Tl))
  t : ILn nx Tl told
  n : ILn nx Nw now
  ne : c ≠ Tl ∧ c ≠ Nw ∧ Tl ≠ Nw
section
variable {prog : Program} {w : World} {A : Around} {E : Value → Shared → Prop} {s : Shared} {h₀ : Heap} {L : Addr} {m : Str → Option Value} {nx own led : List (Addr × Obj)} {adr : List Addr} {c Tl Nw : Addr} {told now : List Int}
theorem RH.set {k x : Int} {t u : Tok} {Q : Unit → Shared → Prop} (S : RH nx adr c Tl Nw told now) (F : Fr h₀ L s.heap m) (N : News h₀ L s.heap (nx ++ own)) (off : OwnOff own adr) (h0 : 0 ≤ k) (h1 : k < now.length) (hf : now.length ≤ 2 ^ 20)
    (h : ∀ h' nx', Fr h₀ L h' m → News h₀ L h' (nx' ++ own) → RH nx' adr c Tl Nw told (now.set k.toNat x) → Q () { s with heap := h' }) :
    wpAny (model prog w) A (setItem (.ref Nw) (.int k t) (.int x u)) Q E s := by
  obtain ⟨vs, n, hm, hi⟩ := S.n
  obtain ⟨oc, hc, hd⟩ := S.cell
  have hl := hi.length
  exact set_core F N S.ad off hm h0 (by omega) (by omega) fun h' F' N' => h h' _ F' N' ⟨by rw [put_fst, S.ad], ⟨oc, put_ne S.ne.2.1 hc, hd⟩, S.t.put_ne S.ne.2.2, .put_at hm (ints_set hi _), S.ne⟩
theorem store_cell {cn : Str} {cs : Scope} {a : Addr} {ccd : Value} {cl : List (Str × Addr)} {x : Str} {v : Value} {o : Obj} {v₀ : Option Value} {Q : Unit → Shared → Prop} (F : Fr h₀ L s.heap m) (N : News h₀ L s.heap led) (hc : cl.lookup x = some c) (hm : (c, o) ∈ led) (hd : o.data = .cell v₀)
    (h : ∀ h' o', Fr h₀ L h' m → News h₀ L h' (put c o' led) → o'.data = .cell (some v) → Q () { s with heap := h' })
    (hk : cs.kind = .function) (hx : (envX cn cs L a ccd cl).kindOf x = some .cell) : wpAny (model prog w) A (storeName (envX cn cs L a ccd cl) x v) Q E s := by
  refine wpAny_storeName_cell hk hx hc ⟨o, (N _ hm).1, hd⟩ fun h' hv hs => ?_
  obtain ⟨o', ho', hd'⟩ := hv
  have z := news_put2 (own := []) (adr := led.map (·.1)) F (by rw [List.append_nil]; exact N) rfl (fun _ hp => nomatch hp) hm hs ho'
  rw [List.append_nil] at z
  exact h h' o' z.1 z.2 hd'
end
local macro_rules | `(tactic| ktr_rel) => `(tactic| first
  | exact IL.keeps (by with_reducible assumption) (Fr.keep (by k_asm))
  | exact RL.keeps (by with_reducible assumption) (Fr.keep (by k_asm))
  | exact BL.keeps (by with_reducible assumption) (Fr.keep (by k_asm))
  | exact IL.keeps (RowsAre.at (by with_reducible assumption) (by with_reducible assumption)) (Fr.keep (by k_asm))
  | exact ILn.il (by k_asm) (by with_reducible assumption)
  | exact ILn.il (by k_asm) ⟨_, _, by k_mem, by with_reducible assumption⟩
  | exact ILn.il (by k_asm) ⟨[], _, by k_mem, IntsAre.nil⟩)
local macro_rules | `(tactic| walk_at "call builtin:len") => `(tactic| (k_here; (with_reducible show wpAny _ _ (call (Value.builtin "len") [Value.ref _]) _ _ _); k_dflt (first
  | (refine' len_r ?l ?c ?_; (case l => ktr_rel); (case c => omega); k_whole; intro _ _)
  | (refine' len_i ?l ?c ?_; (case l => ktr_rel); (case c => omega); k_whole; intro _ _))))
local macro_rules | `(tactic| walk_at "subscriptTail") => `(tactic| (k_here; (with_reducible show wpAny _ _ (subscriptTail _ _ (Value.ref _) (Value.int _ _)) _ _ _); k_dflt (first
  | (refine' item_i ?l ?a ?b ?c ?_ ?z; (case l => ktr_rel); (case a => omega); (case b => omega); (case c => omega); (case z => with_unfolding_all rfl); k_whole; intro _)
  | (refine' item_b ?l ?a ?b ?c ?_ ?z; (case l => ktr_rel); (case a => omega); (case b => omega); (case c => omega); (case z => with_unfolding_all rfl); k_whole)
  | (refine' item_r ?l ?a ?b ?c ?_ ?z; (case l => ktr_rel); (case a => omega); (case b => omega); (case c => omega); (case z => with_unfolding_all rfl); k_whole; intro _ _))))
local macro_rules | `(tactic| walk_at "getItem ref int") => `(tactic| (k_here; (with_reducible show wpAny _ _ (getItem (Value.ref _) (Value.int _ _)) _ _ _); k_dflt (
  (refine' get_i ?l ?a ?b ?c ?_; (case l => ktr_rel); (case a => omega); (case b => omega); (case c => omega); k_whole; intro _))))
local macro_rules | `(tactic| walk_at "eval Name") => `(tactic| (k_here; k_dflt (refine' nameX_L ?F ?v ?_ ?a ?b; (case F => k_asm); (case a => rfl); (case b => rfl); (case v => assumption); k_whole)))
local macro_rules | `(tactic| walk_at "loadName") => `(tactic| (k_here; k_dflt (refine' load_L ?F ?v ?_ ?a ?b; (case F => k_asm); (case a => rfl); (case b => rfl); (case v => assumption); k_whole)))
local macro_rules | `(tactic| walk_at "compareOp Eq ref ref") => `(tactic| (k_here; k_dflt (refine' eq_i ?a ?b ?u ?_; (case a => ktr_rel); (case b => ktr_rel); (case u => k_units); k_whole)))
local macro_rules | `(tactic| walk_at "compareOp NotEq ref ref") => `(tactic| (k_here; k_dflt (refine' ne_i ?a ?b ?u ?_; (case a => ktr_rel); (case b => ktr_rel); (case u => k_units); k_whole)))
local macro_rules | `(tactic| walk_at "eval Name") => `(tactic| (k_here; k_dflt (refine' nameX_C ?N ?c ?m ?d ?_ ?a ?b; (case a => rfl); (case b => rfl); (case N => k_asm); (case c => rfl); (case m => first | with_reducible assumption | exact List.mem_append.mpr (.inl (by with_reducible assumption))); (case d => with_reducible assumption); k_whole)))
local macro_rules | `(tactic| walk_at "subscriptTail Name Slice ref ref") => `(tactic| (k_here; k_dflt (refine' kmk_slice_ints ?F ?N ?l ?p ?q ?i ?m ?c ?_ ?s ?t ?z; (case F => k_asm); (case N => k_asm); (case l => exact isList_news (by k_asm) (by with_reducible assumption)); (case p => kmk_part); (case q => kmk_part); (case i => with_reducible assumption); (case m => exact kmk_all (by with_reducible assumption)); (case c => rfl); (case s => with_unfolding_all rfl); (case t => kmk_pure); (case z => assumption)); intro D' ws' h' F' N' l1 hI' hC' hL'))
local macro_rules | `(tactic| walk_at "getMethod ref") => `(tactic| (k_here; k_dflt (refine' ILn.meth ?N ?x ?_; (case N => k_asm); (case x => with_reducible assumption); k_whole)))
local macro_rules | `(tactic| walk_at "call builtin:list.append") => `(tactic| (k_here; (with_reducible show wpAny _ _ (call (Value.builtin _) [Value.ref _, Value.int _ _]) _ _ _); k_dflt (
  (refine' R1.app ?S ?F ?N ?o ?c ?_; (case F => k_asm); (case N => k_asm); (case S => with_reducible assumption); (case o => with_reducible assumption); (case c => omega); k_whole; intro _ _ _ _ _))))
local macro_rules | `(tactic| walk_at "setItem ref int") => `(tactic| (k_here; (with_reducible show wpAny _ _ (setItem (Value.ref _) (Value.int _ _) (Value.int _ _)) _ _ _); k_dflt (
  (refine' RH.set ?S ?F ?N ?o ?a ?b ?c ?_; (case F => k_asm); (case S => with_reducible assumption); (case o => with_reducible assumption); (case N => exact fun p hp => (by k_asm : News _ _ _ (_ :: _ :: _)) p (.tail _ (.tail _ hp))); (case a => omega); (case b => omega); (case c => omega); k_whole; intro _ _ _ _ _))))
local macro_rules | `(tactic| walk_at "storeName") => `(tactic| (k_here; k_dflt (refine' store_cell ?F ?N ?c ?m ?d ?_ ?a ?b; (case a => rfl); (case b => rfl); (case F => k_asm); (case N => k_asm); (case c => rfl); (case m => with_reducible assumption); (case d => with_reducible assumption); k_whole; intro _ _ _ _ _)))
section
variable {w : World} {p : Program} {loose : List Str} {mean : ExcName → Option Value} {mg mb : Str → Option Value} 
    {env : Env} {base h₀ : Heap} {L : Addr} {m : Str → Option Value} {s : Shared} {nx own : List (Addr × Obj)} {adr : List Addr} {Tl Nw : Addr} {told now : List Int}
    {aS aA aL : Addr} {sides : List Int} {rows : List Addr} {after : List (List Int)} {lost : List Bool} {Q : Flow → Shared → Prop}


def rStm (k : Nat) : Stmt := nthS k (bodyOf (sub4 7 4 3 0))
theorem rcomp (B : Below (callerA.deeper env) base [env] h₀) (F : Fr h₀ L s.heap m) (X : (hd.heap_39 w.params).In h₀) (T : Top p loose mean mg mb h₀)
    (N : News h₀ L s.heap (nx ++ own)) (S : RH nx adr (L + 1) Tl Nw told now) 
    (hA : RL h₀ aA rows) (hR : RowsAre h₀ rows after)
    (hlen : after.length ≤ 10) (hrl : rows.length = after.length) (htl : told.length = after.length) {n : Int} {t : Tok} (n0 : 0 ≤ n) (n1 : n < after.length)
    (hrow : (after.getD n.toNat []).length ≤ 3) (hin : ∀ x ∈ after.getD n.toNat [], -1 ≤ x ∧ x < after.length)
    (ma : m "after" = some (.ref aA)) (mn : m "n" = some (.int n t))
    (ret : ∀ D ys h' tk', Fr h₀ L h' (fun z => if z = Str.ofString "known" then some (.ref D) else m z) → News h₀ L h' ((D, LCg.lst ys) :: (nx ++ own)) → IntsAre ys ((after.getD n.toNat []).filter (rpz told)) → Q .next { s with heap := h', toks := tk' }) :
    wpAny (model prog w) ((callerA.deeper env).deeper (rEnv L)) (exec (rStm 0) (rEnv L)) Q NoE s := by
  have hj : n.toNat < rows.length := by omega
  have er : rows[n.toNat]? = some rows[n.toNat] := by simp [hj]
  obtain ⟨vs, hl, hi⟩ := hR _ _ er
  obtain ⟨oc, hcm, hcd⟩ := S.cell
  simp only [rEnv, rStm, scopeOf, sub4, sub3, sub2, stm, nthS, bodyOf, PySem.Challenge.pw_nt0417_01]
  refine LCt.Assign_ListComp_T (F₀ := F) (by rfl) (by with_unfolding_all rfl) (by rfl) (by decide) (by rfl) (by decide) (by rfl) (by rfl) (by rfl) ?_
  k_steps
  rename_i b hb
  rw [er] at hb
  cases hb
  have hlv := hi.length
  refine LCt.CompSrcT.base (by rfl) F N hl (by rw [List.size_toArray, sizeLine_eq]; omega) ?_
  intro g
  refine comp_filter (rpz told) hi (.inl hl) (fun _ => rfl) (fun _ => rfl) (by decide) ?_ ?_ _ 0 [] (by rw [Nat.zero_add, List.size_toArray]; exact hlv) .nil
  · intro k tk I oI C oC D oD m₂ h tk2 Q' E' hk hC hm F' N' hQ'
    obtain ⟨k0, k1⟩ := hin k hk
    have hcm' : (L + 1, oc) ∈ (I, oI) :: (C, oC) :: (D, oD) :: (nx ++ own) := .tail _ (.tail _ (.tail _ (List.mem_append.mpr (.inl hcm))))
    have hTl : ILn ((I, oI) :: (C, oC) :: (D, oD) :: (nx ++ own)) Tl told := S.t.sub fun _ hp => .tail _ (.tail _ (.tail _ (List.mem_append.mpr (.inl hp))))
    clear F N
    k_steps
    · rw [show rpz told k = true by simp [rpz, *]] at hQ'
      exact hQ' _
    · rw [show rpz told k = false by simp [rpz, *]] at hQ'
      exact hQ' _
    · rw [show rpz told k = false by simp [rpz, *]] at hQ'
      exact hQ' _
  · intro ys hys
    unfold LCg.FinA
    intro D h tk F' N' _
    exact ret D ys h tk F' N' hys

theorem rif {D : Addr} {ys : List Value} {known : List Int} {k : Int} {n : Int} {t tc : Tok} (B : Below (callerA.deeper env) base [env] h₀) (F : Fr h₀ L s.heap m) (X : (hd.heap_39 w.params).In h₀) (T : Top p loose mean mg mb h₀)
    (N : News h₀ L s.heap ((D, LCg.lst ys) :: (nx ++ own))) (S : RH nx adr (L + 1) Tl Nw told now) (off : OwnOff own adr) (hy : IntsAre ys known) (hfl : known.length ≤ 3)
    (hS : IL h₀ aS sides) (hA : RL h₀ aA rows) (hR : RowsAre h₀ rows after)
    (hlen : after.length ≤ 10) (hrl : rows.length = after.length) (hsl : sides.length = after.length) (hnl : now.length = after.length) (n0 : 0 ≤ n) (n1 : n < after.length)
    (hrow : (after.getD n.toNat []).length ≤ 3)
    (M : MR m aS aA aL) (mn : m "n" = some (.int n t)) (mf : m "known" = some (.ref D)) (mw : m "now" = some (.ref Nw)) (mc : m "count" = some (.int k tc))
    (ret1 : ∀ nx' h' tk', known ≠ [] ∧ (gi sides n = 0 ∨ known.length = (after.getD n.toNat []).length) → Fr h₀ L h' (fun y => if y = Str.ofString "found" then some (.bool true) else m y) → News h₀ L h' (nx' ++ own) → RH nx' adr (L + 1) Tl Nw told (now.set n.toNat k) → Q .next { s with heap := h', toks := tk' })
    (ret0 : ∀ h' tk', ¬ (known ≠ [] ∧ (gi sides n = 0 ∨ known.length = (after.getD n.toNat []).length)) → Fr h₀ L h' m → News h₀ L h' (nx ++ own) → Q .next { s with heap := h', toks := tk' }) :
    wpAny (model prog w) ((callerA.deeper env).deeper (rEnv L)) (exec (rStm 1) (rEnv L)) Q NoE s := by
  obtain ⟨ms, ma, ml⟩ := M
  simp only [rEnv, rStm, scopeOf, sub4, sub3, sub2, stm, nthS, bodyOf, PySem.Challenge.pw_nt0417_01]
  k_steps
  · have hk : known = [] := of_decide_eq_true (by assumption)
    exact ret0 _ _ (fun h => h.1 hk) (by assumption) fun p hp => (by assumption : News _ _ _ (_ :: _ :: (nx ++ own))) p (.tail _ (.tail _ hp))
  · have hk : known ≠ [] := of_decide_eq_false (by assumption)
    exact ret1 _ _ _ ⟨hk, .inl (by assumption)⟩ (by assumption) (by assumption) (by assumption)
  · have hk : known ≠ [] := of_decide_eq_false (by assumption)
    have hkl : (known.length : Int) = ((after.getD n.toNat []).length : Int) := by assumption
    exact ret1 _ _ _ ⟨hk, .inr (by omega)⟩ (by assumption) (by assumption) (by assumption)
  · have hkl : (known.length : Int) ≠ ((after.getD n.toNat []).length : Int) := by assumption
    exact ret0 _ _ (fun h => h.2.elim (by assumption) (by omega)) (by assumption) fun p hp => (by assumption : News _ _ _ (_ :: _ :: (nx ++ own))) p (.tail _ (.tail _ hp))

theorem rtest {Q' : Bool → Shared → Prop} (B : Below (callerA.deeper env) base [env] h₀) (F : Fr h₀ L s.heap m) (X : (hd.heap_39 w.params).In h₀) (T : Top p loose mean mg mb h₀)
    (N : News h₀ L s.heap (nx ++ own)) (S : RH nx adr (L + 1) Tl Nw told now) (hl : told.length ≤ 10) {n : Int} {t : Tok} (n0 : 0 ≤ n) (n1 : n < told.length) (mn : m "n" = some (.int n t))
    (ret : ∀ tk, Q' (gi told n == -1) { s with toks := tk }) :
    wpAny (model prog w) ((callerA.deeper env).deeper (rEnv L)) (isTrue (iterOf (sub4 7 4 3 0)) (rEnv L) (eval (iterOf (sub4 7 4 3 0)) (rEnv L))) Q' NoE s := by
  obtain ⟨oc, hcm, hcd⟩ := S.cell
  have hTl : ILn (nx ++ own) Tl told := S.t.sub fun _ hp => List.mem_append.mpr (.inl hp)
  simp only [rEnv, scopeOf, sub4, sub3, sub2, stm, nthS, bodyOf, iterOf, PySem.Challenge.pw_nt0417_01]
  k_steps
  exact ret _

theorem rbody {k : Int} {tc : Tok} {σ : List Int × Bool} (B : Below (callerA.deeper env) base [env] h₀) (F : Fr h₀ L s.heap m) (X : (hd.heap_39 w.params).In h₀) (T : Top p loose mean mg mb h₀)
    (N : News h₀ L s.heap (nx ++ own)) (S : RH nx adr (L + 1) Tl Nw told σ.1) (off : OwnOff own adr)
    (hS : IL h₀ aS sides) (hA : RL h₀ aA rows) (hR : RowsAre h₀ rows after)
    (hlen : after.length ≤ 10) (hrl : rows.length = after.length) (hsl : sides.length = after.length) (htl : told.length = after.length) (hnl : σ.1.length = after.length) {i : Nat} {t : Tok} (i1 : i < after.length)
    (hrow : (after.getD i []).length ≤ 3) (hin : ∀ x ∈ after.getD i [], -1 ≤ x ∧ x < after.length)
    (M : MR m aS aA aL) (mn : m "n" = some (.int (i : Int) t)) (mw : m "now" = some (.ref Nw)) (mc : m "count" = some (.int k tc)) (mfo : m "found" = some (.bool σ.2))
    (ret : ∀ nx' m' h' tk', Fr h₀ L h' m' → News h₀ L h' (nx' ++ own) → MR m' aS aA aL → m' "now" = some (.ref Nw) → m' "count" = some (.int k tc) → m' "found" = some (.bool (rnd sides after told k σ i).2) →
      RH nx' adr (L + 1) Tl Nw told (rnd sides after told k σ i).1 → Q .next { s with heap := h', toks := tk' }) :
    wpAny (model prog w) ((callerA.deeper env).deeper (rEnv L)) (execs (bodyOf (sub3 7 4 3)) (rEnv L)) Q NoE s := by
  show wpAny _ _ (execs [sub4 7 4 3 0] _) _ _ _
  refine execs_one ?_
  refine wpAny_If (test := iterOf (sub4 7 4 3 0)) (body := bodyOf (sub4 7 4 3 0)) (orelse := []) ?_
  refine rtest B F X T N S (by omega) (n := (i : Int)) (by omega) (by omega) mn fun tk => ?_
  by_cases ht : gi told i = -1
  · rw [show (gi told i == -1) = true by simp [ht], if_pos rfl]
    show wpAny _ _ (execs [rStm 0, rStm 1] _) _ _ _
    refine wpAny_execs_cons (rcomp B F X T N S hA hR hlen hrl htl (n := (i : Int)) (by omega) (by omega) hrow hin M.after mn fun D ys h2 tk2 F2 N2 hys => ?_)
    have hle := Nat.le_trans (List.length_filter_le (rpz told) (after.getD i [])) hrow
    refine execs_one (rif (k := k) (n := (i : Int)) (known := (after.getD i []).filter (rpz told)) B F2 X T N2 S off hys hle hS hA hR hlen hrl hsl hnl (by omega) (by omega) hrow (M.set (by decide)) (upd_ne mn (by decide)) upd_eq (upd_ne mw (by decide)) (upd_ne mc (by decide)) ?_ ?_)
    · intro nx' h3 tk3 hr F3 N3 S3
      have e : rnd sides after told k σ i = (σ.1.set i k, true) := if_pos ⟨ht, hr⟩
      exact ret _ _ _ _ F3 N3 ((M.set (by decide)).set (by decide)) (by (repeat (first | rw [if_neg (by decide)] | dsimp only)); exact mw) (by (repeat (first | rw [if_neg (by decide)] | dsimp only)); exact mc) (by rw [e]; exact upd_eq) (by rw [e]; exact S3)
    · intro h3 tk3 hr F3 N3
      have e : rnd sides after told k σ i = σ := if_neg fun h => hr h.2
      exact ret _ _ _ _ F3 N3 (M.set (by decide)) (upd_ne mw (by decide)) (upd_ne mc (by decide)) (by rw [e]; exact upd_ne mfo (by decide)) (by rw [e]; exact S)
  · rw [show (gi told i == -1) = false by simp [ht], if_neg (by decide)]
    have e : rnd sides after told k σ i = σ := if_neg fun h => ht h.1
    exact wpAny_execs_nil (ret _ _ _ _ F N M mw mc (by rw [e]; exact mfo) (by rw [e]; exact S))

theorem rfor {k : Int} {tc : Tok} (B : Below (callerA.deeper env) base [env] h₀) (F : Fr h₀ L s.heap m) (X : (hd.heap_39 w.params).In h₀) (T : Top p loose mean mg mb h₀)
    (N : News h₀ L s.heap nx) (S : RH nx adr (L + 1) Tl Nw told told)
    (hS : IL h₀ aS sides) (hA : RL h₀ aA rows) (hR : RowsAre h₀ rows after)
    (hlen : after.length ≤ 10) (hrl : rows.length = after.length) (hsl : sides.length = after.length) (htl : told.length = after.length)
    (hrow : ∀ j, (after.getD j []).length ≤ 3) (hin : ∀ j, ∀ x ∈ after.getD j [], -1 ≤ x ∧ x < after.length)
    (M : MR m aS aA aL) (mw : m "now" = some (.ref Nw)) (mc : m "count" = some (.int k tc)) (mfo : m "found" = some (.bool false))
    (ret : ∀ nx' m' h' tk', Fr h₀ L h' m' → News h₀ L h' nx' → MR m' aS aA aL → m' "now" = some (.ref Nw) → m' "count" = some (.int k tc) → m' "found" = some (.bool (roundN sides after told k after.length).2) →
      RH nx' adr (L + 1) Tl Nw told (roundN sides after told k after.length).1 → Q .next { s with heap := h', toks := tk' }) :
    wpAny (model prog w) ((callerA.deeper env).deeper (rEnv L)) (exec (sub3 7 4 3) (rEnv L)) Q NoE s := by
  refine for_range (h₀ := h₀) (x := "n") (iter := iterOf (sub3 7 4 3)) (body := bodyOf (sub3 7 4 3)) (nx := nx) (m := m) (n := after.length)
    (fun c m' nx' => MR m' aS aA aL ∧ m' "now" = some (.ref Nw) ∧ m' "count" = some (.int k tc) ∧ m' "found" = some (.bool (roundN sides after told k c).2) ∧ RH nx' adr (L + 1) Tl Nw told (roundN sides after told k c).1)
    rfl rfl rfl (by omega) ?_ ⟨M, mw, mc, mfo, S⟩ ?_ ?_ (fun _ => rfl)
  · intro Q' hQ'
    obtain ⟨oc, hcm, hcd⟩ := S.cell
    have hTl : ILn nx Tl told := S.t
    simp only [rEnv, scopeOf, sub4, sub3, sub2, stm, nthS, bodyOf, iterOf, PySem.Challenge.pw_nt0417_01]
    k_steps
    rename_i R' F' N' _
    rw [htl] at R'
    exact hQ' _ _ _ _ _ _ F' N' R'
  · rintro c u m₁ nx₁ h tk own hk _ hoff ⟨M', mw', mc', mfo', S'⟩ F₁ N₁
    have off : OwnOff own adr := by rw [← S.ad]; exact hoff
    have hnl := roundN_length sides after told k c
    refine rbody B F₁ X T N₁ S' off hS hA hR hlen hrl hsl htl (by omega) hk (hrow _) (hin _) (M'.set (by decide)) upd_eq (upd_ne mw' (by decide)) (upd_ne mc' (by decide)) (upd_ne mfo' (by decide)) ?_
    intro nx2 m2 h2 tk2 F2 N2 M2 mw2 mc2 mfo2 S2
    refine inv_end F2 N2 (S2.ad.trans S.ad.symm) ⟨M2, mw2, mc2, ?_, ?_⟩
    · rw [roundN_succ]; exact mfo2
    · rw [roundN_succ]; exact S2
  · rintro m₁ nx₁ h tk ⟨M', mw', mc', mfo', S'⟩ F₁ N₁
    exact ret nx₁ m₁ h tk F₁ N₁ M' mw' mc' mfo' S'

theorem rlast (B : Below (callerA.deeper env) base [env] h₀) (F : Fr h₀ L s.heap m) (X : (hd.heap_39 w.params).In h₀) (T : Top p loose mean mg mb h₀)
    (N : News h₀ L s.heap nx) (S : RH nx adr (L + 1) Tl Nw told now) (mw : m "now" = some (.ref Nw))
    (ret : ∀ nx' h' tk', Fr h₀ L h' m → News h₀ L h' nx' → R1 nx' adr (L + 1) Nw now → Q .next { s with heap := h', toks := tk' }) :
    wpAny (model prog w) ((callerA.deeper env).deeper (rEnv L)) (exec (sub3 7 4 4) (rEnv L)) Q NoE s := by
  obtain ⟨oc, hcm, hcd⟩ := S.cell
  simp only [rEnv, scopeOf, sub4, sub3, sub2, stm, nthS, bodyOf, iterOf, PySem.Challenge.pw_nt0417_01]
  k_steps
  exact ret _ _ _ (by assumption) (by assumption) ⟨by rw [put_fst, S.ad], ⟨_, put_self hcm, by assumption⟩, S.n.put_ne S.ne.2.1.symm, S.ne.2.1⟩

theorem rwtest {b : Bool} {Q' : Bool → Shared → Prop} (B : Below (callerA.deeper env) base [env] h₀) (F : Fr h₀ L s.heap m) (X : (hd.heap_39 w.params).In h₀) (T : Top p loose mean mg mb h₀)
    (N : News h₀ L s.heap nx) (mfo : m "found" = some (.bool b)) (ret : ∀ tk, Q' b { s with toks := tk }) :
    wpAny (model prog w) ((callerA.deeper env).deeper (rEnv L)) (isTrue (iterOf (sub2 7 4)) (rEnv L) (eval (iterOf (sub2 7 4)) (rEnv L))) Q' NoE s := by
  simp only [rEnv, scopeOf, sub4, sub3, sub2, stm, nthS, bodyOf, iterOf, PySem.Challenge.pw_nt0417_01]
  k_steps
  exact ret _
theorem rret (B : Below (callerA.deeper env) base [env] h₀) (F : Fr h₀ L s.heap m) (X : (hd.heap_39 w.params).In h₀) (T : Top p loose mean mg mb h₀)
    (N : News h₀ L s.heap nx) (S : R1 nx adr (L + 1) Tl told) (ret : ∀ tk, Q (.ret (.ref Tl)) { s with toks := tk }) :
    wpAny (model prog w) ((callerA.deeper env).deeper (rEnv L)) (exec (sub2 7 5) (rEnv L)) Q NoE s := by
  obtain ⟨oc, hcm, hcd⟩ := S.cell
  simp only [rEnv, scopeOf, sub4, sub3, sub2, stm, nthS, bodyOf, iterOf, PySem.Challenge.pw_nt0417_01]
  k_steps
  exact ret _

theorem rwhile (P : Nat → List Int → Bool → Prop) (B : Below (callerA.deeper env) base [env] h₀) (F : Fr h₀ L s.heap m) (X : (hd.heap_39 w.params).In h₀) (T : Top p loose mean mg mb h₀)
    (N : News h₀ L s.heap nx) (S : R1 nx adr (L + 1) Tl told)
    (hS : IL h₀ aS sides) (hA : RL h₀ aA rows) (hR : RowsAre h₀ rows after)
    (hlen : after.length ≤ 10) (hrl : rows.length = after.length) (hsl : sides.length = after.length)
    (hrow : ∀ j, (after.getD j []).length ≤ 3) (hin : ∀ j, ∀ x ∈ after.getD j [], -1 ≤ x ∧ x < after.length)
    (M : MR m aS aA aL) {tc : Tok} (mc : m "count" = some (.int 0 tc)) (mfo : m "found" = some (.bool true))
    (hP : P 0 told true) (hz : ∀ k td b, P k td b → td.length = after.length) (hk : ∀ k td, P k td true → k ≤ after.length)
    (hs : ∀ k td, P k td true → P (k + 1) (roundN sides after td ((k : Int) + 1) after.length).1 (roundN sides after td ((k : Int) + 1) after.length).2)
    (ret : ∀ nx' m' h' tk' k td adr' Tl', Fr h₀ L h' m' → News h₀ L h' nx' → P k td false → R1 nx' adr' (L + 1) Tl' td → Q .next { s with heap := h', toks := tk' }) :
    wpAny (model prog w) ((callerA.deeper env).deeper (rEnv L)) (exec (sub2 7 4) (rEnv L)) Q NoE s := by
  refine while_inv (test := iterOf (sub2 7 4)) (body := bodyOf (sub2 7 4)) (n₀ := after.length + 1 - 0)
    (fun n m' nx' => ∃ (k : Nat) (td : List Int) (b : Bool) (adr : List Addr) (Tl : Addr) (t : Tok), n = after.length + 1 - k ∧ MR m' aS aA aL ∧ m' "count" = some (.int (k : Int) t) ∧ m' "found" = some (.bool b) ∧ P k td b ∧ R1 nx' adr (L + 1) Tl td) F N ⟨0, told, true, adr, Tl, tc, rfl, M, mc, mfo, hP, S⟩ ?_
  rintro n m₁ nx₁ h tk F₁ N₁ ⟨k, td, b, adr₁, Tl₁, t₁, rfl, M₁, mc₁, mfo₁, hP₁, S₁⟩
  have hl := hz _ _ _ hP₁
  refine rwtest B F₁ X T N₁ mfo₁ fun tk2 => ?_
  cases b with
  | false =>
    rw [if_neg (by decide)]
    exact ret nx₁ m₁ h tk2 k td adr₁ Tl₁ F₁ N₁ hP₁ S₁
  | true =>
    rw [if_pos rfl]
    have hkl := hk _ _ hP₁
    show wpAny _ _ (execs ([sub3 7 4 0, sub3 7 4 1, sub3 7 4 2] ++ [sub3 7 4 3, sub3 7 4 4]) _) _ _ _
    refine execs_append _ _ (rwa B F₁ X T N₁ S₁ M₁ mc₁ (by omega) fun m2 h2 tk3 t2 Nw ws F2 N2 hws hnw M2 mc2 mfo2 mw2 => ?_)
    obtain ⟨oc, hcm, hcd⟩ := S₁.cell
    obtain ⟨vs, nn, hm, hi⟩ := S₁.t
    have S2 : RH ((Nw, W.listOf (List.toArray ws) 0) :: nx₁) (((Nw, W.listOf (List.toArray ws) 0) :: nx₁).map (·.1)) (L + 1) Tl₁ Nw td td :=
      ⟨rfl, ⟨oc, .tail _ hcm, hcd⟩, ⟨vs, nn, .tail _ hm, hi⟩, ⟨ws, 0, .head _, hws⟩, S₁.ne, Nat.ne_of_lt (hnw _ hcm), Nat.ne_of_lt (hnw _ hm)⟩
    refine wpAny_execs_cons (rfor B F2 X T N2 S2 hS hA hR hlen hrl hsl hl hrow hin M2 mw2 mc2 mfo2 fun nx3 m3 h3 tk4 F3 N3 M3 mw3 mc3 mfo3 S3 => ?_)
    refine execs_one (rlast B F3 X T N3 S3 mw3 fun nx4 h4 tk5 F4 N4 S4 => ?_)
    exact while_end F4 N4 (n' := after.length + 1 - (k + 1)) (by omega) ⟨k + 1, _, _, _, Nw, t2, rfl, M3, by rw [mc3]; rfl, mfo3, hs _ _ hP₁, S4⟩
end

section
variable {w : World} {p : Program} {loose : List Str} {mean : ExcName → Option Value} {mg mb : Str → Option Value} 
    {env : Env} {base h₀ : Heap} {L : Addr} {m : Str → Option Value} {s : Shared}
    {aS aA aL : Addr} {sides : List Int} {rows : List Addr} {after : List (List Int)} {lost : List Bool} {Q E : Value → Shared → Prop}
theorem rounds_spec (P : Nat → List Int → Bool → Prop) (B : Below callerA base [] h₀) (F : Fr h₀ L s.heap m) (X : (hd.heap_39 w.params).In h₀) (T : Top p loose mean mg mb h₀) (hf : env.frame = some L) (hke : env.scope.kind = .function)
    (hS : IL s.heap aS sides) (hA : RL s.heap aA rows) (hR : RowsAre s.heap rows after) (hL : BL s.heap aL lost)
    (hlen : after.length ≤ 10) (hrl : rows.length = after.length) (hll : lost.length = after.length) (hsl : sides.length = after.length)
    (hrow : ∀ j, (after.getD j []).length ≤ 3) (hin : ∀ j, ∀ x ∈ after.getD j [], -1 ≤ x ∧ x < after.length)
    (hP : P 0 (lost.map fun b => if b then 0 else -1) true) (hz : ∀ k td b, P k td b → td.length = after.length) (hk : ∀ k td, P k td true → k ≤ after.length)
    (hs : ∀ k td, P k td true → P (k + 1) (roundN sides after td ((k : Int) + 1) after.length).1 (roundN sides after td ((k : Int) + 1) after.length).2)
    (ret : ∀ v vs n k td h' tk', (∀ b o, s.heap.get? b = some o → h'.get? b = some o) → s.heap.get? v = none → h'.get? v = some (W.listOf (List.toArray vs) n) → IntsAre vs td → P k td false → Q (.ref v) { s with heap := h', toks := tk' }) :
    wpAny (model prog w) (callerA.deeper env) (call (.ref 31) [.ref aS, .ref aA, .ref aL]) Q E s := by
  k_dflt (refine' call_pureC B F X T ?hA hf hke ?ho ?hcd ?hroom ?hbind ?hk ?hnd ?_ ?c1 ?c2 ?c3; (case hA => exact rfl); (case ho => k_is); (case hcd => k_is); (case hroom => exact Nat.lt_of_succ_le (Nat.le_of_ble_eq_true rfl)); (case hbind => exact BindsTo.of_eq rfl); (case hk => exact rfl); (case hnd => decide +kernel); (case c1 => exact rfl); (case c2 => exact rfl); (case c3 => exact rfl))
  clear B F X T
  · intro L' h₁ tk cells F N Y B X T
    k_cells Y
    rename_i oc hc
    show wpAny _ (Around.deeper _ (rEnv L')) (execs [sub2 7 0, sub2 7 1, sub2 7 2, sub2 7 3, sub2 7 4, sub2 7 5] (rEnv L')) _ _ _
    refine wpAny_execs_cons (r0 B F X T N hc fun nx1 adr Tl h2 tk2 F1 N1 S1 => ?_)
    refine wpAny_execs_cons (r1loop B F1 X T N1 S1 ⟨rfl, rfl, rfl⟩ hL (by omega) fun nx2 m2 h2 tk2 F2 M2 N2 S2 => ?_)
    show wpAny _ _ (execs ([sub2 7 2, sub2 7 3] ++ [sub2 7 4, sub2 7 5]) (rEnv L')) _ _ _
    refine execs_append _ _ (r23 B F2 X T N2 M2 fun m3 h3 tk3 t3 F3 N3 M3 mc3 mfo3 => ?_)
    refine wpAny_execs_cons (rwhile P B F3 X T N3 S2 hS hA hR hlen hrl hsl hrow hin M3 mc3 mfo3 hP hz hk hs fun nx4 m4 h4 tk4 k td adr4 Tl4 F4 N4 hPk S4 => ?_)
    refine execs_one (rret B F4 X T N4 S4 fun tk5 => ?_)
    obtain ⟨vs, n, hm, hi⟩ := S4.t
    exact ret Tl4 vs n k td h4 tk5 F4.keep (N4 _ hm).2.2 (N4 _ hm).1 hi hPk
end
end Mine
end
section
namespace Mine
open PySem PyProof.Rows

/-! ## The rounds, as sets of places -/
def ready (sides : List Int) (row : List Int) (S : Int → Prop) (n : Int) : Prop :=
  (gi sides n = 0 ∧ ∃ x ∈ row, 0 ≤ x ∧ S x) ∨ (gi sides n ≠ 0 ∧ row ≠ [] ∧ ∀ x ∈ row, 0 ≤ x ∧ S x)
theorem ready.mono {sides row : List Int} {S S' : Int → Prop} {n : Int} (h : ready sides row S n) (hs : ∀ x ∈ row, 0 ≤ x → S x → S' x) : ready sides row S' n := by
  rcases h with ⟨h1, x, hx, h2, h3⟩ | ⟨h1, h2, h3⟩
  · exact .inl ⟨h1, x, hx, h2, hs x hx h2 h3⟩
  · exact .inr ⟨h1, h2, fun x hx => ⟨(h3 x hx).1, hs x hx (h3 x hx).1 (h3 x hx).2⟩⟩
structure Gph where
  sides : List Int
  after : List (List Int)
  lost : List Bool
def Gph.size (g : Gph) : Int := (g.after.length : Nat)
structure Gph.Ok (g : Gph) : Prop where
  sl : g.sides.length = g.after.length
  ll : g.lost.length = g.after.length
  row : ∀ j, (g.after.getD j []).length ≤ 3
  inn : ∀ j, ∀ x ∈ g.after.getD j [], -1 ≤ x ∧ x < g.after.length
  few : g.after.length ≤ 10
def WW (g : Gph) : Nat → Int → Prop
  | 0, n => gb g.lost n = true
  | k + 1, n => WW g k n ∨ ready g.sides (gl g.after n) (WW g k) n
theorem WW.succ {g : Gph} {k : Nat} {n : Int} (h : WW g k n) : WW g (k + 1) n := .inl h
theorem WW.mono {g : Gph} {n : Int} {j : Nat} : ∀ {k : Nat}, WW g j n → j ≤ k → WW g k n
  | 0, h, hj => by
    have : j = 0 := by omega
    exact this ▸ h
  | k + 1, h, hj => by
    by_cases e : j = k + 1
    · exact e ▸ h
    · exact (WW.mono (k := k) h (by omega)).succ
structure Told (g : Gph) (t : List Int) : Prop where
  len : t.length = g.after.length
  lo : ∀ n, 0 ≤ n → n < g.size → -1 ≤ gi t n
  tells : ∀ n, 0 ≤ n → n < g.size → ∀ k : Nat, (0 ≤ gi t n ∧ gi t n ≤ k) ↔ WW g k n
theorem Told.unique {g : Gph} {t t' : List Int} (h : Told g t) (h' : Told g t') : t = t' := by
  refine List.ext_getElem (h.len.trans h'.len.symm) fun i h1 h2 => ?_
  have hi : i < g.after.length := h.len ▸ h1
  have n0 : (0 : Int) ≤ (i : Int) := by omega
  have n1 : (i : Int) < g.size := by unfold Gph.size; omega
  have e1 : gi t i = t[i] := by simp [gi, List.getD_eq_getElem?_getD, h1]
  have e2 : gi t' i = t'[i] := by simp [gi, List.getD_eq_getElem?_getD, h2]
  rw [← e1, ← e2]
  have a := h.tells i n0 n1
  have a' := h'.tells i n0 n1
  have l := h.lo i n0 n1
  have l' := h'.lo i n0 n1
  by_cases p : 0 ≤ gi t i
  · have q := (a' (gi t i).toNat).mpr ((a (gi t i).toNat).mp ⟨p, by omega⟩)
    have q' := (a (gi t' i).toNat).mpr ((a' (gi t' i).toNat).mp ⟨q.1, by omega⟩)
    omega
  · by_cases p' : 0 ≤ gi t' i
    · have q' := (a (gi t' i).toNat).mpr ((a' (gi t' i).toNat).mp ⟨p', by omega⟩)
      omega
    · omega

/-! ## Small things about lists -/
theorem gi_set {l : List Int} {n n' x : Int} (h0 : 0 ≤ n) (h1 : n < l.length) (h0' : 0 ≤ n') : gi (l.set n.toNat x) n' = if n' = n then x else gi l n' := by
  have hn : n.toNat < l.length := by omega
  unfold gi
  rw [List.getD_eq_getElem?_getD, List.getElem?_set]
  by_cases e : n' = n
  · subst e; simp [hn]
  · rw [if_neg (by omega), if_neg e, List.getD_eq_getElem?_getD]
theorem nodup_le : ∀ (l m : List Int), l.Nodup → (∀ x ∈ l, x ∈ m) → l.length ≤ m.length
  | [], _, _, _ => Nat.zero_le _
  | a :: l, m, hd, hs => by
    rw [List.nodup_cons] at hd
    have ha := hs a (.head _)
    have h := nodup_le l (m.erase a) hd.2 fun x hx => by
      have hne : x ≠ a := fun e => hd.1 (e ▸ hx)
      exact (List.mem_erase_of_ne hne).mpr (hs x (.tail _ hx))
    have hl := List.length_erase_of_mem ha
    have hp : 0 < m.length := List.length_pos_of_mem ha
    simp only [List.length_cons]
    omega
theorem ints_below (n : Nat) (l : List Int) (hd : l.Nodup) (h : ∀ x ∈ l, 0 ≤ x ∧ x < n) : l.length ≤ n := by
  have e := nodup_le l ((List.range n).map fun (i : Nat) => (i : Int)) hd fun x hx => by
    obtain ⟨h0, h1⟩ := h x hx
    exact List.mem_map.mpr ⟨x.toNat, List.mem_range.mpr (by omega), by omega⟩
  simpa using e
theorem gi_mem {l : List Int} {n : Int} (h0 : 0 ≤ n) (h1 : n < l.length) : gi l n ∈ l := by
  have hn : n.toNat < l.length := by omega
  unfold gi
  rw [List.getD_eq_getElem?_getD, List.getElem?_eq_getElem hn]
  exact List.getElem_mem hn
theorem mem_gi {l : List Int} {x : Int} (h : x ∈ l) : ∃ i : Nat, i < l.length ∧ gi l i = x := by
  obtain ⟨i, hi, e⟩ := List.getElem_of_mem h
  exact ⟨i, hi, by simp [gi, List.getD_eq_getElem?_getD, hi, e]⟩

/-! ## The plain rounds tell it -/
structure RInv (g : Gph) (k : Nat) (t : List Int) (b : Bool) : Prop where
  len : t.length = g.after.length
  lo : ∀ n, 0 ≤ n → n < g.size → -1 ≤ gi t n ∧ gi t n ≤ k
  tells : ∀ n, 0 ≤ n → n < g.size → ∀ j : Nat, j ≤ k → ((0 ≤ gi t n ∧ gi t n ≤ j) ↔ WW g j n)
  all : b = true → ∀ j : Nat, j < k → ((j : Int) + 1) ∈ t
  still : b = false → ∀ n, 0 ≤ n → n < g.size → ∀ j, WW g j n → WW g k n
theorem RInv.few {g : Gph} {k : Nat} {t : List Int} (h : RInv g k t true) : k ≤ g.after.length := by
  have e := nodup_le ((List.range k).map fun (j : Nat) => (j : Int) + 1) t ?_ fun x hx => ?_
  · simpa [h.len] using e
  · rw [List.nodup_iff_pairwise_ne, List.pairwise_map]
    exact (List.nodup_iff_pairwise_ne.mp List.nodup_range).imp fun {a b} hab e => hab (by omega)
  · obtain ⟨j, hj, rfl⟩ := List.mem_map.mp hx
    exact h.all rfl j (List.mem_range.mp hj)
theorem RInv.start {g : Gph} (ok : g.Ok) : RInv g 0 (g.lost.map fun b => if b then 0 else -1) true := by
  have key : ∀ n, 0 ≤ n → n < g.size → gi (g.lost.map fun b => if b then (0 : Int) else -1) n = if gb g.lost n then 0 else -1 := fun n h0 h1 => by
    have hn : n.toNat < g.lost.length := by have := ok.ll; unfold Gph.size at h1; omega
    simp [gi, gb, List.getD_eq_getElem?_getD, hn]
  refine ⟨by simp [ok.ll], fun n h0 h1 => ?_, fun n h0 h1 j hj => ?_, fun _ j hj => absurd hj (Nat.not_lt_zero _), fun h => by cases h⟩
  · rw [key n h0 h1]; split <;> omega
  · have e : j = 0 := by omega
    subst e
    rw [key n h0 h1]
    show _ ↔ gb g.lost n = true
    cases gb g.lost n <;> simp
end Mine
end
section
namespace Mine
open PySem PyProof.Rows

theorem readyR_iff {sides row t : List Int} {n : Int} : readyR sides row t n ↔ ready sides row (fun x => 0 ≤ gi t x) n := by
  have h1 : row.filter (rpz t) ≠ [] ↔ ∃ x ∈ row, 0 ≤ x ∧ 0 ≤ gi t x := by
    rw [Ne, List.filter_eq_nil_iff]
    simp only [rpz, Bool.and_eq_true, decide_eq_true_eq]
    constructor
    · intro h
      exact Classical.byContradiction fun hn => h fun x hx hp => hn ⟨x, hx, hp⟩
    · rintro ⟨x, hx, hp⟩ h
      exact h x hx hp
  have h2 : (row.filter (rpz t)).length = row.length ↔ ∀ x ∈ row, 0 ≤ x ∧ 0 ≤ gi t x := by
    rw [List.length_filter_eq_length_iff]
    simp only [rpz, Bool.and_eq_true, decide_eq_true_eq]
  unfold readyR ready
  rw [h1, h2]
  constructor
  · rintro ⟨⟨x, hx, hp⟩, h⟩
    by_cases hs : gi sides n = 0
    · exact .inl ⟨hs, x, hx, hp.1, hp.2⟩
    · exact .inr ⟨hs, List.ne_nil_of_mem hx, h.resolve_left hs⟩
  · rintro (⟨hs, x, hx, hp⟩ | ⟨hs, hr, h⟩)
    · exact ⟨⟨x, hx, hp⟩, .inl hs⟩
    · obtain ⟨x, hx⟩ := List.exists_mem_of_ne_nil row hr
      exact ⟨⟨x, hx, h x hx⟩, .inr h⟩

section
variable {g : Gph} {k : Nat} {t : List Int}
def cond (g : Gph) (t : List Int) (n : Int) : Prop := gi t n = -1 ∧ ready g.sides (gl g.after n) (fun x => 0 ≤ gi t x) n
theorem rnd_eq (c : Nat) (σ : List Int × Bool) : (cond g t c → rnd g.sides g.after t ((k : Int) + 1) σ c = (σ.1.set c ((k : Int) + 1), true)) ∧ (¬ cond g t c → rnd g.sides g.after t ((k : Int) + 1) σ c = σ) := by
  have e : (gi t c = -1 ∧ readyR g.sides (g.after.getD c []) t c) ↔ cond g t c := by
    unfold cond
    rw [readyR_iff]
    exact Iff.rfl
  constructor
  · intro h; exact if_pos (e.mpr h)
  · intro h; exact if_neg fun h' => h (e.mp h')
theorem roundN_tells (hl : t.length = g.after.length) : ∀ c : Nat, c ≤ g.after.length →
    (∀ n : Int, 0 ≤ n → n < g.size → (n < c → cond g t n → gi (roundN g.sides g.after t ((k : Int) + 1) c).1 n = (k : Int) + 1) ∧ (¬ (n < c ∧ cond g t n) → gi (roundN g.sides g.after t ((k : Int) + 1) c).1 n = gi t n)) ∧
    ((roundN g.sides g.after t ((k : Int) + 1) c).2 = true ↔ ∃ n : Int, 0 ≤ n ∧ n < c ∧ cond g t n)
  | 0, _ => ⟨fun n h0 h1 => ⟨fun h => by omega, fun _ => rfl⟩, ⟨fun h => (nomatch h), fun ⟨n, h0, h1, _⟩ => by omega⟩⟩
  | c + 1, hc => by
    obtain ⟨h1, h2⟩ := roundN_tells hl c (by omega)
    have hlen := roundN_length g.sides g.after t ((k : Int) + 1) c
    rw [roundN_succ]
    by_cases hcd : cond g t c
    · rw [(rnd_eq c _).1 hcd]
      refine ⟨fun n n0 n1 => ?_, ⟨fun _ => ⟨c, by omega, by omega, hcd⟩, fun _ => rfl⟩⟩
      have e := gi_set (l := (roundN g.sides g.after t ((k : Int) + 1) c).1) (n := (c : Int)) (n' := n) (x := (k : Int) + 1) (by omega) (by rw [hlen, hl]; omega) n0
      rw [Int.toNat_natCast] at e
      dsimp only
      rw [e]
      by_cases en : n = (c : Int)
      · rw [if_pos en]
        exact ⟨fun _ _ => rfl, fun h => absurd ⟨by omega, en ▸ hcd⟩ h⟩
      · rw [if_neg en]
        exact ⟨fun h hcn => (h1 n n0 n1).1 (by omega) hcn, fun h => (h1 n n0 n1).2 fun h' => h ⟨by omega, h'.2⟩⟩
    · rw [(rnd_eq c _).2 hcd]
      refine ⟨fun n n0 n1 => ?_, ?_⟩
      · constructor
        · intro h hcn
          have en : n ≠ (c : Int) := fun e => hcd (e ▸ hcn)
          exact (h1 n n0 n1).1 (by omega) hcn
        · intro h
          exact (h1 n n0 n1).2 fun h' => h ⟨by omega, h'.2⟩
      · rw [h2]
        constructor
        · rintro ⟨n, a, b, d⟩; exact ⟨n, a, by omega, d⟩
        · rintro ⟨n, a, b, d⟩
          have en : n ≠ (c : Int) := fun e => hcd (e ▸ d)
          exact ⟨n, a, by omega, d⟩

theorem RInv.step (ok : g.Ok) (h : RInv g k t true) : RInv g (k + 1) (roundN g.sides g.after t ((k : Int) + 1) g.after.length).1 (roundN g.sides g.after t ((k : Int) + 1) g.after.length).2 := by
  obtain ⟨h1, h2⟩ := roundN_tells (k := k) h.len g.after.length (Nat.le_refl _)
  have hlen := roundN_length g.sides g.after t ((k : Int) + 1) g.after.length
  generalize hr : roundN g.sides g.after t ((k : Int) + 1) g.after.length = r at h1 h2 hlen ⊢
  have up : ∀ n, 0 ≤ n → n < g.size → (0 ≤ gi t n ↔ WW g k n) := fun n n0 n1 => by
    have a := h.tells n n0 n1 k (Nat.le_refl _)
    have b := h.lo n n0 n1
    exact ⟨fun p => a.mp ⟨p, b.2⟩, fun w => (a.mpr w).1⟩
  have rin : ∀ n, ∀ x ∈ gl g.after n, 0 ≤ x → x < g.size := fun n x hx _ => (ok.inn n.toNat x hx).2
  have rw1 : ∀ n, ready g.sides (gl g.after n) (fun x => 0 ≤ gi t x) n ↔ ready g.sides (gl g.after n) (WW g k) n := fun n =>
    ⟨fun r => r.mono fun x hx x0 p => (up x x0 (rin n x hx x0)).mp p, fun r => r.mono fun x hx x0 p => (up x x0 (rin n x hx x0)).mpr p⟩
  have cnd : ∀ n, 0 ≤ n → n < g.size → (cond g t n ↔ ¬ WW g k n ∧ ready g.sides (gl g.after n) (WW g k) n) := fun n n0 n1 => by
    unfold cond
    rw [rw1]
    have a := up n n0 n1
    have b := (h.lo n n0 n1).1
    constructor
    · rintro ⟨p, r⟩; exact ⟨fun w => by have := a.mpr w; omega, r⟩
    · rintro ⟨p, r⟩
      refine ⟨?_, r⟩
      by_cases q : 0 ≤ gi t n
      · exact absurd (a.mp q) p
      · omega
  have val : ∀ n, 0 ≤ n → n < g.size → (cond g t n ∧ gi r.1 n = (k : Int) + 1) ∨ (¬ cond g t n ∧ gi r.1 n = gi t n) := fun n n0 n1 => by
    by_cases c : cond g t n
    · exact .inl ⟨c, (h1 n n0 n1).1 n1 c⟩
    · exact .inr ⟨c, (h1 n n0 n1).2 fun h' => c h'.2⟩
  refine ⟨hlen.trans h.len, fun n n0 n1 => ?_, fun n n0 n1 j hj => ?_, fun hb j hj => ?_, fun hb n n0 n1 j hw => ?_⟩
  · have b := h.lo n n0 n1
    rcases val n n0 n1 with ⟨_, e⟩ | ⟨_, e⟩ <;> rw [e] <;> omega
  · rcases val n n0 n1 with ⟨c, e⟩ | ⟨c, e⟩
    · obtain ⟨c1, c2⟩ := (cnd n n0 n1).mp c
      rw [e]
      constructor
      · intro p
        have : j = k + 1 := by omega
        subst this
        exact .inr c2
      · intro w
        refine ⟨by omega, ?_⟩
        by_cases q : j ≤ k
        · exact absurd (w.mono q) c1
        · omega
    · rw [e]
      have b := h.lo n n0 n1
      by_cases q : j ≤ k
      · exact h.tells n n0 n1 j q
      · have : j = k + 1 := by omega
        subst this
        constructor
        · intro p
          exact ((up n n0 n1).mp p.1).succ
        · intro w
          have wk : WW g k n := w.elim id fun r => Classical.byContradiction fun hn => c ((cnd n n0 n1).mpr ⟨hn, r⟩)
          have := (up n n0 n1).mpr wk
          exact ⟨this, by omega⟩
  · by_cases q : j = k
    · subst q
      obtain ⟨n, n0, n1, c⟩ := h2.mp hb
      have e := (h1 n n0 n1).1 n1 c
      rw [← e]
      exact gi_mem n0 (by rw [hlen, h.len]; exact n1)
    · obtain ⟨i, hi, e⟩ := mem_gi (h.all rfl j (by omega))
      have i1 : (i : Int) < g.size := by unfold Gph.size; rw [← h.len]; omega
      rcases val i (by omega) i1 with ⟨c, _⟩ | ⟨_, e'⟩
      · have := c.1; omega
      · rw [← e, ← e']
        exact gi_mem (by omega) (by rw [hlen]; omega)
  · have no : ∀ n, 0 ≤ n → n < g.size → ¬ cond g t n := fun n n0 n1 c => by
      have := h2.mpr ⟨n, n0, n1, c⟩
      rw [hb] at this
      cases this
    have all : ∀ j n, 0 ≤ n → n < g.size → WW g j n → WW g k n := by
      intro j
      induction j with
      | zero => exact fun n _ _ w => w.mono (Nat.zero_le _)
      | succ j ih =>
        intro n n0 n1 w
        rcases w with w | rd
        · exact ih n n0 n1 w
        · have rd' := rd.mono fun x hx x0 p => ih x x0 (rin n x hx x0) p
          exact Classical.byContradiction fun hn => no n n0 n1 ((cnd n n0 n1).mpr ⟨hn, rd'⟩)
    exact (all j n n0 n1 hw).succ
theorem RInv.told (h : RInv g k t false) : Told g t := by
  refine ⟨h.len, fun n n0 n1 => (h.lo n n0 n1).1, fun n n0 n1 j => ?_⟩
  by_cases q : j ≤ k
  · exact h.tells n n0 n1 j q
  · have a := h.tells n n0 n1 k (Nat.le_refl _)
    have b := h.lo n n0 n1
    constructor
    · intro p; exact (a.mp ⟨p.1, b.2⟩).mono (by omega)
    · intro w
      have := a.mpr (h.still rfl n n0 n1 j w)
      exact ⟨this.1, by omega⟩
end
end Mine
end
section
namespace Mine
open PySem PyProof.Rows

structure PInv (g : Gph) (k : Nat) (σ : St) : Prop where
  vl : σ.vals.length = g.after.length
  ll : σ.left.length = g.after.length
  bl : σ.bv.length = g.after.length
  kq : k ≤ σ.qu.length
  qd : σ.qu.Nodup
  qv : ∀ n, n ∈ σ.qu ↔ 0 ≤ n ∧ n < g.size ∧ 0 ≤ gi σ.vals n
  lo : ∀ n, 0 ≤ n → n < g.size → -1 ≤ gi σ.vals n
  lf : ∀ n, 0 ≤ n → n < g.size → gi σ.left n = ((gl g.after n).length : Int) - ((gl g.after n).countP fun x => decide (x ∈ σ.qu.take k) : Nat)
  bc : ∀ m n, 0 ≤ m → m < g.size → (gl σ.bv m).count n = if 0 ≤ n ∧ n < g.size then (gl g.after n).count m else 0
  br : ∀ j, (σ.bv.getD j []).length ≤ 1000
  so : ∀ i j : Nat, i ≤ j → j < σ.qu.length → gi σ.vals (gi σ.qu i) ≤ gi σ.vals (gi σ.qu j)
  hi : ∀ i j : Nat, i < σ.qu.length → j < σ.qu.length → k ≤ i + 1 → gi σ.vals (gi σ.qu j) ≤ gi σ.vals (gi σ.qu i) + 1
  rk : ∀ n, 0 ≤ n → n < g.size → 0 ≤ gi σ.vals n → ∀ j : Nat, gi σ.vals n ≤ j ↔ WW g j n
  i0 : ∀ n, 0 ≤ n → n < g.size → gb g.lost n = true → 0 ≤ gi σ.vals n
  i2 : ∀ n, 0 ≤ n → n < g.size → gi σ.vals n = -1 → ¬ ready g.sides (gl g.after n) (fun x => x ∈ σ.qu.take k) n

structure Mid (g : Gph) (σ₀ : St) (m : Int) (pre : List Int) (σ : St) (ad : List Int) : Prop where
  vl : σ.vals.length = g.after.length
  ll : σ.left.length = g.after.length
  bv : σ.bv = σ₀.bv
  qu : σ.qu = σ₀.qu ++ ad
  lf : ∀ n, 0 ≤ n → n < g.size → gi σ.left n = gi σ₀.left n - (pre.count n : Nat)
  va : ∀ n, 0 ≤ n → n < g.size → gi σ.vals n = if n ∈ ad then gi σ₀.vals m + 1 else gi σ₀.vals n
  nd : ad.Nodup
  a1 : ∀ n ∈ ad, 0 ≤ n ∧ n < g.size ∧ gi σ₀.vals n = -1 ∧ n ∈ pre ∧ (gi g.sides n = 0 ∨ gi σ₀.left n ≤ (pre.count n : Nat))
  a2 : ∀ n, 0 ≤ n → n < g.size → gi σ₀.vals n = -1 → n ∈ pre → (gi g.sides n = 0 ∨ gi σ₀.left n = (pre.count n : Nat)) → n ∈ ad

section
variable {g : Gph} {σ₀ σ : St} {m : Int} {pre ad : List Int}
theorem count_snoc (l : List Int) (n x : Int) : (l ++ [x]).count n = l.count n + if n = x then 1 else 0 := by
  rw [List.count_append, List.count_singleton]
  by_cases h : n = x
  · subst h; simp
  · have h' : ¬ x = n := fun e => h e.symm
    simp [h, h']
theorem Mid.step (M : Mid g σ₀ m pre σ ad) (m0 : 0 ≤ m) (m1 : m < g.size) (mv : 0 ≤ gi σ₀.vals m) {n : Int} (n0 : 0 ≤ n) (n1 : n < g.size) : ∃ ad', Mid g σ₀ m (pre ++ [n]) (inQ g.sides m σ n) ad' := by
  have nl : n < σ.left.length := by rw [M.ll]; exact n1
  have nv : n < σ.vals.length := by rw [M.vl]; exact n1
  have mad : m ∉ ad := fun h => by have := (M.a1 m h).2.2.1; omega
  have vm : gi σ.vals m = gi σ₀.vals m := by rw [M.va m m0 m1, if_neg mad]
  have hleft : ∀ n', 0 ≤ n' → n' < g.size → gi (σ.left.set n.toNat (gi σ.left n - 1)) n' = gi σ₀.left n' - ((pre ++ [n]).count n' : Nat) := fun n' a b => by
    rw [gi_set n0 nl a, count_snoc]
    by_cases e : n' = n
    · subst e; rw [if_pos rfl, if_pos rfl, M.lf _ a b]; omega
    · rw [if_neg e, if_neg e, M.lf _ a b]; omega
  by_cases hc : gi σ.vals n = -1 ∧ (gi g.sides n = 0 ∨ gi (σ.left.set n.toNat (gi σ.left n - 1)) n = 0)
  · have e : inQ g.sides m σ n = ⟨σ.vals.set n.toNat (gi σ.vals m + 1), σ.left.set n.toNat (gi σ.left n - 1), σ.bv, σ.qu ++ [n]⟩ := if_pos hc
    rw [e]
    have nad : n ∉ ad := fun h => by
      have h1 := M.va n n0 n1
      rw [if_pos h] at h1
      have := hc.1
      omega
    have v0 : gi σ₀.vals n = -1 := by
      have h1 := M.va n n0 n1
      rw [if_neg nad] at h1
      rw [← h1]; exact hc.1
    refine ⟨ad ++ [n], by simp [M.vl], by simp [M.ll], M.bv, by rw [M.qu, List.append_assoc], hleft, fun n' a b => ?_, ?_, fun n' h => ?_, fun n' a b c d f => ?_⟩
    · dsimp only
      rw [gi_set n0 nv a, vm]
      by_cases e : n' = n
      · rw [if_pos e, if_pos (List.mem_append.mpr (.inr (e ▸ .head _)))]
      · rw [if_neg e, M.va n' a b]
        by_cases h : n' ∈ ad
        · rw [if_pos h, if_pos (List.mem_append.mpr (.inl h))]
        · rw [if_neg h, if_neg fun h' => (List.mem_append.mp h').elim h fun h'' => e (List.mem_singleton.mp h'')]
    · rw [List.nodup_append]
      exact ⟨M.nd, by simp, fun a ha b hb => by rw [List.mem_singleton.mp hb]; exact fun e => nad (e ▸ ha)⟩
    · rcases List.mem_append.mp h with h | h
      · obtain ⟨q1, q2, q3, q4, q5⟩ := M.a1 n' h
        refine ⟨q1, q2, q3, List.mem_append.mpr (.inl q4), q5.imp id fun q => ?_⟩
        rw [count_snoc]; omega
      · have e := List.mem_singleton.mp h
        subst e
        refine ⟨n0, n1, v0, List.mem_append.mpr (.inr (.head _)), hc.2.imp id fun q => ?_⟩
        have := hleft n' n0 n1
        omega
    · by_cases e : n' = n
      · exact List.mem_append.mpr (.inr (e ▸ .head _))
      · refine List.mem_append.mpr (.inl (M.a2 n' a b c ?_ (f.imp id fun q => ?_)))
        · exact (List.mem_append.mp d).elim id fun h => absurd (List.mem_singleton.mp h) e
        · rw [count_snoc, if_neg e] at q; omega
  · have e : inQ g.sides m σ n = ⟨σ.vals, σ.left.set n.toNat (gi σ.left n - 1), σ.bv, σ.qu⟩ := if_neg hc
    rw [e]
    refine ⟨ad, M.vl, by simp [M.ll], M.bv, M.qu, hleft, M.va, M.nd, fun n' h => ?_, fun n' a b c d f => ?_⟩
    · obtain ⟨q1, q2, q3, q4, q5⟩ := M.a1 n' h
      refine ⟨q1, q2, q3, List.mem_append.mpr (.inl q4), q5.imp id fun q => ?_⟩
      rw [count_snoc]; omega
    · by_cases e : n' = n
      · subst e
        refine Classical.byContradiction fun hn => hc ⟨?_, f.imp id fun q => ?_⟩
        · rw [M.va n' a b, if_neg hn]; exact c
        · rw [hleft n' a b]; omega
      · refine M.a2 n' a b c ?_ (f.imp id fun q => ?_)
        · exact (List.mem_append.mp d).elim id fun h => absurd (List.mem_singleton.mp h) e
        · rw [count_snoc, if_neg e] at q; omega
theorem Mid.fold (m0 : 0 ≤ m) (m1 : m < g.size) (mv : 0 ≤ gi σ₀.vals m) : ∀ (post pre : List Int) (σ : St) (ad : List Int), Mid g σ₀ m pre σ ad → (∀ x ∈ post, 0 ≤ x ∧ x < g.size) →
    ∃ ad', Mid g σ₀ m (pre ++ post) (post.foldl (inQ g.sides m) σ) ad'
  | [], pre, σ, ad, M, _ => ⟨ad, by simpa using M⟩
  | n :: r, pre, σ, ad, M, h => by
    have hn := h n (.head _)
    obtain ⟨ad₁, M₁⟩ := M.step m0 m1 mv hn.1 hn.2
    obtain ⟨ad₂, M₂⟩ := Mid.fold m0 m1 mv r (pre ++ [n]) _ ad₁ M₁ fun x hx => h x (.tail _ hx)
    refine ⟨ad₂, ?_⟩
    rw [List.append_assoc] at M₂
    exact M₂
end
end Mine
end
section
namespace Mine
open PySem PyProof.Rows

theorem gi_get {l : List Int} {i : Nat} (h : i < l.length) : l[i]? = some (gi l i) := by simp [gi, List.getD_eq_getElem?_getD, h]
theorem mem_take {l : List Int} {k : Nat} {x : Int} : x ∈ l.take k ↔ ∃ i : Nat, i < k ∧ i < l.length ∧ gi l i = x := by
  rw [List.mem_iff_getElem?]
  constructor
  · rintro ⟨i, hi⟩
    rw [List.getElem?_take] at hi
    split at hi
    · have hl := (List.getElem?_eq_some_iff.mp hi).1
      rw [gi_get hl] at hi
      exact ⟨i, by assumption, hl, Option.some.inj hi⟩
    · cases hi
  · rintro ⟨i, hk, hl, e⟩
    exact ⟨i, by rw [List.getElem?_take, if_pos hk, gi_get hl, e]⟩
theorem gi_left {l r : List Int} {i : Nat} (h : i < l.length) : gi (l ++ r) i = gi l i := by
  simp [gi, List.getD_eq_getElem?_getD, List.getElem?_append_left h]
theorem gi_right {l r : List Int} {i : Nat} (h : l.length ≤ i) (h' : i < (l ++ r).length) : gi (l ++ r) i ∈ r := by
  have hr : i - l.length < r.length := by rw [List.length_append] at h'; omega
  have e : gi (l ++ r) i = r[i - l.length] := by
    simp [gi, List.getD_eq_getElem?_getD, List.getElem?_append_right h, hr]
  rw [e]; exact List.getElem_mem hr
theorem gi_inj {l : List Int} (nd : l.Nodup) {i j : Nat} (hi : i < l.length) (hj : j < l.length) (e : gi l i = gi l j) : i = j :=
  (List.getElem?_inj hi nd).mp (by rw [gi_get hi, gi_get hj, e])
theorem countP_snoc {P : List Int} {m : Int} (hm : m ∉ P) : ∀ row : List Int, (row.countP fun x => decide (x ∈ P ++ [m])) = (row.countP fun x => decide (x ∈ P)) + row.count m
  | [] => rfl
  | a :: r => by
    rw [List.countP_cons, List.countP_cons, List.count_cons, countP_snoc hm r]
    by_cases e : a = m
    · subst e; simp [hm]; omega
    · by_cases h : a ∈ P <;> simp [h, e] <;> omega

section
variable {g : Gph} {k : Nat} {σ : St}
theorem PInv.rowin (ok : g.Ok) (n : Int) : ∀ x ∈ gl g.after n, -1 ≤ x ∧ x < g.size := ok.inn n.toNat
theorem PInv.done (h : PInv g k σ) {n : Int} (hn : n ∈ σ.qu) (hv : ∀ i : Nat, k ≤ i → i < σ.qu.length → gi σ.vals n < gi σ.vals (gi σ.qu i)) : n ∈ σ.qu.take k := by
  obtain ⟨i, hi, e⟩ := mem_gi hn
  rw [mem_take]
  refine ⟨i, ?_, hi, e⟩
  by_cases q : i < k
  · exact q
  · have := hv i (by omega) hi
    rw [e] at this
    omega
/-- what is told in an earlier round than the head of the queue has been worked off -/
theorem PInv.early (ok : g.Ok) (h : PInv g k σ) (hk : k < σ.qu.length) : ∀ (j : Nat) (n : Int), 0 ≤ n → n < g.size → (j : Int) < gi σ.vals (gi σ.qu k) → WW g j n → n ∈ σ.qu.take k := by
  have last : ∀ (j : Nat) (n : Int), 0 ≤ n → n < g.size → (j : Int) < gi σ.vals (gi σ.qu k) → WW g j n → 0 ≤ gi σ.vals n → n ∈ σ.qu.take k := fun j n n0 n1 hj hw hv => by
    refine h.done ((h.qv n).mpr ⟨n0, n1, hv⟩) fun i hki hi => ?_
    have a := (h.rk n n0 n1 hv j).mpr hw
    have b := h.so k i hki hi
    omega
  intro j
  induction j with
  | zero =>
    intro n n0 n1 hj hw
    exact last 0 n n0 n1 hj hw (h.i0 n n0 n1 hw)
  | succ j ih =>
    intro n n0 n1 hj hw
    by_cases hv : 0 ≤ gi σ.vals n
    · exact last (j + 1) n n0 n1 hj hw hv
    · have hm : gi σ.vals n = -1 := by have := h.lo n n0 n1; omega
      rcases hw with hw | hr
      · exact ih n n0 n1 (by omega) hw
      · exact absurd (hr.mono fun x hx x0 w => ih x x0 (PInv.rowin ok n x hx).2 (by omega) w) (h.i2 n n0 n1 hm)
theorem PInv.found (ok : g.Ok) (h : PInv g k σ) (hk : k < σ.qu.length) {j : Nat} {n : Int} (n0 : 0 ≤ n) (n1 : n < g.size) (hj : (j : Int) ≤ gi σ.vals (gi σ.qu k)) (hw : WW g j n) : 0 ≤ gi σ.vals n := by
  cases j with
  | zero => exact h.i0 n n0 n1 hw
  | succ j =>
    by_cases hv : 0 ≤ gi σ.vals n
    · exact hv
    · have hm : gi σ.vals n = -1 := by have := h.lo n n0 n1; omega
      rcases hw with hw | hr
      · have := h.early ok hk j n n0 n1 (by omega) hw
        exact ((h.qv n).mp (List.mem_of_mem_take this)).2.2
      · exact absurd (hr.mono fun x hx x0 w => h.early ok hk j x x0 (PInv.rowin ok n x hx).2 (by omega) w) (h.i2 n n0 n1 hm)

theorem PInv.step (ok : g.Ok) (h : PInv g k σ) (hk : k < σ.qu.length) : PInv g (k + 1) (stepQ g.sides σ k) := by
  have mq : gi σ.qu k ∈ σ.qu := gi_mem (by omega) (by omega)
  obtain ⟨m0, m1, mv⟩ := (h.qv _).mp mq
  have early := h.early ok hk
  have found := fun {j : Nat} {n : Int} => h.found ok hk (j := j) (n := n)
  have hbm : ∀ x ∈ gl σ.bv (gi σ.qu k), 0 ≤ x ∧ x < g.size := fun x hx => by
    have hc := h.bc (gi σ.qu k) x m0 m1
    have hp : 0 < (gl σ.bv (gi σ.qu k)).count x := List.count_pos_iff.mpr hx
    by_cases q : 0 ≤ x ∧ x < g.size
    · exact q
    · rw [if_neg q] at hc; omega
  have M₀ : Mid g σ (gi σ.qu k) [] σ [] := ⟨h.vl, h.ll, rfl, by simp, fun n _ _ => by simp, fun n _ _ => by simp, List.nodup_nil, (by intro n hn; cases hn), (by intro n _ _ _ hn; cases hn)⟩
  obtain ⟨ad, M⟩ := Mid.fold m0 m1 mv (gl σ.bv (gi σ.qu k)) [] σ [] M₀ hbm
  rw [List.nil_append] at M
  change Mid g σ (gi σ.qu k) (gl σ.bv (gi σ.qu k)) (stepQ g.sides σ k) ad at M
  generalize hσ' : stepQ g.sides σ k = σ' at M ⊢
  have soK := fun i hki hi => h.so k i hki hi
  generalize hm : gi σ.qu k = m at *
  have rin := PInv.rowin ok
  have mP : m ∉ σ.qu.take k := fun hmem => by
    obtain ⟨i, hik, hil, e⟩ := mem_take.mp hmem
    have := gi_inj h.qd hil hk (e.trans hm.symm)
    omega
  have tk : σ'.qu.take (k + 1) = σ.qu.take k ++ [m] := by
    rw [M.qu, List.take_append_of_le_length (by omega), List.take_add_one, gi_get hk, hm]; rfl
  have hcnt : ∀ n, 0 ≤ n → n < g.size → (gl σ.bv m).count n = (gl g.after n).count m := fun n n0 n1 => by rw [h.bc m n m0 m1, if_pos ⟨n0, n1⟩]
  have hcp : ∀ n, ((gl g.after n).countP fun x => decide (x ∈ σ.qu.take k ++ [m])) = ((gl g.after n).countP fun x => decide (x ∈ σ.qu.take k)) + (gl g.after n).count m := fun n => countP_snoc mP _
  have hle : ∀ n, ((gl g.after n).countP fun x => decide (x ∈ σ.qu.take k ++ [m])) ≤ (gl g.after n).length := fun n => List.countP_le_length
  -- the places just added
  have vad : ∀ n ∈ ad, gi σ'.vals n = gi σ.vals m + 1 := fun n hn => by
    obtain ⟨a, b, _⟩ := M.a1 n hn
    rw [M.va n a b, if_pos hn]
  have vold : ∀ n, 0 ≤ n → n < g.size → n ∉ ad → gi σ'.vals n = gi σ.vals n := fun n a b hn => by rw [M.va n a b, if_neg hn]
  have nad : ∀ n, 0 ≤ gi σ.vals n → n ∉ ad := fun n hv hn => by have := (M.a1 n hn).2.2.1; omega
  -- values along the queue
  have vq : ∀ i : Nat, i < σ'.qu.length → (i < σ.qu.length ∧ gi σ'.vals (gi σ'.qu i) = gi σ.vals (gi σ.qu i)) ∨ (σ.qu.length ≤ i ∧ gi σ'.vals (gi σ'.qu i) = gi σ.vals m + 1) := fun i hi => by
    rw [M.qu] at hi ⊢
    by_cases q : i < σ.qu.length
    · refine .inl ⟨q, ?_⟩
      rw [gi_left q]
      obtain ⟨a, b, c⟩ := (h.qv _).mp (gi_mem (l := σ.qu) (n := (i : Int)) (by omega) (by omega))
      exact vold _ a b (nad _ c)
    · refine .inr ⟨by omega, ?_⟩
      exact vad _ (gi_right (by omega) hi)
  have vtop : ∀ i : Nat, i < σ.qu.length → gi σ.vals (gi σ.qu i) ≤ gi σ.vals m + 1 := fun i hi => by
    have := h.hi k i hk hi (by omega)
    rw [hm] at this; exact this
  have vlow : ∀ i : Nat, k ≤ i → i < σ.qu.length → gi σ.vals m ≤ gi σ.vals (gi σ.qu i) := fun i hki hi => soK i hki hi
  -- everything in the queue up to its head is told by the head's round
  have told : ∀ x, x ∈ σ.qu.take k ++ [m] → 0 ≤ x ∧ WW g (gi σ.vals m).toNat x := fun x hx => by
    have hxq : x ∈ σ.qu ∧ gi σ.vals x ≤ gi σ.vals m := by
      rcases List.mem_append.mp hx with hx | hx
      · obtain ⟨i, hik, hil, e⟩ := mem_take.mp hx
        refine ⟨List.mem_of_mem_take hx, ?_⟩
        have := h.so i k (by omega) hk
        rw [e, hm] at this; exact this
      · rw [List.mem_singleton.mp hx]; exact ⟨mq, Int.le_refl _⟩
    obtain ⟨a, b, c⟩ := (h.qv x).mp hxq.1
    exact ⟨a, (h.rk x a b c _).mp (by omega)⟩
  have readyAd : ∀ n ∈ ad, ready g.sides (gl g.after n) (WW g (gi σ.vals m).toNat) n := fun n hn => by
    obtain ⟨a, b, c, d, e⟩ := M.a1 n hn
    have hp : 0 < (gl σ.bv m).count n := List.count_pos_iff.mpr d
    rw [hcnt n a b] at hp
    have hmr : m ∈ gl g.after n := List.count_pos_iff.mp hp
    by_cases hs : gi g.sides n = 0
    · exact .inl ⟨hs, m, hmr, m0, (told m (List.mem_append.mpr (.inr (.head _)))).2⟩
    · refine .inr ⟨hs, List.ne_nil_of_mem hmr, fun x hx => ?_⟩
      have hl := e.resolve_left hs
      rw [h.lf n a b, hcnt n a b] at hl
      have h1 := hcp n
      have h2 := hle n
      have hall : ((gl g.after n).countP fun x => decide (x ∈ σ.qu.take k ++ [m])) = (gl g.after n).length := by omega
      have := List.countP_eq_length.mp hall x hx
      exact told x (of_decide_eq_true this)
  refine ⟨M.vl, M.ll, by rw [M.bv]; exact h.bl, by rw [M.qu, List.length_append]; omega, ?_, fun n => ?_, fun n n0 n1 => ?_, fun n n0 n1 => ?_, fun m' n a b => by rw [M.bv]; exact h.bc m' n a b, fun j => by rw [M.bv]; exact h.br j, fun i j hij hj => ?_, fun i j hi hj hki => ?_, fun n n0 n1 hv j => ?_, fun n n0 n1 hl => ?_, fun n n0 n1 hv => ?_⟩
  · rw [M.qu, List.nodup_append]
    refine ⟨h.qd, M.nd, fun a ha b hb e => ?_⟩
    subst e
    exact nad a ((h.qv a).mp ha).2.2 hb
  · rw [M.qu, List.mem_append]
    constructor
    · rintro (hn | hn)
      · obtain ⟨a, b, c⟩ := (h.qv n).mp hn
        exact ⟨a, b, by rw [vold n a b (nad n c)]; exact c⟩
      · obtain ⟨a, b, _⟩ := M.a1 n hn
        exact ⟨a, b, by rw [vad n hn]; omega⟩
    · rintro ⟨a, b, c⟩
      by_cases hn : n ∈ ad
      · exact .inr hn
      · rw [vold n a b hn] at c
        exact .inl ((h.qv n).mpr ⟨a, b, c⟩)
  · by_cases hn : n ∈ ad
    · rw [vad n hn]; omega
    · rw [vold n n0 n1 hn]; exact h.lo n n0 n1
  · rw [tk, M.lf n n0 n1, h.lf n n0 n1, hcnt n n0 n1, hcp n]
    omega
  · rcases vq i (by omega) with ⟨a, e⟩ | ⟨a, e⟩ <;> rcases vq j hj with ⟨b, f⟩ | ⟨b, f⟩ <;> rw [e, f]
    · exact h.so i j hij b
    · exact vtop i a
    · omega
    · exact Int.le_refl _
  · rcases vq i hi with ⟨a, e⟩ | ⟨a, e⟩ <;> rcases vq j hj with ⟨b, f⟩ | ⟨b, f⟩ <;> rw [e, f]
    · have h1 := vtop j b
      have h2 := vlow i (by omega) a
      omega
    · have h2 := vlow i (by omega) a
      omega
    · have h1 := vtop j b
      omega
    · omega
  · by_cases hn : n ∈ ad
    · rw [vad n hn]
      constructor
      · intro hj
        have hr : WW g ((gi σ.vals m).toNat + 1) n := .inr (readyAd n hn)
        exact hr.mono (by omega)
      · intro hw
        by_cases q : gi σ.vals m + 1 ≤ (j : Int)
        · exact q
        · have := found n0 n1 (j := j) (by omega) hw
          have := (M.a1 n hn).2.2.1
          omega
    · rw [vold n n0 n1 hn] at hv ⊢
      exact h.rk n n0 n1 hv j
  · have := h.i0 n n0 n1 hl
    rw [vold n n0 n1 (nad n this)]
    exact this
  · have hn : n ∉ ad := fun hn => by rw [vad n hn] at hv; omega
    rw [vold n n0 n1 hn] at hv
    rw [tk]
    intro hr
    have no := h.i2 n n0 n1 hv
    have hmr : m ∈ gl g.after n := Classical.byContradiction fun hmr => no (hr.mono fun x hx x0 hp => (List.mem_append.mp hp).elim id fun e => absurd ((List.mem_singleton.mp e) ▸ hx) hmr)
    have hnb : n ∈ gl σ.bv m := by
      have hp : 0 < (gl g.after n).count m := List.count_pos_iff.mpr hmr
      rw [← hcnt n n0 n1] at hp
      exact List.count_pos_iff.mp hp
    refine hn (M.a2 n n0 n1 hv hnb ?_)
    rcases hr with ⟨hs, _⟩ | ⟨hs, _, hall⟩
    · exact .inl hs
    · right
      have e : ((gl g.after n).countP fun x => decide (x ∈ σ.qu.take k ++ [m])) = (gl g.after n).length := List.countP_eq_length.mpr fun x hx => decide_eq_true (hall x hx).2
      have h1 := hcp n
      rw [h.lf n n0 n1, hcnt n n0 n1]
      omega
theorem PInv.told (ok : g.Ok) (h : PInv g k σ) (hk : σ.qu.length ≤ k) : Told g σ.vals := by
  have tk : σ.qu.take k = σ.qu := List.take_of_length_le hk
  have all : ∀ (j : Nat) (n : Int), 0 ≤ n → n < g.size → WW g j n → 0 ≤ gi σ.vals n := by
    intro j
    induction j with
    | zero => exact fun n n0 n1 hw => h.i0 n n0 n1 hw
    | succ j ih =>
      intro n n0 n1 hw
      by_cases hv : 0 ≤ gi σ.vals n
      · exact hv
      · have hm : gi σ.vals n = -1 := by have := h.lo n n0 n1; omega
        rcases hw with hw | hr
        · exact ih n n0 n1 hw
        · refine absurd (hr.mono fun x hx x0 w => ?_) (h.i2 n n0 n1 hm)
          rw [tk]
          have x1 := (PInv.rowin ok n x hx).2
          exact (h.qv x).mpr ⟨x0, x1, ih x x0 x1 w⟩
  refine ⟨h.vl, h.lo, fun n n0 n1 j => ?_⟩
  constructor
  · rintro ⟨a, b⟩
    exact (h.rk n n0 n1 a j).mp b
  · intro hw
    have a := all j n n0 n1 hw
    exact ⟨a, (h.rk n n0 n1 a j).mpr hw⟩
end
end Mine
end
section
namespace Mine
open PySem PyProof.Rows

theorem gl_set {l : List (List Int)} {n n' : Int} {x : List Int} (h0 : 0 ≤ n) (h1 : n < l.length) (h0' : 0 ≤ n') : gl (l.set n.toNat x) n' = if n' = n then x else gl l n' := by
  have hn : n.toNat < l.length := by omega
  unfold gl
  rw [List.getD_eq_getElem?_getD, List.getElem?_set]
  by_cases e : n' = n
  · subst e; simp [hn]
  · rw [if_neg (by omega), if_neg e, List.getD_eq_getElem?_getD]
theorem inRow_count {bv : List (List Int)} {i a m x : Int} (a0 : -1 ≤ a) (a1 : a < bv.length) (m0 : 0 ≤ m) : (gl (inRow i bv a) m).count x = (gl bv m).count x + if x = i ∧ m = a then 1 else 0 := by
  unfold inRow
  by_cases h : a = -1
  · rw [if_pos h, if_neg (fun h' => by omega)]; omega
  · rw [if_neg h, gl_set (by omega) a1 m0]
    by_cases e : m = a
    · subst e
      rw [if_pos rfl]
      show ((gl bv m) ++ [i]).count x = _
      rw [count_snoc]
      by_cases hx : x = i <;> simp [hx]
    · rw [if_neg e, if_neg (fun h' => e h'.2)]; omega
theorem rows_count {i m x : Int} (m0 : 0 ≤ m) : ∀ (r : List Int) (bv : List (List Int)), (∀ a ∈ r, -1 ≤ a ∧ a < bv.length) → (gl (r.foldl (inRow i) bv) m).count x = (gl bv m).count x + if x = i then r.count m else 0
  | [], bv, _ => by simp
  | a :: r, bv, h => by
    have ha := h a (.head _)
    rw [List.foldl_cons, rows_count m0 r (inRow i bv a) fun b hb => by rw [inRow_length]; exact h b (.tail _ hb), inRow_count ha.1 ha.2 m0, List.count_cons]
    by_cases hx : x = i
    · by_cases e : m = a
      · subst e; simp [hx]; omega
      · have e' : ¬ a = m := fun q => e q.symm
        simp [hx, e, e']
    · simp [hx]

structure SInv (g : Gph) (n : Nat) (σ : St) : Prop where
  va : ∀ x, 0 ≤ x → x < g.size → gi σ.vals x = if x < n ∧ gb g.lost x = true then 0 else -1
  lf : ∀ x : Int, 0 ≤ x → x < n → gi σ.left x = ((gl g.after x).length : Nat)
  bc : ∀ m x, 0 ≤ m → m < g.size → (gl σ.bv m).count x = if 0 ≤ x ∧ x < n then (gl g.after x).count m else 0
  qd : σ.qu.Nodup
  qv : ∀ x : Int, x ∈ σ.qu ↔ 0 ≤ x ∧ x < n ∧ gb g.lost x = true
theorem sInv {g : Gph} (ok : g.Ok) : ∀ n : Nat, n ≤ g.after.length → SInv g n (start g.after g.lost n)
  | 0, _ => by
    refine ⟨fun x x0 x1 => ?_, fun x x0 x1 => by omega, fun m x m0 m1 => ?_, List.nodup_nil, fun x => ?_⟩
    · have hx : x.toNat < g.after.length := by unfold Gph.size at x1; omega
      rw [if_neg (fun h => by omega)]
      simp [start, init, gi, List.getD_eq_getElem?_getD, hx]
    · rw [if_neg (fun h => by omega)]
      have hm : m.toNat < g.after.length := by unfold Gph.size at m1; omega
      simp [start, init, gl, List.getD_eq_getElem?_getD, hm]
    · simp [start, init]; omega
  | n + 1, hn => by
    have h := sInv ok n (by omega)
    have z := start_sizes (lost := g.lost) ok.row n
    rw [start_succ]
    generalize start g.after g.lost n = σ at h z ⊢
    have zb : σ.bv.length = g.after.length := z.bv
    have hlost : gb g.lost (n : Int) = gb g.lost n := rfl
    refine ⟨fun x x0 x1 => ?_, fun x x0 x1 => ?_, fun m x m0 m1 => ?_, ?_, fun x => ?_⟩
    · have hv := h.va x x0 x1
      have hs : gi (σ.vals.set n 0) x = if x = (n : Int) then 0 else gi σ.vals x := by
        have := gi_set (l := σ.vals) (n := (n : Int)) (n' := x) (x := 0) (by omega) (by rw [z.vals]; omega) x0
        rwa [Int.toNat_natCast] at this
      show gi (if gb g.lost n then σ.vals.set n 0 else σ.vals) x = _
      by_cases hl : gb g.lost n = true
      · rw [if_pos hl, hs, hv]
        by_cases e : x = (n : Int)
        · subst e
          rw [if_pos rfl, if_pos ⟨by omega, hl⟩]
        · rw [if_neg e]
          by_cases q : x < (n : Int) ∧ gb g.lost x = true
          · rw [if_pos q, if_pos ⟨by omega, q.2⟩]
          · rw [if_neg q, if_neg fun q' => q ⟨by omega, q'.2⟩]
      · rw [if_neg hl, hv]
        by_cases q : x < (n : Int) ∧ gb g.lost x = true
        · rw [if_pos q, if_pos ⟨by omega, q.2⟩]
        · rw [if_neg q, if_neg fun q' => by
            by_cases e : x = (n : Int)
            · exact hl (e ▸ q'.2)
            · exact q ⟨by omega, q'.2⟩]
    · show gi (σ.left ++ [((g.after.getD n []).length : Int)]) x = _
      by_cases e : x < (n : Int)
      · have := gi_left (l := σ.left) (r := [((g.after.getD n []).length : Int)]) (i := x.toNat) (by rw [z.left]; omega)
        rw [show ((x.toNat : Nat) : Int) = x by omega] at this
        rw [this]
        exact h.lf x x0 e
      · have e' : x = (n : Int) := by omega
        subst e'
        have hl := z.left
        unfold gi
        rw [Int.toNat_natCast, List.getD_eq_getElem?_getD, List.getElem?_append_right (by omega), hl, Nat.sub_self]
        rfl
    · show (gl ((g.after.getD n []).foldl (inRow n) σ.bv) m).count x = _
      rw [rows_count m0 _ _ fun a ha => by rw [zb]; exact ok.inn n a ha, h.bc m x m0 m1]
      by_cases e : x = (n : Int)
      · subst e
        rw [if_neg (fun q => by omega), if_pos rfl, if_pos ⟨by omega, by omega⟩, Nat.zero_add]
        rfl
      · rw [if_neg e, Nat.add_zero]
        by_cases q : 0 ≤ x ∧ x < (n : Int)
        · rw [if_pos q, if_pos ⟨q.1, by omega⟩]
        · rw [if_neg q, if_neg fun q' => q ⟨q'.1, by omega⟩]
    · show (if gb g.lost n then σ.qu ++ [(n : Int)] else σ.qu).Nodup
      split
      · rw [List.nodup_append]
        refine ⟨h.qd, by simp, fun a ha b hb e => ?_⟩
        have := (h.qv a).mp ha
        rw [List.mem_singleton.mp hb] at e
        omega
      · exact h.qd
    · show x ∈ (if gb g.lost n then σ.qu ++ [(n : Int)] else σ.qu) ↔ _
      by_cases hl : gb g.lost n = true
      · rw [if_pos hl, List.mem_append, List.mem_singleton, h.qv]
        constructor
        · rintro (⟨a, b, c⟩ | e)
          · exact ⟨a, by omega, c⟩
          · subst e; exact ⟨by omega, by omega, hl⟩
        · rintro ⟨a, b, c⟩
          by_cases e : x = (n : Int)
          · exact .inr e
          · exact .inl ⟨a, by omega, c⟩
      · rw [if_neg hl, h.qv]
        constructor
        · rintro ⟨a, b, c⟩; exact ⟨a, by omega, c⟩
        · rintro ⟨a, b, c⟩
          by_cases e : x = (n : Int)
          · exact absurd (e ▸ c) hl
          · exact ⟨a, by omega, c⟩
theorem PInv.start {g : Gph} (ok : g.Ok) : PInv g 0 (start g.after g.lost g.after.length) := by
  have h := sInv ok g.after.length (Nat.le_refl _)
  have z := start_sizes (lost := g.lost) ok.row g.after.length
  have few := ok.few
  generalize Mine.start g.after g.lost g.after.length = σ at h z ⊢
  have va : ∀ x, 0 ≤ x → x < g.size → gi σ.vals x = if gb g.lost x = true then 0 else -1 := fun x x0 x1 => by
    rw [h.va x x0 x1]
    by_cases q : gb g.lost x = true
    · rw [if_pos ⟨x1, q⟩, if_pos q]
    · rw [if_neg (fun h' => q h'.2), if_neg q]
  have vq : ∀ i : Nat, i < σ.qu.length → gi σ.vals (gi σ.qu i) = 0 := fun i hi => by
    obtain ⟨a, b, c⟩ := (h.qv _).mp (gi_mem (l := σ.qu) (n := (i : Int)) (by omega) (by omega))
    rw [va _ a b, if_pos c]
  refine ⟨z.vals, z.left, z.bv, Nat.zero_le _, h.qd, fun n => ?_, fun n n0 n1 => ?_, fun n n0 n1 => ?_, fun m n m0 m1 => h.bc m n m0 m1, fun j => ?_, fun i j hij hj => ?_, fun i j hi hj _ => ?_, fun n n0 n1 hv j => ?_, fun n n0 n1 hl => ?_, fun n n0 n1 hv => ?_⟩
  · rw [h.qv]
    constructor
    · rintro ⟨a, b, c⟩
      exact ⟨a, b, by rw [va n a b, if_pos c]; omega⟩
    · rintro ⟨a, b, c⟩
      refine ⟨a, b, ?_⟩
      rw [va n a b] at c
      by_cases q : gb g.lost n = true
      · exact q
      · rw [if_neg q] at c; omega
  · rw [va n n0 n1]; split <;> omega
  · rw [h.lf n n0 n1]; simp
  · have := z.row j; omega
  · rw [vq i (by omega), vq j hj]; exact Int.le_refl _
  · rw [vq i hi, vq j hj]; omega
  · rw [va n n0 n1] at hv ⊢
    by_cases q : gb g.lost n = true
    · rw [if_pos q]
      have w : WW g 0 n := q
      exact ⟨fun _ => w.mono (Nat.zero_le _), fun _ => by omega⟩
    · rw [if_neg q] at hv; omega
  · rw [va n n0 n1, if_pos hl]; omega
  · rintro (⟨_, x, _, _, hx⟩ | ⟨_, hr, hall⟩)
    · simp at hx
    · obtain ⟨x, hx⟩ := List.exists_mem_of_ne_nil _ hr
      have := (hall x hx).2
      simp at this
theorem PInv.sizes {g : Gph} (ok : g.Ok) {k : Nat} {σ : St} (h : PInv g k σ) : σ.vals.length = g.sides.length ∧ σ.left.length = g.sides.length ∧ σ.qu.length ≤ g.sides.length ∧ (∀ x ∈ σ.qu, 0 ≤ x ∧ x < g.sides.length) ∧ (∀ j, (σ.bv.getD j []).length ≤ 1000) ∧ ∀ j, ∀ x ∈ σ.bv.getD j [], 0 ≤ x ∧ x < g.sides.length := by
  rw [ok.sl]
  have hq : ∀ x ∈ σ.qu, 0 ≤ x ∧ x < (g.after.length : Int) := fun x hx => ⟨((h.qv x).mp hx).1, ((h.qv x).mp hx).2.1⟩
  refine ⟨h.vl, h.ll, ints_below _ _ h.qd hq, hq, h.br, fun j x hx => ?_⟩
  by_cases hj : j < g.after.length
  · have hc := h.bc j x (by omega) (by unfold Gph.size; omega)
    have hp : 0 < (gl σ.bv j).count x := List.count_pos_iff.mpr hx
    by_cases q : 0 ≤ x ∧ x < g.size
    · exact q
    · rw [if_neg q] at hc; omega
  · rw [List.getD_eq_getElem?_getD, List.getElem?_eq_none (by rw [h.bl]; omega)] at hx
    simp at hx
end Mine
end
section
open PySem PySem.W PyProof.Rows
set_option maxRecDepth 100000
set_option maxHeartbeats 8000000
namespace Mine
open PySem.Calls PySem.Spec
theorem held_true {g : Gph} (ok : g.Ok) {t : List Int} (ht : Told g t) {n : Int} (n0 : 0 ≤ n) (n1 : n < g.size) (hn : gi t n = -1) : heldF g.sides (gl g.after n) ((gl g.after n).filter (hpz t)) n = true := by
  have no : ∀ k : Nat, ¬ WW g k n := fun k w => by have := ((ht.tells n n0 n1 k).mpr w).1; omega
  have rin := PInv.rowin ok n
  have bad : ∀ x ∈ gl g.after n, hpz t x = false → 0 ≤ x ∧ 0 ≤ gi t x := fun x hx h => by
    simp only [hpz, Bool.or_eq_false_iff, decide_eq_false_iff_not, beq_eq_false_iff_ne] at h
    have := ht.lo x (by omega) (rin x hx).2
    exact ⟨by omega, by omega⟩
  unfold heldF
  by_cases hs : gi g.sides n = 0
  · rw [if_pos hs]
    refine decide_eq_true (List.length_filter_eq_length_iff.mpr fun x hx => ?_)
    refine eq_true_of_ne_false fun h => ?_
    obtain ⟨x0, x1⟩ := bad x hx h
    have w := (ht.tells x x0 (rin x hx).2 (gi t x).toNat).mp ⟨x1, by omega⟩
    exact no ((gi t x).toNat + 1) (.inr (.inl ⟨hs, x, hx, x0, w⟩))
  · rw [if_neg hs]
    by_cases hr : gl g.after n = []
    · rw [decide_eq_true hr, Bool.true_or]
    · by_cases hf : (gl g.after n).filter (hpz t) = []
      · exfalso
        have all : ∀ x ∈ gl g.after n, 0 ≤ x ∧ 0 ≤ gi t x := fun x hx => bad x hx (by
          have := List.filter_eq_nil_iff.mp hf x hx
          simpa using this)
        have bound : ∀ l : List Int, ∃ K : Nat, ∀ x ∈ l, gi t x ≤ K := by
          intro l
          induction l with
          | nil => exact ⟨0, fun x hx => by cases hx⟩
          | cons a r ih =>
            obtain ⟨K, hK⟩ := ih
            refine ⟨K + (gi t a).toNat, fun x hx => ?_⟩
            rcases List.mem_cons.mp hx with rfl | hx
            · omega
            · have := hK x hx; omega
        obtain ⟨K, hK⟩ := bound (gl g.after n)
        exact no (K + 1) (.inr (.inr ⟨hs, hr, fun x hx => ⟨(all x hx).1, (ht.tells x (all x hx).1 (rin x hx).2 K).mp ⟨(all x hx).2, hK x hx⟩⟩⟩))
      · rw [decide_eq_false hf, Bool.not_false, Bool.or_true]
section
variable {w : World} {p : Program} {loose : List Str} {mean : ExcName → Option Value} {mg mb : Str → Option Value} 
    {env : Env} {base h₀ : Heap} {L : Addr} {m : Str → Option Value} {s : Shared}
    {aS aA aL aT : Addr} {g : Gph} {rows : List Addr} {Q E : Value → Shared → Prop}
theorem solve_told (B : Below callerA base [] h₀) (F : Fr h₀ L s.heap m) (X : (hd.heap_39 w.params).In h₀) (T : Top p loose mean mg mb h₀) (hf : env.frame = some L) (hke : env.scope.kind = .function) (ok : g.Ok)
    (hS : IL s.heap aS g.sides) (hA : RL s.heap aA rows) (hR : RowsAre s.heap rows g.after) (hL : BL s.heap aL g.lost) (hrl : rows.length = g.after.length)
    (ret : ∀ v vs n t h' tk', (∀ b o, s.heap.get? b = some o → h'.get? b = some o) → s.heap.get? v = none → h'.get? v = some (W.listOf (List.toArray vs) n) → IntsAre vs t → Told g t → Q (.ref v) { s with heap := h', toks := tk' }) :
    wpAny (model prog w) (callerA.deeper env) (call (.ref 19) [.ref aS, .ref aA, .ref aL]) Q E s :=
  solve_spec (PInv g) B F X T hf hke hS hA hR hL ok.few hrl ok.ll ok.sl ok.row ok.inn (PInv.start ok) (fun _ _ h => h.sizes ok) (fun _ _ h hk => h.step ok hk)
    fun v vs n k σ h' tk' hk hv hg hi hP hq => ret v vs n σ.vals h' tk' hk hv hg hi (hP.told ok hq)
theorem rounds_told (B : Below callerA base [] h₀) (F : Fr h₀ L s.heap m) (X : (hd.heap_39 w.params).In h₀) (T : Top p loose mean mg mb h₀) (hf : env.frame = some L) (hke : env.scope.kind = .function) (ok : g.Ok)
    (hS : IL s.heap aS g.sides) (hA : RL s.heap aA rows) (hR : RowsAre s.heap rows g.after) (hL : BL s.heap aL g.lost) (hrl : rows.length = g.after.length)
    (ret : ∀ v vs n t h' tk', (∀ b o, s.heap.get? b = some o → h'.get? b = some o) → s.heap.get? v = none → h'.get? v = some (W.listOf (List.toArray vs) n) → IntsAre vs t → Told g t → Q (.ref v) { s with heap := h', toks := tk' }) :
    wpAny (model prog w) (callerA.deeper env) (call (.ref 31) [.ref aS, .ref aA, .ref aL]) Q E s :=
  rounds_spec (RInv g) B F X T hf hke hS hA hR hL ok.few hrl ok.ll ok.sl ok.row ok.inn (RInv.start ok) (fun _ _ _ h => h.len) (fun _ _ h => h.few) (fun _ _ h => h.step ok)
    fun v vs n k t h' tk' hk hv hg hi hP => ret v vs n t h' tk' hk hv hg hi hP.told
theorem held_told (B : Below callerA base [] h₀) (F : Fr h₀ L s.heap m) (X : (hd.heap_39 w.params).In h₀) (T : Top p loose mean mg mb h₀) (hf : env.frame = some L) (hke : env.scope.kind = .function) (ok : g.Ok) {t : List Int} (ht : Told g t)
    (hS : IL s.heap aS g.sides) (hA : RL s.heap aA rows) (hR : RowsAre s.heap rows g.after) (hT : IL s.heap aT t) (hrl : rows.length = g.after.length) {n : Int} {tk : Tok} (n0 : 0 ≤ n) (n1 : n < g.after.length) (hn : gi t n = -1)
    (ret : ∀ h' tk', (∀ b o, s.heap.get? b = some o → h'.get? b = some o) → Q (.bool true) { s with heap := h', toks := tk' }) :
    wpAny (model prog w) (callerA.deeper env) (call (.ref 36) [.ref aS, .ref aA, .ref aT, .int n tk]) Q E s :=
  held_spec B F X T hf hke hS hA hR hT ok.few hrl ht.len ok.sl n0 n1 (ok.row _) (ok.inn _) fun h' tk' hk => by
    have e := held_true ok ht n0 n1 hn
    unfold gl at e
    rw [e]
    exact ret h' tk' hk
end
end Mine
end
section
open PySem PySem.W PyProof.Rows
set_option maxRecDepth 100000
set_option maxHeartbeats 8000000
namespace Mine
open PySem.Calls PySem.Spec
def Stop (P : Prop) : Prop := P
theorem Stop.go {P : Prop} (h : P) : Stop P := h
theorem wpAny_stop {α : Type} {M : Model} {A : Around} {E : Value → Shared → Prop} {s : Shared} {t : Sem α} {Q : α → Shared → Prop} (h : wpAny M A t (fun a s' => Stop (Q a s')) E s) : wpAny M A t Q E s := h
/-! what the law holds -/
structure LV where
  ns : List Int
  ti : Int
  size : Int
  sides : List Int
  lost : List Bool
  rows : List Addr
  after : List (List Int)
structure LS (nx : List (Addr × Obj)) (ct cz sc tp Sd Af Lo : Addr) (v : LV) : Prop where
  ctape : ∃ o, (ct, o) ∈ nx ∧ o.data = .cell (some (.ref tp))
  csize : ∃ o t, (cz, o) ∈ nx ∧ o.data = .cell (some (.int v.size t))
  tape : ∃ t k, (tp, W.listOf [Value.ref sc, .int v.ti t].toArray k) ∈ nx
  scr : ILn nx sc v.ns
  s : ILn nx Sd v.sides
  l : BLn nx Lo v.lost
  a : RLn nx Af v.rows
  r : ∀ (j : Nat) (b : Addr), v.rows[j]? = some b → ILn nx b (v.after.getD j [])
  rl : v.rows.length = v.after.length
  nt : ∀ y ∈ ct :: cz :: sc :: Sd :: Af :: Lo :: v.rows, y ≠ tp
  nS : ∀ y ∈ ct :: cz :: sc :: tp :: Af :: Lo :: v.rows, y ≠ Sd
  nA : ∀ y ∈ ct :: cz :: sc :: tp :: Sd :: Lo :: v.rows, y ≠ Af
  nL : ∀ y ∈ ct :: cz :: sc :: tp :: Sd :: Af :: v.rows, y ≠ Lo
section
variable {nx ny own : List (Addr × Obj)} {ct cz sc tp Sd Af Lo D : Addr} {v : LV}
theorem LS.sub (S : LS nx ct cz sc tp Sd Af Lo v) (hs : ∀ p ∈ nx, p ∈ ny) : LS ny ct cz sc tp Sd Af Lo v :=
  ⟨let ⟨o, a, b⟩ := S.ctape; ⟨o, hs _ a, b⟩, let ⟨o, t, a, b⟩ := S.csize; ⟨o, t, hs _ a, b⟩, let ⟨t, k, a⟩ := S.tape; ⟨t, k, hs _ a⟩, S.scr.sub hs, S.s.sub hs, S.l.sub hs, S.a.sub hs, fun j b h => (S.r j b h).sub hs, S.rl, S.nt, S.nS, S.nA, S.nL⟩
theorem LS.take (S : LS nx ct cz sc tp Sd Af Lo v) (t : Tok) (k : Nat) : LS (put tp (W.listOf [Value.ref sc, .int (v.ti + 1) t].toArray k) nx) ct cz sc tp Sd Af Lo { v with ti := v.ti + 1 } := by
  have nt := S.nt
  simp only [List.forall_mem_cons] at nt
  obtain ⟨n1, n2, n3, n4, n5, n6, n7⟩ := nt
  obtain ⟨o, a, b⟩ := S.ctape
  obtain ⟨o', t', a', b'⟩ := S.csize
  obtain ⟨t'', k'', a''⟩ := S.tape
  exact ⟨⟨o, put_ne n1 a, b⟩, ⟨o', t', put_ne n2 a', b'⟩, ⟨t, k, put_self a''⟩, S.scr.put_ne n3, S.s.put_ne n4, S.l.put_ne n6, S.a.put_ne n5, fun j b h => (S.r j b h).put_ne (n7 b (List.mem_of_getElem? h)), S.rl, S.nt, S.nS, S.nA, S.nL⟩
theorem put_split {o : Obj} (off : OwnOff own (nx.map (·.1))) (hD : D ∈ nx.map (·.1)) : ∀ p ∈ put D o nx ++ own, p ∈ put D o (nx ++ own) := by
  intro p hp
  rcases List.mem_append.mp hp with hp | hp
  · unfold put at hp ⊢
    rw [List.map_append]
    exact List.mem_append.mpr (.inl hp)
  · exact put_ne (off p hp D hD) (List.mem_append.mpr (.inr hp))
end
section
variable {prog : Program} {w : World} {A : Around} {E : Value → Shared → Prop} {s : Shared} {h₀ : Heap} {L : Addr} {m : Str → Option Value} {nx own : List (Addr × Obj)} {ct cz sc tp Sd Af Lo D : Addr} {v : LV}
theorem LS.appS {x : Int} {u : Tok} {Q : Value → Shared → Prop} (S : LS nx ct cz sc tp Sd Af Lo v) (F : Fr h₀ L s.heap m) (N : News h₀ L s.heap (nx ++ own)) (off : OwnOff own (nx.map (·.1))) (hf : v.sides.length ≤ 2 ^ 20)
    (h : ∀ h' nx', Fr h₀ L h' m → News h₀ L h' (nx' ++ own) → OwnOff own (nx'.map (·.1)) → LS nx' ct cz sc tp Sd Af Lo { v with sides := v.sides ++ [x] } → Q .none { s with heap := h' }) :
    wpAny (model prog w) A (call (.builtin "list.append") [.ref Sd, .int x u]) Q E s := by
  obtain ⟨vs, n, hm, hi⟩ := S.s
  have hl := hi.length
  have nS := S.nS
  simp only [List.forall_mem_cons] at nS
  obtain ⟨n1, n2, n3, n4, n5, n6, n7⟩ := nS
  obtain ⟨o, a, b⟩ := S.ctape
  obtain ⟨o', t', a', b'⟩ := S.csize
  obtain ⟨t'', k'', a''⟩ := S.tape
  exact app_core F N rfl off hm (by omega) fun h' F' N' => h h' _ F' N' (by rw [put_fst]; exact off)
    ⟨⟨o, put_ne n1 a, b⟩, ⟨o', t', put_ne n2 a', b'⟩, ⟨t'', k'', put_ne n4 a''⟩, S.scr.put_ne n3, .put_at hm (hi.append (.cons _ _ .nil)), S.l.put_ne n6, S.a.put_ne n5, fun j b h => (S.r j b h).put_ne (n7 b (List.mem_of_getElem? h)), S.rl, S.nt, S.nS, S.nA, S.nL⟩
theorem LS.appL {x : Bool} {Q : Value → Shared → Prop} (S : LS nx ct cz sc tp Sd Af Lo v) (F : Fr h₀ L s.heap m) (N : News h₀ L s.heap (nx ++ own)) (off : OwnOff own (nx.map (·.1))) (hf : v.lost.length ≤ 2 ^ 20)
    (h : ∀ h' nx', Fr h₀ L h' m → News h₀ L h' (nx' ++ own) → OwnOff own (nx'.map (·.1)) → LS nx' ct cz sc tp Sd Af Lo { v with lost := v.lost ++ [x] } → Q .none { s with heap := h' }) :
    wpAny (model prog w) A (call (.builtin "list.append") [.ref Lo, .bool x]) Q E s := by
  obtain ⟨n, hm⟩ := S.l
  have nL := S.nL
  simp only [List.forall_mem_cons] at nL
  obtain ⟨n1, n2, n3, n4, n5, n6, n7⟩ := nL
  obtain ⟨o, a, b⟩ := S.ctape
  obtain ⟨o', t', a', b'⟩ := S.csize
  obtain ⟨t'', k'', a''⟩ := S.tape
  refine app_core F N rfl off hm (by simpa using hf) fun h' F' N' => h h' _ F' N' (by rw [put_fst]; exact off)
    ⟨⟨o, put_ne n1 a, b⟩, ⟨o', t', put_ne n2 a', b'⟩, ⟨t'', k'', put_ne n4 a''⟩, S.scr.put_ne n3, S.s.put_ne n5, ⟨n + 1, ?_⟩, S.a.put_ne n6, fun j b h => (S.r j b h).put_ne (n7 b (List.mem_of_getElem? h)), S.rl, S.nt, S.nS, S.nA, S.nL⟩
  have e : v.lost.map Value.bool ++ [Value.bool x] = (v.lost ++ [x]).map Value.bool := by simp
  rw [e]
  exact put_self hm
theorem LS.appA {zs : List Int} {Q : Value → Shared → Prop} (S : LS nx ct cz sc tp Sd Af Lo v) (F : Fr h₀ L s.heap m) (N : News h₀ L s.heap (nx ++ own)) (off : OwnOff own (nx.map (·.1))) (hf : v.rows.length ≤ 2 ^ 20) (hD : ILn nx D zs) (nD : D ≠ tp ∧ D ≠ Sd ∧ D ≠ Af ∧ D ≠ Lo)
    (h : ∀ h' nx', Fr h₀ L h' m → News h₀ L h' (nx' ++ own) → OwnOff own (nx'.map (·.1)) → LS nx' ct cz sc tp Sd Af Lo { v with rows := v.rows ++ [D], after := v.after ++ [zs] } → Q .none { s with heap := h' }) :
    wpAny (model prog w) A (call (.builtin "list.append") [.ref Af, .ref D]) Q E s := by
  obtain ⟨n, hm⟩ := S.a
  have nA := S.nA
  simp only [List.forall_mem_cons] at nA
  obtain ⟨n1, n2, n3, n4, n5, n6, n7⟩ := nA
  obtain ⟨o, a, b⟩ := S.ctape
  obtain ⟨o', t', a', b'⟩ := S.csize
  obtain ⟨t'', k'', a''⟩ := S.tape
  have app : ∀ {l : List Addr} {z : Addr}, (∀ y ∈ l, y ≠ z) → D ≠ z → ∀ y ∈ l ++ [D], y ≠ z := fun h hd y hy => (List.mem_append.mp hy).elim (h y) fun e => (List.mem_singleton.mp e) ▸ hd
  refine app_core F N rfl off hm (by simpa using hf) fun h' F' N' => h h' _ F' N' (by rw [put_fst]; exact off)
    ⟨⟨o, put_ne n1 a, b⟩, ⟨o', t', put_ne n2 a', b'⟩, ⟨t'', k'', put_ne n4 a''⟩, S.scr.put_ne n3, S.s.put_ne n5, S.l.put_ne n6, ⟨n + 1, ?_⟩, fun j b hj => ?_, by simp [S.rl], ?_, ?_, ?_, ?_⟩
  · have e : v.rows.map Value.ref ++ [Value.ref D] = (v.rows ++ [D]).map Value.ref := by simp
    rw [e]
    exact put_self hm
  · have rl := S.rl
    dsimp only at hj ⊢
    by_cases q : j < v.rows.length
    · rw [List.getElem?_append_left q] at hj
      have e : (v.after ++ [zs]).getD j [] = v.after.getD j [] := by
        rw [List.getD_eq_getElem?_getD, List.getElem?_append_left (by omega), ← List.getD_eq_getElem?_getD]
      rw [e]
      exact (S.r j b hj).put_ne (n7 b (List.mem_of_getElem? hj))
    · have hjl := (List.getElem?_eq_some_iff.mp hj).1
      rw [List.length_append, List.length_singleton] at hjl
      have ej : j = v.rows.length := by omega
      subst ej
      rw [List.getElem?_append_right (Nat.le_refl _), Nat.sub_self] at hj
      have eb : D = b := by simpa using hj
      subst eb
      have e : (v.after ++ [zs]).getD v.rows.length [] = zs := by
        rw [List.getD_eq_getElem?_getD, rl, List.getElem?_append_right (Nat.le_refl _), Nat.sub_self]; rfl
      rw [e]
      exact hD.put_ne nD.2.2.1
  · exact app S.nt nD.1
  · exact app S.nS nD.2.1
  · exact app S.nA nD.2.2.1
  · exact app S.nL nD.2.2.2
end
section
variable {prog : Program} {w : World} {A : Around} {E : Value → Shared → Prop} {s : Shared} {h₀ : Heap} {L : Addr} {m : Str → Option Value} {led : List (Addr × Obj)}
theorem range_n {n : Int} {t : Tok} {Q : Value → Shared → Prop} (F : Fr h₀ L s.heap m) (N : News h₀ L s.heap led)
    (h : ∀ r h' tk t u v, Fr h₀ L h' m → News h₀ L h' led → IsRange h' r 0 n 1 t u v → Q (.ref r) { s with heap := h', toks := tk }) : wpAny (model prog w) A (call (.type "range") [.int n t]) Q E s :=
  call_range_1 (h _ _ _ _ _ _ (F.push _) (fun p hp => ⟨Heap.get?_push_of_some _ (N p hp).1, (N p hp).2⟩) (IsRange.new ..))
end
end Mine
end
section
local macro_rules | `(tactic| walk_at "pad 0") => `(tactic| skip)
open PySem PySem.W PyProof.Rows
set_option maxRecDepth 100000
set_option maxHeartbeats 1000000
namespace Mine
open PySem.Calls PySem.Spec
local macro_rules | `(tactic| ktr_rel) => `(tactic| first
  | exact IL.keeps (by with_reducible assumption) (Fr.keep (by k_asm))
  | exact RL.keeps (by with_reducible assumption) (Fr.keep (by k_asm))
  | exact BL.keeps (by with_reducible assumption) (Fr.keep (by k_asm))
  | exact IL.keeps (RowsAre.at (by with_reducible assumption) (by with_reducible assumption)) (Fr.keep (by k_asm))
  | exact ILn.il (by k_asm) (by with_reducible assumption)
  | exact ILn.il (by k_asm) ⟨_, _, by k_mem, by with_reducible assumption⟩
  | exact ILn.il (by k_asm) ⟨[], _, by k_mem, IntsAre.nil⟩)
local macro_rules | `(tactic| walk_at "call builtin:len") => `(tactic| (k_here; (with_reducible show wpAny _ _ (call (Value.builtin "len") [Value.ref _]) _ _ _); k_dflt (first
  | (refine' len_r ?l ?c ?_; (case l => ktr_rel); (case c => omega); k_whole; intro _ _)
  | (refine' len_i ?l ?c ?_; (case l => ktr_rel); (case c => omega); k_whole; intro _ _))))
local macro_rules | `(tactic| walk_at "subscriptTail") => `(tactic| (k_here; (with_reducible show wpAny _ _ (subscriptTail _ _ (Value.ref _) (Value.int _ _)) _ _ _); k_dflt (first
  | (refine' item_i ?l ?a ?b ?c ?_ ?z; (case l => ktr_rel); (case a => omega); (case b => omega); (case c => omega); (case z => with_unfolding_all rfl); k_whole; intro _)
  | (refine' item_b ?l ?a ?b ?c ?_ ?z; (case l => ktr_rel); (case a => omega); (case b => omega); (case c => omega); (case z => with_unfolding_all rfl); k_whole)
  | (refine' item_r ?l ?a ?b ?c ?_ ?z; (case l => ktr_rel); (case a => omega); (case b => omega); (case c => omega); (case z => with_unfolding_all rfl); k_whole; intro _ _))))
local macro_rules | `(tactic| walk_at "getItem ref int") => `(tactic| (k_here; (with_reducible show wpAny _ _ (getItem (Value.ref _) (Value.int _ _)) _ _ _); k_dflt (
  (refine' get_i ?l ?a ?b ?c ?_; (case l => ktr_rel); (case a => omega); (case b => omega); (case c => omega); k_whole; intro _))))
local macro_rules | `(tactic| walk_at "eval Name") => `(tactic| (k_here; k_dflt (refine' nameX_L ?F ?v ?_ ?a ?b; (case F => k_asm); (case a => rfl); (case b => rfl); (case v => assumption); k_whole)))
local macro_rules | `(tactic| walk_at "loadName") => `(tactic| (k_here; k_dflt (refine' load_L ?F ?v ?_ ?a ?b; (case F => k_asm); (case a => rfl); (case b => rfl); (case v => assumption); k_whole)))
local macro_rules | `(tactic| walk_at "compareOp Eq ref ref") => `(tactic| (k_here; k_dflt (refine' eq_i ?a ?b ?u ?_; (case a => ktr_rel); (case b => ktr_rel); (case u => k_units); k_whole)))
local macro_rules | `(tactic| walk_at "compareOp NotEq ref ref") => `(tactic| (k_here; k_dflt (refine' ne_i ?a ?b ?u ?_; (case a => ktr_rel); (case b => ktr_rel); (case u => k_units); k_whole)))
local macro_rules | `(tactic| walk_at "eval Name") => `(tactic| (k_here; k_dflt (refine' nameX_C ?N ?c ?m ?d ?_ ?a ?b; (case a => rfl); (case b => rfl); (case N => k_asm); (case c => rfl); (case m => first | with_reducible assumption | exact List.mem_append.mpr (.inl (by with_reducible assumption))); (case d => with_reducible assumption); k_whole)))
local macro_rules | `(tactic| walk_at "call ref") => `(tactic| (k_here; (with_reducible show wpAny _ _ (call (Value.ref 26) _) _ _ _); k_dflt (refine' take_spec ?B ?F ?X ?N ?T ?k ?hT ?hS ?ne ?hns ?h0 ?h1 ?hn ?hn2 ?_; (case B => k_asm); (case F => k_asm); (case X => k_asm); (case N => k_asm); (case T => k_asm); (case k => exact rfl); (case hT => with_reducible assumption); (case hS => with_reducible assumption); (case ne => with_reducible assumption); (case hns => with_reducible assumption); (case h0 => omega); (case h1 => omega); (case hn => omega); (case hn2 => omega); k_whole; intro r9 t9 t8 h9 tk9 r0 r1 F9 N9)))
local macro_rules | `(tactic| walk_at "call type:range") => `(tactic| (k_here; k_dflt (refine' range_n ?F ?N ?_; (case F => k_asm); (case N => k_asm); k_whole); intro r7 h7 tk7 t7 u7 v7 F7 N7 R7))
local macro_rules | `(tactic| walk_at "getMethod ref") => `(tactic| (k_here; k_dflt (refine' meth_n ?N ?m ?c ?d ?_; (case N => k_asm); (case m => with_reducible assumption); (case c => rfl); (case d => rfl); k_whole)))
local macro_rules | `(tactic| walk_at "call builtin:list.append") => `(tactic| (k_here; k_dflt (first
  | (refine' LS.appS ?S ?F ?N ?o ?c ?_; (case F => k_asm); (case N => k_asm); (case S => with_reducible assumption); (case o => with_reducible assumption); (case c => omega); k_whole; intro _ _ _ _ _ _)
  | (refine' LS.appL ?S ?F ?N ?o ?c ?_; (case F => k_asm); (case N => k_asm); (case S => with_reducible assumption); (case o => with_reducible assumption); (case c => omega); k_whole; intro _ _ _ _ _ _))))
local macro_rules | `(tactic| walk_at "eval ListComp") => `(tactic| (k_here; k_dflt (refine LCg.ListComp_U (F₀ := by k_asm) (by rfl) (by decide) (by rfl) (by decide) (by rfl) (wpAny_stop ?_))))
abbrev lEnv (fa : Addr) (cd : Value) (L : Addr) : Env := envOfC "law" (scopeOf (stm 9)) L fa cd
section
variable {w : World} {p : Program} {loose : List Str} {mean : ExcName → Option Value} {mg mb : Str → Option Value} {fa : Addr} {cd : Value}
    {base h₀ : Heap} {L : Addr} {m : Str → Option Value} {s : Shared} {nx own : List (Addr × Obj)} {sc tp Sd Af Lo : Addr} {v : LV} {Q : Flow → Shared → Prop}
theorem b1 (B : Below callerA base [] h₀) (F : Fr h₀ L s.heap m) (X : (hd.heap_39 w.params).In h₀) (T : Top p loose mean mg mb h₀)
    (N : News h₀ L s.heap (nx ++ own)) (off : OwnOff own (nx.map (·.1))) (S : LS nx (L + 1) (L + 1 + 1) sc tp Sd Af Lo v) (hns : v.ns.length ≤ 63) (h0 : 0 ≤ v.ti) (h1 : v.ti < 1000)
    (ret : ∀ r t nx' h' tk', 0 ≤ r → r < 32 → Fr h₀ L h' (fun y => if y = Str.ofString "x" then some (.int r t) else m y) → News h₀ L h' (nx' ++ own) → OwnOff own (nx'.map (·.1)) → LS nx' (L + 1) (L + 1 + 1) sc tp Sd Af Lo { v with ti := v.ti + 1 } → Q .next { s with heap := h', toks := tk' }) :
    wpAny (model prog w) (callerA.deeper (lEnv fa cd L)) (exec (sub3 9 5 0) (lEnv fa cd L)) Q NoE s := by
  obtain ⟨ot, hct, hdt⟩ := S.ctape
  obtain ⟨tt, kt, htm⟩ := S.tape
  have hT : (tp, W.listOf [Value.ref sc, .int v.ti tt].toArray kt) ∈ nx ++ own := List.mem_append.mpr (.inl htm)
  have hSc : ILn (nx ++ own) sc v.ns := S.scr.sub fun _ h => List.mem_append.mpr (.inl h)
  have hne : sc ≠ tp := S.nt sc (by simp)
  have hmem : tp ∈ nx.map (·.1) := List.mem_map.mpr ⟨_, htm, rfl⟩
  simp only [lEnv, scopeOf, sub3, sub2, stm, nthS, bodyOf, PySem.Challenge.pw_nt0417_01]
  k_steps
  have N8 : News h₀ L _ (put tp (W.listOf [Value.ref sc, .int (v.ti + 1) _].toArray kt) nx ++ own) := fun p hp => (by assumption : News h₀ L _ (put tp (W.listOf [Value.ref sc, .int (v.ti + 1) _].toArray kt) (nx ++ own))) p (put_split off hmem p hp)
  exact ret _ _ _ _ _ (by assumption) (by assumption) (by assumption) N8 (by rw [put_fst]; exact off) (S.take _ _)

theorem b2 (B : Below callerA base [] h₀) (F : Fr h₀ L s.heap m) (X : (hd.heap_39 w.params).In h₀) (T : Top p loose mean mg mb h₀)
    (N : News h₀ L s.heap (nx ++ own)) (off : OwnOff own (nx.map (·.1))) (S : LS nx (L + 1) (L + 1 + 1) sc tp Sd Af Lo v) (hsl : v.sides.length ≤ 10) {r : Int} {t : Tok} (mx : m "x" = some (.int r t)) (ms : m "sides" = some (.ref Sd))
    (ret : ∀ y nx' h' tk', Fr h₀ L h' m → News h₀ L h' (nx' ++ own) → OwnOff own (nx'.map (·.1)) → LS nx' (L + 1) (L + 1 + 1) sc tp Sd Af Lo { v with sides := v.sides ++ [y] } → Q .next { s with heap := h', toks := tk' }) :
    wpAny (model prog w) (callerA.deeper (lEnv fa cd L)) (exec (sub3 9 5 1) (lEnv fa cd L)) Q NoE s := by
  obtain ⟨vs, k, hm, hi⟩ := S.s
  have hm' : (Sd, W.listOf vs.toArray k) ∈ nx ++ own := List.mem_append.mpr (.inl hm)
  simp only [lEnv, scopeOf, sub3, sub2, stm, nthS, bodyOf, PySem.Challenge.pw_nt0417_01]
  k_steps
  exact ret _ _ _ _ (by assumption) (by assumption) (by assumption) (by assumption)
theorem b3 (B : Below callerA base [] h₀) (F : Fr h₀ L s.heap m) (X : (hd.heap_39 w.params).In h₀) (T : Top p loose mean mg mb h₀)
    (N : News h₀ L s.heap (nx ++ own)) (off : OwnOff own (nx.map (·.1))) (S : LS nx (L + 1) (L + 1 + 1) sc tp Sd Af Lo v) (hsl : v.lost.length ≤ 10) {r : Int} {t : Tok} (mx : m "x" = some (.int r t)) (ms : m "lost" = some (.ref Lo))
    (ret : ∀ y nx' h' tk', Fr h₀ L h' m → News h₀ L h' (nx' ++ own) → OwnOff own (nx'.map (·.1)) → LS nx' (L + 1) (L + 1 + 1) sc tp Sd Af Lo { v with lost := v.lost ++ [y] } → Q .next { s with heap := h', toks := tk' }) :
    wpAny (model prog w) (callerA.deeper (lEnv fa cd L)) (exec (sub3 9 5 2) (lEnv fa cd L)) Q NoE s := by
  obtain ⟨k, hm⟩ := S.l
  have hm' : (Lo, W.listOf (v.lost.map Value.bool).toArray k) ∈ nx ++ own := List.mem_append.mpr (.inl hm)
  simp only [lEnv, scopeOf, sub3, sub2, stm, nthS, bodyOf, PySem.Challenge.pw_nt0417_01]
  k_steps
  exact ret _ _ _ _ (by assumption) (by assumption) (by assumption) (by assumption)
theorem b4 (B : Below callerA base [] h₀) (F : Fr h₀ L s.heap m) (X : (hd.heap_39 w.params).In h₀) (T : Top p loose mean mg mb h₀)
    (N : News h₀ L s.heap (nx ++ own)) (off : OwnOff own (nx.map (·.1))) (S : LS nx (L + 1) (L + 1 + 1) sc tp Sd Af Lo v) (hns : v.ns.length ≤ 63) (h0 : 0 ≤ v.ti) (h1 : v.ti < 900) (hz0 : 0 < v.size) (hz1 : v.size ≤ 10) (hrl : v.rows.length ≤ 10) {r : Int} {t : Tok} (r0 : 0 ≤ r) (r1 : r < 32) (mx : m "x" = some (.int r t)) (ms : m "after" = some (.ref Af))
    (ret : ∀ D zs nx' h' tk' ti', v.ti ≤ ti' → ti' ≤ v.ti + 3 → zs.length ≤ 3 → (∀ z ∈ zs, -1 ≤ z ∧ z < v.size) → Fr h₀ L h' m → News h₀ L h' (nx' ++ own) → OwnOff own (nx'.map (·.1)) → LS nx' (L + 1) (L + 1 + 1) sc tp Sd Af Lo { v with ti := ti', rows := v.rows ++ [D], after := v.after ++ [zs] } → Q .next { s with heap := h', toks := tk' }) :
    wpAny (model prog w) (callerA.deeper (lEnv fa cd L)) (exec (sub3 9 5 3) (lEnv fa cd L)) Q NoE s := by
  obtain ⟨k, hm⟩ := S.a
  have hm' : (Af, W.listOf (v.rows.map Value.ref).toArray k) ∈ nx ++ own := List.mem_append.mpr (.inl hm)
  simp only [lEnv, scopeOf, sub3, sub2, stm, nthS, bodyOf, PySem.Challenge.pw_nt0417_01]
  k_steps
  rename_i rr h7 tk7 t7 u7 v7 F7 N7 R7
  have hfd : 0 ≤ r.fdiv 8 ∧ r.fdiv 8 ≤ 3 := by
    rw [Int.fdiv_eq_ediv_of_nonneg _ (by omega)]
    omega
  have hfn : r.fdiv 8 = (((r.fdiv 8).toNat : Nat) : Int) := by omega
  rw [hfn] at R7
  generalize hn : (r.fdiv 8).toNat = n at R7
  have hn3 : n ≤ 3 := by omega
  refine Stop.go (LCg.CompSrc.range rfl F7 N7 R7 (small_one (by omega) (by omega) (by omega) (by omega)) size_one (by rw [sizeLine_eq]; omega) ?_)
  intro g
  refine comp_takes (n := n) (fun nx' j => OwnOff own (nx'.map (·.1)) ∧ LS nx' (L + 1) (L + 1 + 1) sc tp Sd Af Lo { v with ti := v.ti + j }) (fun z => -1 ≤ z ∧ z < v.size) ?_ ?_ n 0 [] [] nx (Nat.zero_add n) .nil rfl (fun _ h => nomatch h) ⟨off, by simpa using S⟩
  · rintro j nx1 I oI C oC D oD h1 tk1 Q' E' hj ⟨off1, S1⟩ F1 N1 o3 hQ'
    obtain ⟨ot, hct, hdt⟩ := S1.ctape
    obtain ⟨oz, tz, hcz, hdz⟩ := S1.csize
    obtain ⟨tt, kt, htm⟩ := S1.tape
    have up : ∀ p ∈ nx1, p ∈ (I, oI) :: (C, oC) :: (D, oD) :: (nx1 ++ own) := fun p hp => .tail _ (.tail _ (.tail _ (List.mem_append.mpr (.inl hp))))
    have hct' := up _ hct
    have hcz' := up _ hcz
    have htm' := up _ htm
    have hSc : ILn ((I, oI) :: (C, oC) :: (D, oD) :: (nx1 ++ own)) sc v.ns := S1.scr.sub up
    have hne : sc ≠ tp := S1.nt sc (by simp)
    dsimp only at hdz htm'
    clear F7 N7 R7 F N
    k_steps
    rename_i cE r9 t9 t8 h9 tk9 q0 q1 F9 N9
    obtain ⟨hI1, hI2, hI3⟩ := o3.mem _ (List.mem_append.mpr (.inl htm))
    dsimp only at hI1 hI2 hI3
    have hmem : tp ∈ nx1.map (·.1) := List.mem_map.mpr ⟨_, htm, rfl⟩
    generalize ho : W.listOf [Value.ref sc, .int (v.ti + j + 1) t9].toArray kt = o9 at N9
    have sub : ∀ p ∈ put tp o9 nx1 ++ own, p ∈ put tp o9 ((I, oI) :: (C, oC) :: (D, oD) :: (nx1 ++ own)) := fun p hp => by
      rcases List.mem_append.mp hp with hp | hp
      · rcases put_of_mem hp with ⟨rfl, _⟩ | ⟨hne', hp'⟩
        · exact put_self htm'
        · exact put_ne hne' (up _ hp')
      · exact put_ne (off1 p hp tp hmem) (.tail _ (.tail _ (.tail _ (List.mem_append.mpr (.inr hp)))))
    have N9' : News h₀ L h9 ((I, oI) :: (C, oC) :: (D, oD) :: (put tp o9 nx1 ++ own)) := fun p hp => by
      refine N9 p ?_
      rcases List.mem_cons.mp hp with rfl | hp
      · exact put_ne hI1.symm (.head _)
      · rcases List.mem_cons.mp hp with rfl | hp
        · exact put_ne hI2.symm (.tail _ (.head _))
        · rcases List.mem_cons.mp hp with rfl | hp
          · exact put_ne hI3.symm (.tail _ (.tail _ (.head _)))
          · exact sub p hp
    have o3' : LCg.Off3 I C D (put tp o9 nx1 ++ own) := LCg.Off3.of fun p hp => by
      rcases List.mem_append.mp hp with hp | hp
      · rcases put_of_mem hp with ⟨rfl, _⟩ | ⟨_, hp'⟩
        · exact ⟨hI1, hI2, hI3⟩
        · exact o3.mem p (List.mem_append.mpr (.inl hp'))
      · exact o3.mem p (List.mem_append.mpr (.inr hp))
    have e1 : v.ti + ((j + 1 : Nat) : Int) = v.ti + j + 1 := by omega
    refine hQ' (r9 - 1) _ (put tp o9 nx1) _ _ ⟨by omega, by omega⟩ F9 N9' o3' ⟨by rw [put_fst]; exact off1, ?_⟩
    rw [e1, ← ho]
    exact S1.take t9 kt
  · rintro ys zs nx1 hy hl hz ⟨off1, S1⟩
    unfold LCg.FinE
    intro D h5 tk5 F5 N5 o1
    have o1' := off1_mem o1
    have N6 : News h₀ L h5 (((D, LCg.lst ys) :: nx1) ++ own) := N5
    have S2 : LS ((D, LCg.lst ys) :: nx1) (L + 1) (L + 1 + 1) sc tp Sd Af Lo { v with ti := v.ti + (n : Nat) } := S1.sub fun _ hp => .tail _ hp
    have off2 : OwnOff own (((D, LCg.lst ys) :: nx1).map (·.1)) := fun p hp b hb => by
      rcases List.mem_cons.mp hb with rfl | hb
      · exact o1' p (List.mem_append.mpr (.inr hp))
      · exact off1 p hp b hb
    have hD : ILn ((D, LCg.lst ys) :: nx1) D zs := ⟨ys, _, .head _, hy⟩
    obtain ⟨_, _, q1⟩ := S1.tape
    obtain ⟨_, _, q2, _⟩ := S1.s
    obtain ⟨_, q3⟩ := S1.a
    obtain ⟨_, q4⟩ := S1.l
    have nD : D ≠ tp ∧ D ≠ Sd ∧ D ≠ Af ∧ D ≠ Lo := ⟨(o1' _ (List.mem_append.mpr (.inl q1))).symm, (o1' _ (List.mem_append.mpr (.inl q2))).symm, (o1' _ (List.mem_append.mpr (.inl q3))).symm, (o1' _ (List.mem_append.mpr (.inl q4))).symm⟩
    clear F7 N7 R7 F N N5
    (try dsimp only)
    k_steps
    refine LS.appA S2 (by k_asm) (by k_asm) off2 (by dsimp only; omega) hD nD fun h6 nx6 F6 N6 off6 S6 => ?_
    clear F5
    k_steps
    exact ret D zs nx6 _ _ (v.ti + n) (by omega) (by omega) (by omega) hz F6 N6 off6 S6
end
end Mine
end
section
local macro_rules | `(tactic| walk_at "pad 0") => `(tactic| skip)
open PySem PySem.W PyProof.Rows
set_option maxRecDepth 100000
set_option maxHeartbeats 1000000
namespace Mine
open PySem.Calls PySem.Spec
local macro_rules | `(tactic| ktr_rel) => `(tactic| first
  | exact IL.keeps (by with_reducible assumption) (Fr.keep (by k_asm))
  | exact RL.keeps (by with_reducible assumption) (Fr.keep (by k_asm))
  | exact BL.keeps (by with_reducible assumption) (Fr.keep (by k_asm))
  | exact IL.keeps (RowsAre.at (by with_reducible assumption) (by with_reducible assumption)) (Fr.keep (by k_asm))
  | exact ILn.il (by k_asm) (by with_reducible assumption)
  | exact ILn.il (by k_asm) ⟨_, _, by k_mem, by with_reducible assumption⟩
  | exact ILn.il (by k_asm) ⟨[], _, by k_mem, IntsAre.nil⟩)
local macro_rules | `(tactic| walk_at "call builtin:len") => `(tactic| (k_here; (with_reducible show wpAny _ _ (call (Value.builtin "len") [Value.ref _]) _ _ _); k_dflt (first
  | (refine' len_r ?l ?c ?_; (case l => ktr_rel); (case c => omega); k_whole; intro _ _)
  | (refine' len_i ?l ?c ?_; (case l => ktr_rel); (case c => omega); k_whole; intro _ _))))
local macro_rules | `(tactic| walk_at "subscriptTail") => `(tactic| (k_here; (with_reducible show wpAny _ _ (subscriptTail _ _ (Value.ref _) (Value.int _ _)) _ _ _); k_dflt (first
  | (refine' item_i ?l ?a ?b ?c ?_ ?z; (case l => ktr_rel); (case a => omega); (case b => omega); (case c => omega); (case z => with_unfolding_all rfl); k_whole; intro _)
  | (refine' item_b ?l ?a ?b ?c ?_ ?z; (case l => ktr_rel); (case a => omega); (case b => omega); (case c => omega); (case z => with_unfolding_all rfl); k_whole)
  | (refine' item_r ?l ?a ?b ?c ?_ ?z; (case l => ktr_rel); (case a => omega); (case b => omega); (case c => omega); (case z => with_unfolding_all rfl); k_whole; intro _ _))))
local macro_rules | `(tactic| walk_at "getItem ref int") => `(tactic| (k_here; (with_reducible show wpAny _ _ (getItem (Value.ref _) (Value.int _ _)) _ _ _); k_dflt (
  (refine' get_i ?l ?a ?b ?c ?_; (case l => ktr_rel); (case a => omega); (case b => omega); (case c => omega); k_whole; intro _))))
local macro_rules | `(tactic| walk_at "eval Name") => `(tactic| (k_here; k_dflt (refine' nameX_L ?F ?v ?_ ?a ?b; (case F => k_asm); (case a => rfl); (case b => rfl); (case v => assumption); k_whole)))
local macro_rules | `(tactic| walk_at "loadName") => `(tactic| (k_here; k_dflt (refine' load_L ?F ?v ?_ ?a ?b; (case F => k_asm); (case a => rfl); (case b => rfl); (case v => assumption); k_whole)))
local macro_rules | `(tactic| walk_at "compareOp Eq ref ref") => `(tactic| (k_here; k_dflt (refine' eq_i ?a ?b ?u ?_; (case a => ktr_rel); (case b => ktr_rel); (case u => k_units); k_whole)))
local macro_rules | `(tactic| walk_at "compareOp NotEq ref ref") => `(tactic| (k_here; k_dflt (refine' ne_i ?a ?b ?u ?_; (case a => ktr_rel); (case b => ktr_rel); (case u => k_units); k_whole)))
local macro_rules | `(tactic| walk_at "eval Name") => `(tactic| (k_here; k_dflt (refine' nameX_C ?N ?c ?m ?d ?_ ?a ?b; (case a => rfl); (case b => rfl); (case N => k_asm); (case c => rfl); (case m => first | with_reducible assumption | exact List.mem_append.mpr (.inl (by with_reducible assumption))); (case d => with_reducible assumption); k_whole)))
local macro_rules | `(tactic| walk_at "call ref") => `(tactic| (k_here; (with_reducible show wpAny _ _ (call (Value.ref 26) _) _ _ _); k_dflt (refine' take_spec ?B ?F ?X ?N ?T ?k ?hT ?hS ?ne ?hns ?h0 ?h1 ?hn ?hn2 ?_; (case B => k_asm); (case F => k_asm); (case X => k_asm); (case N => k_asm); (case T => k_asm); (case k => exact rfl); (case hT => with_reducible assumption); (case hS => with_reducible assumption); (case ne => with_reducible assumption); (case hns => with_reducible assumption); (case h0 => omega); (case h1 => omega); (case hn => omega); (case hn2 => omega); k_whole; intro r9 t9 t8 h9 tk9 r0 r1 F9 N9)))
local macro_rules | `(tactic| walk_at "call type:range") => `(tactic| (k_here; k_dflt (refine' range_n ?F ?N ?_; (case F => k_asm); (case N => k_asm); k_whole); intro r7 h7 tk7 t7 u7 v7 F7 N7 R7))
local macro_rules | `(tactic| walk_at "getMethod ref") => `(tactic| (k_here; k_dflt (refine' meth_n ?N ?m ?c ?d ?_; (case N => k_asm); (case m => with_reducible assumption); (case c => rfl); (case d => rfl); k_whole)))
local macro_rules | `(tactic| walk_at "call builtin:list.append") => `(tactic| (k_here; k_dflt (first
  | (refine' LS.appS ?S ?F ?N ?o ?c ?_; (case F => k_asm); (case N => k_asm); (case S => with_reducible assumption); (case o => with_reducible assumption); (case c => omega); k_whole; intro _ _ _ _ _ _)
  | (refine' LS.appL ?S ?F ?N ?o ?c ?_; (case F => k_asm); (case N => k_asm); (case S => with_reducible assumption); (case o => with_reducible assumption); (case c => omega); k_whole; intro _ _ _ _ _ _))))
local macro_rules | `(tactic| walk_at "eval ListComp") => `(tactic| (k_here; k_dflt (refine LCg.ListComp_U (F₀ := by k_asm) (by rfl) (by decide) (by rfl) (by decide) (by rfl) (wpAny_stop ?_))))
local macro_rules | `(tactic| walk_at "storeName") => `(tactic| (k_here; k_dflt (refine' store_cell ?F ?N ?c ?m ?d ?_ ?a ?b; (case a => rfl); (case b => rfl); (case F => k_asm); (case N => k_asm); (case c => rfl); (case m => first | with_reducible assumption | exact put_ne (by with_reducible assumption) (by with_reducible assumption)); (case d => with_reducible assumption); k_whole; intro _ _ _ _ _)))
section
variable {w : World} {p : Program} {loose : List Str} {mean : ExcName → Option Value} {mg mb : Str → Option Value} {fa : Addr} {cd : Value}
    {base h₀ : Heap} {L : Addr} {m : Str → Option Value} {s : Shared} {nx own : List (Addr × Obj)} {sc tp Sd Af Lo : Addr} {v : LV} {Q : Flow → Shared → Prop}
theorem lp0 (B : Below callerA base [] h₀) (F : Fr h₀ L s.heap m) (X : (hd.heap_39 w.params).In h₀) (T : Top p loose mean mg mb h₀) {oz ot : Obj} {a : Addr} {vs : List Value} {ns : List Int}
    (N : News h₀ L s.heap [(L + 1 + 1, oz), (L + 1, ot)]) (hz : oz.data = .cell none) (ht : ot.data = .cell none) (hl : h₀.IsList a vs.toArray) (hi : IntsAre vs ns) (hns : ns.length ≤ 63) (msc : m "script" = some (.ref a))
    (ret : ∀ sc tp ws o t h' tk', L + 1 + 1 < sc → sc < tp → IntsAre ws (ns.take 63) → o.data = .cell (some (.ref tp)) → Fr h₀ L h' m →
      News h₀ L h' [(tp, W.listOf [Value.ref sc, .int 0 t].toArray 0), (sc, W.listOf (List.toArray ws) 0), (L + 1 + 1, oz), (L + 1, o)] → Q .next { s with heap := h', toks := tk' }) :
    wpAny (model prog w) (callerA.deeper (lEnv fa cd L)) (exec (sub2 9 0) (lEnv fa cd L)) Q NoE s := by
  simp only [lEnv, scopeOf, sub2, stm, nthS, bodyOf, PySem.Challenge.pw_nt0417_01]
  k_steps
  rename_i D' ws h2 hI hC hL l1 l' h1 l2 h' o' F' N' d'
  exact ret D' l' ws o' _ h' _ l1.1 l2.1 hI d' F' N'

theorem lp1 (B : Below callerA base [] h₀) (F : Fr h₀ L s.heap m) (X : (hd.heap_39 w.params).In h₀) (T : Top p loose mean mg mb h₀) {oz ot : Obj} {ns : List Int} {t0 : Tok} {k : Nat}
    (N : News h₀ L s.heap nx) (hcz : (L + 1 + 1, oz) ∈ nx) (hct : (L + 1, ot) ∈ nx) (hz : oz.data = .cell none) (hdt : ot.data = .cell (some (.ref tp))) (hT : (tp, W.listOf [Value.ref sc, .int 0 t0].toArray k) ∈ nx) (hS : ILn nx sc ns) (hns : ns.length ≤ 63)
    (hne : sc ≠ tp) (hne2 : L + 1 + 1 ≠ tp)
    (ret : ∀ r t t' o h' tk', 0 < r → r ≤ 10 → o.data = .cell (some (.int r t)) → Fr h₀ L h' m →
      News h₀ L h' (put (L + 1 + 1) o (put tp (W.listOf [Value.ref sc, .int (0 + 1) t'].toArray k) nx)) → Q .next { s with heap := h', toks := tk' }) :
    wpAny (model prog w) (callerA.deeper (lEnv fa cd L)) (exec (sub2 9 1) (lEnv fa cd L)) Q NoE s := by
  simp only [lEnv, scopeOf, sub2, stm, nthS, bodyOf, PySem.Challenge.pw_nt0417_01]
  k_steps
  rename_i r9 t9 t8 h9 tk9 r0 r1 F9 N9 h' o' F' N' d'
  exact ret (1 + r9) _ t9 o' h' _ (by omega) (by omega) d' F' N'

theorem lp2 (B : Below callerA base [] h₀) (F : Fr h₀ L s.heap m) (X : (hd.heap_39 w.params).In h₀) (T : Top p loose mean mg mb h₀)
    (N : News h₀ L s.heap nx)
    (ret : ∀ Sd Af Lo m' h' tk', (∀ p ∈ nx, p.1 < Sd) → Sd < Af → Af < Lo → Fr h₀ L h' m' → MR m' Sd Af Lo →
      News h₀ L h' ((Lo, W.listOf [].toArray 0) :: (Af, W.listOf [].toArray 0) :: (Sd, W.listOf [].toArray 0) :: nx) → Q .next { s with heap := h', toks := tk' }) :
    wpAny (model prog w) (callerA.deeper (lEnv fa cd L)) (execs [sub2 9 2, sub2 9 3, sub2 9 4] (lEnv fa cd L)) Q NoE s := by
  simp only [lEnv, scopeOf, sub2, stm, nthS, bodyOf, PySem.Challenge.pw_nt0417_01]
  k_steps
  rename_i Sd h1 l1 h2 tk1 Af h3 l2 h4 tk2 Lo h5 l3 h6 F' N'
  exact ret Sd Af Lo _ h6 _ l1 l2.1 l3.1 F' ⟨by rw [if_neg (by decide), if_neg (by decide), if_pos rfl], by rw [if_neg (by decide), if_pos rfl], by rw [if_pos rfl]⟩ N'
end
end Mine
end
section
open PySem PySem.W PyProof.Rows
set_option maxRecDepth 100000
set_option maxHeartbeats 1000000
namespace Mine
open PySem.Calls PySem.Spec
local macro_rules | `(tactic| ktr_rel) => `(tactic| first
  | exact IL.keeps (by with_reducible assumption) (Fr.keep (by k_asm))
  | exact RL.keeps (by with_reducible assumption) (Fr.keep (by k_asm))
  | exact BL.keeps (by with_reducible assumption) (Fr.keep (by k_asm))
  | exact IL.keeps (RowsAre.at (by with_reducible assumption) (by with_reducible assumption)) (Fr.keep (by k_asm))
  | exact ILn.il (by k_asm) (by with_reducible assumption)
  | exact ILn.il (by k_asm) ⟨_, _, by k_mem, by with_reducible assumption⟩
  | exact ILn.il (by k_asm) ⟨[], _, by k_mem, IntsAre.nil⟩)
local macro_rules | `(tactic| walk_at "call builtin:len") => `(tactic| (k_here; (with_reducible show wpAny _ _ (call (Value.builtin "len") [Value.ref _]) _ _ _); k_dflt (first
  | (refine' len_r ?l ?c ?_; (case l => ktr_rel); (case c => omega); k_whole; intro _ _)
  | (refine' len_i ?l ?c ?_; (case l => ktr_rel); (case c => omega); k_whole; intro _ _))))
local macro_rules | `(tactic| walk_at "subscriptTail") => `(tactic| (k_here; (with_reducible show wpAny _ _ (subscriptTail _ _ (Value.ref _) (Value.int _ _)) _ _ _); k_dflt (first
  | (refine' item_i ?l ?a ?b ?c ?_ ?z; (case l => ktr_rel); (case a => omega); (case b => omega); (case c => omega); (case z => with_unfolding_all rfl); k_whole; intro _)
  | (refine' item_b ?l ?a ?b ?c ?_ ?z; (case l => ktr_rel); (case a => omega); (case b => omega); (case c => omega); (case z => with_unfolding_all rfl); k_whole)
  | (refine' item_r ?l ?a ?b ?c ?_ ?z; (case l => ktr_rel); (case a => omega); (case b => omega); (case c => omega); (case z => with_unfolding_all rfl); k_whole; intro _ _))))
local macro_rules | `(tactic| walk_at "getItem ref int") => `(tactic| (k_here; (with_reducible show wpAny _ _ (getItem (Value.ref _) (Value.int _ _)) _ _ _); k_dflt (
  (refine' get_i ?l ?a ?b ?c ?_; (case l => ktr_rel); (case a => omega); (case b => omega); (case c => omega); k_whole; intro _))))
local macro_rules | `(tactic| walk_at "eval Name") => `(tactic| (k_here; k_dflt (refine' nameX_L ?F ?v ?_ ?a ?b; (case F => k_asm); (case a => rfl); (case b => rfl); (case v => assumption); k_whole)))
local macro_rules | `(tactic| walk_at "loadName") => `(tactic| (k_here; k_dflt (refine' load_L ?F ?v ?_ ?a ?b; (case F => k_asm); (case a => rfl); (case b => rfl); (case v => assumption); k_whole)))
local macro_rules | `(tactic| walk_at "compareOp Eq ref ref") => `(tactic| (k_here; k_dflt (refine' eq_i ?a ?b ?u ?_; (case a => ktr_rel); (case b => ktr_rel); (case u => k_units); k_whole)))
local macro_rules | `(tactic| walk_at "compareOp NotEq ref ref") => `(tactic| (k_here; k_dflt (refine' ne_i ?a ?b ?u ?_; (case a => ktr_rel); (case b => ktr_rel); (case u => k_units); k_whole)))
local macro_rules | `(tactic| walk_at "eval Name") => `(tactic| (k_here; k_dflt (refine' nameX_C ?N ?c ?m ?d ?_ ?a ?b; (case a => rfl); (case b => rfl); (case N => k_asm); (case c => rfl); (case m => first | with_reducible assumption | exact List.mem_append.mpr (.inl (by with_reducible assumption))); (case d => with_reducible assumption); k_whole)))
local macro_rules | `(tactic| walk_at "call ref") => `(tactic| (k_here; (with_reducible show wpAny _ _ (call (Value.ref 26) _) _ _ _); k_dflt (refine' take_spec ?B ?F ?X ?N ?T ?k ?hT ?hS ?ne ?hns ?h0 ?h1 ?hn ?hn2 ?_; (case B => k_asm); (case F => k_asm); (case X => k_asm); (case N => k_asm); (case T => k_asm); (case k => exact rfl); (case hT => with_reducible assumption); (case hS => with_reducible assumption); (case ne => with_reducible assumption); (case hns => with_reducible assumption); (case h0 => omega); (case h1 => omega); (case hn => omega); (case hn2 => omega); k_whole; intro r9 t9 t8 h9 tk9 r0 r1 F9 N9)))
local macro_rules | `(tactic| walk_at "call type:range") => `(tactic| (k_here; k_dflt (refine' range_n ?F ?N ?_; (case F => k_asm); (case N => k_asm); k_whole); intro r7 h7 tk7 t7 u7 v7 F7 N7 R7))
local macro_rules | `(tactic| walk_at "getMethod ref") => `(tactic| (k_here; k_dflt (refine' meth_n ?N ?m ?c ?d ?_; (case N => k_asm); (case m => with_reducible assumption); (case c => rfl); (case d => rfl); k_whole)))
local macro_rules | `(tactic| walk_at "call builtin:list.append") => `(tactic| (k_here; k_dflt (first
  | (refine' LS.appS ?S ?F ?N ?o ?c ?_; (case F => k_asm); (case N => k_asm); (case S => with_reducible assumption); (case o => with_reducible assumption); (case c => omega); k_whole; intro _ _ _ _ _ _)
  | (refine' LS.appL ?S ?F ?N ?o ?c ?_; (case F => k_asm); (case N => k_asm); (case S => with_reducible assumption); (case o => with_reducible assumption); (case c => omega); k_whole; intro _ _ _ _ _ _))))
local macro_rules | `(tactic| walk_at "eval ListComp") => `(tactic| (k_here; k_dflt (refine LCg.ListComp_U (F₀ := by k_asm) (by rfl) (by decide) (by rfl) (by decide) (by rfl) (wpAny_stop ?_))))
section
variable {w : World} {p : Program} {loose : List Str} {mean : ExcName → Option Value} {mg mb : Str → Option Value} {fa : Addr} {cd : Value}
    {base h₀ : Heap} {L : Addr} {m : Str → Option Value} {s : Shared} {nx own : List (Addr × Obj)} {sc tp Sd Af Lo : Addr} {v : LV} {Q : Flow → Shared → Prop}

structure LB (nx : List (Addr × Obj)) (L sc tp Sd Af Lo : Addr) (ns₀ : List Int) (z : Int) (i : Nat) (v : LV) : Prop where
  S : LS nx (L + 1) (L + 1 + 1) sc tp Sd Af Lo v
  ns : v.ns = ns₀
  size : v.size = z
  t0 : 0 ≤ v.ti
  t1 : v.ti ≤ 1 + 4 * (i : Int)
  sl : v.sides.length = i
  ll : v.lost.length = i
  rl : v.rows.length = i
  row : ∀ zs ∈ v.after, zs.length ≤ 3 ∧ ∀ x ∈ zs, -1 ≤ x ∧ x < z

theorem lbuild (B : Below callerA base [] h₀) (F : Fr h₀ L s.heap m) (X : (hd.heap_39 w.params).In h₀) (T : Top p loose mean mg mb h₀) {ns : List Int} {z : Nat}
    (N : News h₀ L s.heap nx) (S : LB nx L sc tp Sd Af Lo ns (z : Int) 0 v) (M : MR m Sd Af Lo) (hns : ns.length ≤ 63) (z0 : 0 < z) (z1 : z ≤ 10)
    (ret : ∀ nx' v' m' h' tk', Fr h₀ L h' m' → News h₀ L h' nx' → MR m' Sd Af Lo → LB nx' L sc tp Sd Af Lo ns (z : Int) z v' → Q .next { s with heap := h', toks := tk' }) :
    wpAny (model prog w) (callerA.deeper (lEnv fa cd L)) (exec (sub2 9 5) (lEnv fa cd L)) Q NoE s := by
  refine for_grow (h₀ := h₀) (x := "_") (iter := iterOf (sub2 9 5)) (body := bodyOf (sub2 9 5)) (nx := nx) (m := m) (n := z)
    (fun i m' nx' => MR m' Sd Af Lo ∧ ∃ v', LB nx' L sc tp Sd Af Lo ns (z : Int) i v')
    rfl rfl rfl (by omega) ?_ ⟨M, v, S⟩ ?_ ?_ (fun _ => rfl)
  · intro Q' hQ'
    obtain ⟨oz, tz, hcz, hdz⟩ := S.S.csize
    have hz := S.size
    rw [hz] at hdz
    simp only [lEnv, scopeOf, sub2, stm, nthS, bodyOf, iterOf, PySem.Challenge.pw_nt0417_01]
    k_steps
    exact hQ' _ _ _ _ _ _ (by assumption) (by assumption) (by assumption)
  · rintro i u m₁ nx₁ h tk own hi off ⟨M₁, v₁, S₁⟩ F₁ N₁
    have t0 := S₁.t0
    have t1 := S₁.t1
    have hsl := S₁.sl
    have hll := S₁.ll
    have hrl := S₁.rl
    have hz := S₁.size
    have M₁' : MR (fun y => if y = Str.ofString "_" then some (.int (i : Int) u) else m₁ y) Sd Af Lo := M₁.set (by decide)
    show wpAny _ _ (execs [sub3 9 5 0, sub3 9 5 1, sub3 9 5 2, sub3 9 5 3] _) _ _ _
    refine wpAny_execs_cons (b1 B F₁ X T N₁ off S₁.S (by rw [S₁.ns]; exact hns) t0 (by omega) fun r t nx2 h2 tk2 r0 r1 F2 N2 off2 S2 => ?_)
    have M2 := M₁'.set (x := Str.ofString "x") (v := some (.int r t)) (by decide)
    refine wpAny_execs_cons (b2 B F2 X T N2 off2 S2 (by dsimp only; omega) upd_eq M2.sides fun y nx3 h3 tk3 F3 N3 off3 S3 => ?_)
    refine wpAny_execs_cons (b3 B F3 X T N3 off3 S3 (by dsimp only; omega) upd_eq M2.lost fun y3 nx4 h4 tk4 F4 N4 off4 S4 => ?_)
    refine execs_one (b4 B F4 X T N4 off4 S4 (by rw [S₁.ns]; exact hns) (by dsimp only; omega) (by dsimp only; omega) (by dsimp only; omega) (by dsimp only; omega) (by dsimp only; omega) r0 r1 upd_eq M2.after fun D zs nx5 h5 tk5 ti q0 q1 q2 q3 F5 N5 off5 S5 => ?_)
    dsimp only at q0 q1 q3 S5
    refine grow_end F5 N5 off5 ⟨M2, _, S5, S₁.ns, hz, ?_, ?_, ?_, ?_, ?_, ?_⟩
    · dsimp only; omega
    · dsimp only; omega
    · simp [hsl]
    · simp [hll]
    · simp [hrl]
    · intro zs' hz'
      rcases List.mem_append.mp hz' with h' | h'
      · exact S₁.row zs' h'
      · rw [List.mem_singleton.mp h']
        exact ⟨q2, fun x hx => by have := q3 x hx; omega⟩
  · rintro m₁ nx₁ h tk ⟨M₁, v₁, S₁⟩ F₁ N₁
    exact ret nx₁ v₁ m₁ h tk F₁ N₁ M₁ S₁

def gOf (v : LV) : Gph := ⟨v.sides, v.after, v.lost⟩
theorem LB.ok {ns : List Int} {z : Nat} (S : LB nx L sc tp Sd Af Lo ns (z : Int) z v) (z1 : z ≤ 10) : (gOf v).Ok := by
  have hl : v.after.length = z := S.S.rl.symm.trans S.rl
  have mem : ∀ j, v.after.getD j [] = [] ∨ v.after.getD j [] ∈ v.after := fun j => by
    rw [List.getD_eq_getElem?_getD]
    by_cases h : j < v.after.length
    · rw [List.getElem?_eq_getElem h]; exact .inr (List.getElem_mem h)
    · rw [List.getElem?_eq_none (by omega)]; exact .inl rfl
  refine ⟨S.sl.trans hl.symm, S.ll.trans hl.symm, fun j => ?_, fun j x hx => ?_, by show v.after.length ≤ 10; omega⟩
  · show (v.after.getD j []).length ≤ 3
    rcases mem j with h | h
    · rw [h]; exact Nat.zero_le _
    · exact (S.row _ h).1
  · have hx' : x ∈ v.after.getD j [] := hx
    rcases mem j with h | h
    · rw [h] at hx'; cases hx'
    · have := (S.row _ h).2 x hx'
      show -1 ≤ x ∧ x < (v.after.length : Int)
      omega
end
section
variable {w : World} {p : Program} {loose : List Str} {mean : ExcName → Option Value} {mg mb : Str → Option Value} {env : Env}
    {base h₀ : Heap} {L : Addr} {m : Str → Option Value} {s : Shared} {nx own : List (Addr × Obj)} {ct cz sc tp Sd Af Lo Tl : Addr} {v : LV} {Q E : Value → Shared → Prop}
theorem new_news {h' : Heap} {b : Addr} {o : Obj} (F : Fr h₀ L s.heap m) (N : News h₀ L s.heap nx) (hk : ∀ b o, s.heap.get? b = some o → h'.get? b = some o) (hv : s.heap.get? b = none) (hg : h'.get? b = some o) :
    News h₀ L h' ((b, o) :: nx) := by
  intro q hq
  rcases List.mem_cons.mp hq with rfl | hq
  · refine ⟨hg, fun e => ?_, ?_⟩
    · have e' : b = L := e
      subst e'
      obtain ⟨o', _, _, ho, _⟩ := F.ns
      rw [hv] at ho
      cases ho
    · cases hb : h₀.get? b with
      | none => rfl
      | some o' => have := F.keep _ _ hb; rw [hv] at this; cases this
  · exact N.keepsAll hk q hq
theorem solve_law (B : Below callerA base [] h₀) (F : Fr h₀ L s.heap m) (X : (hd.heap_39 w.params).In h₀) (T : Top p loose mean mg mb h₀) (hf : env.frame = some L) (hke : env.scope.kind = .function)
    (N : News h₀ L s.heap nx) (S : LS nx ct cz sc tp Sd Af Lo v) (ok : (gOf v).Ok)
    (ret : ∀ Tl o t h' tk', Fr h₀ L h' m → News h₀ L h' ((Tl, o) :: nx) → ILn ((Tl, o) :: nx) Tl t → Told (gOf v) t → Q (.ref Tl) { s with heap := h', toks := tk' }) :
    wpAny (model prog w) (callerA.deeper env) (call (.ref 19) [.ref Sd, .ref Af, .ref Lo]) Q E s :=
  solve_told B F X T hf hke ok (S.s.il N) (S.a.rl N) (fun j b h => (S.r j b h).il N) (S.l.bl N) S.rl
    fun v vs n t h' tk' hk hv hg hi ht => ret v _ t h' tk' (F.keeps hk) (new_news F N hk hv hg) ⟨vs, n, .head _, hi⟩ ht
theorem rounds_law (B : Below callerA base [] h₀) (F : Fr h₀ L s.heap m) (X : (hd.heap_39 w.params).In h₀) (T : Top p loose mean mg mb h₀) (hf : env.frame = some L) (hke : env.scope.kind = .function)
    (N : News h₀ L s.heap nx) (S : LS nx ct cz sc tp Sd Af Lo v) (ok : (gOf v).Ok) {t : List Int} (ht : Told (gOf v) t)
    (ret : ∀ Tl o h' tk', Fr h₀ L h' m → News h₀ L h' ((Tl, o) :: nx) → ILn ((Tl, o) :: nx) Tl t → Q (.ref Tl) { s with heap := h', toks := tk' }) :
    wpAny (model prog w) (callerA.deeper env) (call (.ref 31) [.ref Sd, .ref Af, .ref Lo]) Q E s :=
  rounds_told B F X T hf hke ok (S.s.il N) (S.a.rl N) (fun j b h => (S.r j b h).il N) (S.l.bl N) S.rl
    fun v vs n t' h' tk' hk hv hg hi ht' => by
      have e := ht'.unique ht
      subst e
      exact ret v _ h' tk' (F.keeps hk) (new_news F N hk hv hg) ⟨vs, n, .head _, hi⟩
theorem held_law (B : Below callerA base [] h₀) (F : Fr h₀ L s.heap m) (X : (hd.heap_39 w.params).In h₀) (T : Top p loose mean mg mb h₀) (hf : env.frame = some L) (hke : env.scope.kind = .function)
    (N : News h₀ L s.heap nx) (S : LS nx ct cz sc tp Sd Af Lo v) (ok : (gOf v).Ok) {t : List Int} (ht : Told (gOf v) t) (hT : ILn nx Tl t) {n : Int} {tk : Tok} (n0 : 0 ≤ n) (n1 : n < v.after.length) (hn : gi t n = -1)
    (ret : ∀ h' tk', Fr h₀ L h' m → News h₀ L h' nx → Q (.bool true) { s with heap := h', toks := tk' }) :
    wpAny (model prog w) (callerA.deeper env) (call (.ref 36) [.ref Sd, .ref Af, .ref Tl, .int n tk]) Q E s :=
  held_told B F X T hf hke ok ht (S.s.il N) (S.a.rl N) (fun j b h => (S.r j b h).il N) (hT.il N) S.rl n0 n1 hn
    fun h' tk' hk => ret h' tk' (F.keeps hk) (N.keepsAll hk)
theorem ne_same {A : Around} {a b : Addr} {ns : List Int} {prog : Program} {w : World} (ha : IL s.heap a ns) (hb : IL s.heap b ns) (hu : A.units + 64 < cLine) (h : Q (.bool false) s) : wpAny (model prog w) A (compareOp .NotEq (.ref a) (.ref b)) Q E s :=
  ne_i ha hb hu (by rw [decide_eq_true rfl]; exact h)
end
end Mine
end
section
open PySem PySem.W PyProof.Rows
set_option maxRecDepth 100000
set_option maxHeartbeats 1000000
namespace Mine
open PySem.Calls PySem.Spec
local macro_rules | `(tactic| ktr_rel) => `(tactic| first
  | exact IL.keeps (by with_reducible assumption) (Fr.keep (by k_asm))
  | exact RL.keeps (by with_reducible assumption) (Fr.keep (by k_asm))
  | exact BL.keeps (by with_reducible assumption) (Fr.keep (by k_asm))
  | exact IL.keeps (RowsAre.at (by with_reducible assumption) (by with_reducible assumption)) (Fr.keep (by k_asm))
  | exact ILn.il (by k_asm) (by with_reducible assumption)
  | exact ILn.il (by k_asm) ⟨_, _, by k_mem, by with_reducible assumption⟩
  | exact ILn.il (by k_asm) ⟨[], _, by k_mem, IntsAre.nil⟩)
local macro_rules | `(tactic| walk_at "call builtin:len") => `(tactic| (k_here; (with_reducible show wpAny _ _ (call (Value.builtin "len") [Value.ref _]) _ _ _); k_dflt (first
  | (refine' len_r ?l ?c ?_; (case l => ktr_rel); (case c => omega); k_whole; intro _ _)
  | (refine' len_i ?l ?c ?_; (case l => ktr_rel); (case c => omega); k_whole; intro _ _))))
local macro_rules | `(tactic| walk_at "subscriptTail") => `(tactic| (k_here; (with_reducible show wpAny _ _ (subscriptTail _ _ (Value.ref _) (Value.int _ _)) _ _ _); k_dflt (first
  | (refine' item_i ?l ?a ?b ?c ?_ ?z; (case l => ktr_rel); (case a => omega); (case b => omega); (case c => omega); (case z => with_unfolding_all rfl); k_whole; intro _)
  | (refine' item_b ?l ?a ?b ?c ?_ ?z; (case l => ktr_rel); (case a => omega); (case b => omega); (case c => omega); (case z => with_unfolding_all rfl); k_whole)
  | (refine' item_r ?l ?a ?b ?c ?_ ?z; (case l => ktr_rel); (case a => omega); (case b => omega); (case c => omega); (case z => with_unfolding_all rfl); k_whole; intro _ _))))
local macro_rules | `(tactic| walk_at "getItem ref int") => `(tactic| (k_here; (with_reducible show wpAny _ _ (getItem (Value.ref _) (Value.int _ _)) _ _ _); k_dflt (
  (refine' get_i ?l ?a ?b ?c ?_; (case l => ktr_rel); (case a => omega); (case b => omega); (case c => omega); k_whole; intro _))))
local macro_rules | `(tactic| walk_at "eval Name") => `(tactic| (k_here; k_dflt (refine' nameX_L ?F ?v ?_ ?a ?b; (case F => k_asm); (case a => rfl); (case b => rfl); (case v => assumption); k_whole)))
local macro_rules | `(tactic| walk_at "loadName") => `(tactic| (k_here; k_dflt (refine' load_L ?F ?v ?_ ?a ?b; (case F => k_asm); (case a => rfl); (case b => rfl); (case v => assumption); k_whole)))
local macro_rules | `(tactic| walk_at "compareOp Eq ref ref") => `(tactic| (k_here; k_dflt (refine' eq_i ?a ?b ?u ?_; (case a => ktr_rel); (case b => ktr_rel); (case u => k_units); k_whole)))
local macro_rules | `(tactic| walk_at "compareOp NotEq ref ref") => `(tactic| (k_here; k_dflt (refine' ne_i ?a ?b ?u ?_; (case a => ktr_rel); (case b => ktr_rel); (case u => k_units); k_whole)))
local macro_rules | `(tactic| walk_at "eval Name") => `(tactic| (k_here; k_dflt (refine' nameX_C ?N ?c ?m ?d ?_ ?a ?b; (case a => rfl); (case b => rfl); (case N => k_asm); (case c => rfl); (case m => first | with_reducible assumption | exact List.mem_append.mpr (.inl (by with_reducible assumption))); (case d => with_reducible assumption); k_whole)))
local macro_rules | `(tactic| walk_at "call ref") => `(tactic| (k_here; (with_reducible show wpAny _ _ (call (Value.ref 26) _) _ _ _); k_dflt (refine' take_spec ?B ?F ?X ?N ?T ?k ?hT ?hS ?ne ?hns ?h0 ?h1 ?hn ?hn2 ?_; (case B => k_asm); (case F => k_asm); (case X => k_asm); (case N => k_asm); (case T => k_asm); (case k => exact rfl); (case hT => with_reducible assumption); (case hS => with_reducible assumption); (case ne => with_reducible assumption); (case hns => with_reducible assumption); (case h0 => omega); (case h1 => omega); (case hn => omega); (case hn2 => omega); k_whole; intro r9 t9 t8 h9 tk9 r0 r1 F9 N9)))
local macro_rules | `(tactic| walk_at "call type:range") => `(tactic| (k_here; k_dflt (refine' range_n ?F ?N ?_; (case F => k_asm); (case N => k_asm); k_whole); intro r7 h7 tk7 t7 u7 v7 F7 N7 R7))
local macro_rules | `(tactic| walk_at "getMethod ref") => `(tactic| (k_here; k_dflt (refine' meth_n ?N ?m ?c ?d ?_; (case N => k_asm); (case m => with_reducible assumption); (case c => rfl); (case d => rfl); k_whole)))
local macro_rules | `(tactic| walk_at "call builtin:list.append") => `(tactic| (k_here; k_dflt (first
  | (refine' LS.appS ?S ?F ?N ?o ?c ?_; (case F => k_asm); (case N => k_asm); (case S => with_reducible assumption); (case o => with_reducible assumption); (case c => omega); k_whole; intro _ _ _ _ _ _)
  | (refine' LS.appL ?S ?F ?N ?o ?c ?_; (case F => k_asm); (case N => k_asm); (case S => with_reducible assumption); (case o => with_reducible assumption); (case c => omega); k_whole; intro _ _ _ _ _ _))))
local macro_rules | `(tactic| walk_at "eval ListComp") => `(tactic| (k_here; k_dflt (refine LCg.ListComp_U (F₀ := by k_asm) (by rfl) (by decide) (by rfl) (by decide) (by rfl) (wpAny_stop ?_))))
local macro_rules | `(tactic| walk_at "call ref") => `(tactic| (k_here; k_dflt (first
  | ((with_reducible show wpAny _ _ (call (Value.ref 19) _) _ _ _); (refine' solve_law ?B ?F ?X ?T ?hf ?hke ?N ?S ?ok ?_; (case B => k_asm); (case F => k_asm); (case X => k_asm); (case T => k_asm); (case hf => exact rfl); (case hke => exact rfl); (case N => k_asm); (case S => with_reducible assumption); (case ok => with_reducible assumption); k_whole; intro _ _ _ _ _ _ _ _ _))
  | ((with_reducible show wpAny _ _ (call (Value.ref 31) _) _ _ _); (refine' rounds_law ?B ?F ?X ?T ?hf ?hke ?N ?S ?ok ?ht ?_; (case B => k_asm); (case F => k_asm); (case X => k_asm); (case T => k_asm); (case hf => exact rfl); (case hke => exact rfl); (case N => k_asm); (case S => with_reducible assumption); (case ok => with_reducible assumption); (case ht => with_reducible assumption); k_whole; intro _ _ _ _ _ _ _))
  | ((with_reducible show wpAny _ _ (call (Value.ref 36) _) _ _ _); (refine' held_law ?B ?F ?X ?T ?hf ?hke ?N ?S ?ok ?ht ?hT ?n0 ?n1 ?hn ?_; (case B => k_asm); (case F => k_asm); (case X => k_asm); (case T => k_asm); (case hf => exact rfl); (case hke => exact rfl); (case N => k_asm); (case S => with_reducible assumption); (case ok => with_reducible assumption); (case ht => with_reducible assumption); (case hT => with_reducible assumption); (case n0 => omega); (case n1 => omega); (case hn => assumption); k_whole; intro _ _ _ _)))))
local macro_rules | `(tactic| walk_at "compareOp NotEq ref ref") => `(tactic| (k_here; k_dflt (refine' ne_same ?a ?b ?u ?_; (case a => first | exact ILn.il (by k_asm) (by with_reducible assumption) | exact ILn.il (by k_asm) (ILn.sub (by with_reducible assumption) fun _ hp => .tail _ hp)); (case b => ktr_rel); (case u => k_units); k_whole)))
section
variable {w : World} {p : Program} {loose : List Str} {mean : ExcName → Option Value} {mg mb : Str → Option Value} {fa : Addr} {cd : Value}
    {base h₀ : Heap} {L : Addr} {m : Str → Option Value} {s : Shared} {nx own : List (Addr × Obj)} {sc tp Sd Af Lo Tl : Addr} {v : LV} {t : List Int} {Q : Flow → Shared → Prop}
theorem lp6 (B : Below callerA base [] h₀) (F : Fr h₀ L s.heap m) (X : (hd.heap_39 w.params).In h₀) (T : Top p loose mean mg mb h₀)
    (N : News h₀ L s.heap nx) (S : LS nx (L + 1) (L + 1 + 1) sc tp Sd Af Lo v) (ok : (gOf v).Ok) (M : MR m Sd Af Lo)
    (ret : ∀ Tl o t m' h' tk', Fr h₀ L h' m' → News h₀ L h' ((Tl, o) :: nx) → MR m' Sd Af Lo → m' "told" = some (.ref Tl) → ILn ((Tl, o) :: nx) Tl t → Told (gOf v) t → Q .next { s with heap := h', toks := tk' }) :
    wpAny (model prog w) (callerA.deeper (lEnv fa cd L)) (exec (sub2 9 6) (lEnv fa cd L)) Q NoE s := by
  obtain ⟨ms, ma, ml⟩ := id M
  simp only [lEnv, scopeOf, sub2, stm, nthS, bodyOf, PySem.Challenge.pw_nt0417_01]
  k_steps
  exact ret _ _ _ _ _ _ (by assumption) (by assumption) (M.set (by decide)) upd_eq (by assumption) (by assumption)
theorem lp7 (B : Below callerA base [] h₀) (F : Fr h₀ L s.heap m) (X : (hd.heap_39 w.params).In h₀) (T : Top p loose mean mg mb h₀)
    (N : News h₀ L s.heap nx) (S : LS nx (L + 1) (L + 1 + 1) sc tp Sd Af Lo v) (ok : (gOf v).Ok) (M : MR m Sd Af Lo) (mt : m "told" = some (.ref Tl)) (hT : ILn nx Tl t) (ht : Told (gOf v) t)
    (ret : ∀ o h' tk', Fr h₀ L h' m → News h₀ L h' (o :: nx) → Q .next { s with heap := h', toks := tk' }) :
    wpAny (model prog w) (callerA.deeper (lEnv fa cd L)) (exec (sub2 9 7) (lEnv fa cd L)) Q NoE s := by
  obtain ⟨ms, ma, ml⟩ := id M
  simp only [lEnv, scopeOf, sub2, stm, nthS, bodyOf, PySem.Challenge.pw_nt0417_01]
  k_steps
  exact ret _ _ _ (by assumption) (by assumption)
theorem lp8b (B : Below callerA base [] h₀) (F : Fr h₀ L s.heap m) (X : (hd.heap_39 w.params).In h₀) (T : Top p loose mean mg mb h₀)
    (N : News h₀ L s.heap nx) (S : LS nx (L + 1) (L + 1 + 1) sc tp Sd Af Lo v) (ok : (gOf v).Ok) (M : MR m Sd Af Lo) (mt : m "told" = some (.ref Tl)) (hT : ILn nx Tl t) (ht : Told (gOf v) t) {n : Int} {tk : Tok} (n0 : 0 ≤ n) (n1 : n < v.after.length) (hl : v.after.length ≤ 10) (mn : m "n" = some (.int n tk))
    (ret : ∀ h' tk', Fr h₀ L h' m → News h₀ L h' nx → Q .next { s with heap := h', toks := tk' }) :
    wpAny (model prog w) (callerA.deeper (lEnv fa cd L)) (execs (bodyOf (sub2 9 8)) (lEnv fa cd L)) Q NoE s := by
  obtain ⟨ms, ma, ml⟩ := id M
  have tl : t.length = v.after.length := ht.len
  simp only [lEnv, scopeOf, sub2, stm, nthS, bodyOf, PySem.Challenge.pw_nt0417_01]
  k_steps
  · exact ret _ _ (by assumption) (by assumption)
  · exact ret _ _ (by assumption) (by assumption)
end
end Mine
end
section
open PySem PySem.W PyProof.Rows
set_option maxRecDepth 100000
set_option maxHeartbeats 1000000
namespace Mine
open PySem.Calls PySem.Spec
local macro_rules | `(tactic| ktr_rel) => `(tactic| first
  | exact IL.keeps (by with_reducible assumption) (Fr.keep (by k_asm))
  | exact RL.keeps (by with_reducible assumption) (Fr.keep (by k_asm))
  | exact BL.keeps (by with_reducible assumption) (Fr.keep (by k_asm))
  | exact IL.keeps (RowsAre.at (by with_reducible assumption) (by with_reducible assumption)) (Fr.keep (by k_asm))
  | exact ILn.il (by k_asm) (by with_reducible assumption)
  | exact ILn.il (by k_asm) ⟨_, _, by k_mem, by with_reducible assumption⟩
  | exact ILn.il (by k_asm) ⟨[], _, by k_mem, IntsAre.nil⟩)
local macro_rules | `(tactic| walk_at "call builtin:len") => `(tactic| (k_here; (with_reducible show wpAny _ _ (call (Value.builtin "len") [Value.ref _]) _ _ _); k_dflt (first
  | (refine' len_r ?l ?c ?_; (case l => ktr_rel); (case c => omega); k_whole; intro _ _)
  | (refine' len_i ?l ?c ?_; (case l => ktr_rel); (case c => omega); k_whole; intro _ _))))
local macro_rules | `(tactic| walk_at "subscriptTail") => `(tactic| (k_here; (with_reducible show wpAny _ _ (subscriptTail _ _ (Value.ref _) (Value.int _ _)) _ _ _); k_dflt (first
  | (refine' item_i ?l ?a ?b ?c ?_ ?z; (case l => ktr_rel); (case a => omega); (case b => omega); (case c => omega); (case z => with_unfolding_all rfl); k_whole; intro _)
  | (refine' item_b ?l ?a ?b ?c ?_ ?z; (case l => ktr_rel); (case a => omega); (case b => omega); (case c => omega); (case z => with_unfolding_all rfl); k_whole)
  | (refine' item_r ?l ?a ?b ?c ?_ ?z; (case l => ktr_rel); (case a => omega); (case b => omega); (case c => omega); (case z => with_unfolding_all rfl); k_whole; intro _ _))))
local macro_rules | `(tactic| walk_at "getItem ref int") => `(tactic| (k_here; (with_reducible show wpAny _ _ (getItem (Value.ref _) (Value.int _ _)) _ _ _); k_dflt (
  (refine' get_i ?l ?a ?b ?c ?_; (case l => ktr_rel); (case a => omega); (case b => omega); (case c => omega); k_whole; intro _))))
local macro_rules | `(tactic| walk_at "eval Name") => `(tactic| (k_here; k_dflt (refine' nameX_L ?F ?v ?_ ?a ?b; (case F => k_asm); (case a => rfl); (case b => rfl); (case v => assumption); k_whole)))
local macro_rules | `(tactic| walk_at "loadName") => `(tactic| (k_here; k_dflt (refine' load_L ?F ?v ?_ ?a ?b; (case F => k_asm); (case a => rfl); (case b => rfl); (case v => assumption); k_whole)))
local macro_rules | `(tactic| walk_at "compareOp Eq ref ref") => `(tactic| (k_here; k_dflt (refine' eq_i ?a ?b ?u ?_; (case a => ktr_rel); (case b => ktr_rel); (case u => k_units); k_whole)))
local macro_rules | `(tactic| walk_at "compareOp NotEq ref ref") => `(tactic| (k_here; k_dflt (refine' ne_i ?a ?b ?u ?_; (case a => ktr_rel); (case b => ktr_rel); (case u => k_units); k_whole)))
local macro_rules | `(tactic| walk_at "eval Name") => `(tactic| (k_here; k_dflt (refine' nameX_C ?N ?c ?m ?d ?_ ?a ?b; (case a => rfl); (case b => rfl); (case N => k_asm); (case c => rfl); (case m => first | with_reducible assumption | exact List.mem_append.mpr (.inl (by with_reducible assumption))); (case d => with_reducible assumption); k_whole)))
local macro_rules | `(tactic| walk_at "call ref") => `(tactic| (k_here; (with_reducible show wpAny _ _ (call (Value.ref 26) _) _ _ _); k_dflt (refine' take_spec ?B ?F ?X ?N ?T ?k ?hT ?hS ?ne ?hns ?h0 ?h1 ?hn ?hn2 ?_; (case B => k_asm); (case F => k_asm); (case X => k_asm); (case N => k_asm); (case T => k_asm); (case k => exact rfl); (case hT => with_reducible assumption); (case hS => with_reducible assumption); (case ne => with_reducible assumption); (case hns => with_reducible assumption); (case h0 => omega); (case h1 => omega); (case hn => omega); (case hn2 => omega); k_whole; intro r9 t9 t8 h9 tk9 r0 r1 F9 N9)))
local macro_rules | `(tactic| walk_at "call type:range") => `(tactic| (k_here; k_dflt (refine' range_n ?F ?N ?_; (case F => k_asm); (case N => k_asm); k_whole); intro r7 h7 tk7 t7 u7 v7 F7 N7 R7))
local macro_rules | `(tactic| walk_at "getMethod ref") => `(tactic| (k_here; k_dflt (refine' meth_n ?N ?m ?c ?d ?_; (case N => k_asm); (case m => with_reducible assumption); (case c => rfl); (case d => rfl); k_whole)))
local macro_rules | `(tactic| walk_at "call builtin:list.append") => `(tactic| (k_here; k_dflt (first
  | (refine' LS.appS ?S ?F ?N ?o ?c ?_; (case F => k_asm); (case N => k_asm); (case S => with_reducible assumption); (case o => with_reducible assumption); (case c => omega); k_whole; intro _ _ _ _ _ _)
  | (refine' LS.appL ?S ?F ?N ?o ?c ?_; (case F => k_asm); (case N => k_asm); (case S => with_reducible assumption); (case o => with_reducible assumption); (case c => omega); k_whole; intro _ _ _ _ _ _))))
local macro_rules | `(tactic| walk_at "eval ListComp") => `(tactic| (k_here; k_dflt (refine LCg.ListComp_U (F₀ := by k_asm) (by rfl) (by decide) (by rfl) (by decide) (by rfl) (wpAny_stop ?_))))
section
variable {w : World} {p : Program} {loose : List Str} {mean : ExcName → Option Value} {mg mb : Str → Option Value} {fa : Addr} {cd : Value}
    {base h₀ : Heap} {L : Addr} {m : Str → Option Value} {s : Shared} {nx own : List (Addr × Obj)} {sc tp Sd Af Lo Tl : Addr} {v : LV} {t : List Int} {Q : Flow → Shared → Prop}
theorem lp8 (B : Below callerA base [] h₀) (F : Fr h₀ L s.heap m) (X : (hd.heap_39 w.params).In h₀) (T : Top p loose mean mg mb h₀)
    (N : News h₀ L s.heap nx) (S : LS nx (L + 1) (L + 1 + 1) sc tp Sd Af Lo v) (ok : (gOf v).Ok) (M : MR m Sd Af Lo) (mt : m "told" = some (.ref Tl)) (hT : ILn nx Tl t) (ht : Told (gOf v) t) {z : Nat} (hz : v.size = (z : Int)) (hl : v.after.length = z) (z1 : z ≤ 10)
    (ret : ∀ m' h' tk', Fr h₀ L h' m' → Q .next { s with heap := h', toks := tk' }) :
    wpAny (model prog w) (callerA.deeper (lEnv fa cd L)) (exec (sub2 9 8) (lEnv fa cd L)) Q NoE s := by
  refine for_range (h₀ := h₀) (x := "n") (iter := iterOf (sub2 9 8)) (body := bodyOf (sub2 9 8)) (nx := nx) (m := m) (n := z)
    (fun _ m' nx' => nx' = nx ∧ MR m' Sd Af Lo ∧ m' "told" = some (.ref Tl))
    rfl rfl rfl (by omega) ?_ ⟨rfl, M, mt⟩ ?_ ?_ (fun _ => rfl)
  · intro Q' hQ'
    obtain ⟨oz, tz, hcz, hdz⟩ := S.csize
    rw [hz] at hdz
    simp only [lEnv, scopeOf, sub2, stm, nthS, bodyOf, iterOf, PySem.Challenge.pw_nt0417_01]
    k_steps
    exact hQ' _ _ _ _ _ _ (by assumption) (by assumption) (by assumption)
  · rintro i u m₁ nx₁ h tk own hi _ hoff ⟨rfl, M₁, mt₁⟩ F₁ N₁
    have hs : ∀ q ∈ nx₁, q ∈ nx₁ ++ own := fun q hq => List.mem_append.mpr (.inl hq)
    refine lp8b B F₁ X T N₁ (S.sub hs) ok (M₁.set (by decide)) (upd_ne mt₁ (by decide)) (hT.sub hs) ht (n := (i : Int)) (by omega) (by omega) (by omega) upd_eq fun h' tk' F' N' => ?_
    exact inv_end F' N' rfl ⟨rfl, M₁.set (by decide), upd_ne mt₁ (by decide)⟩
  · rintro m₁ nx₁ h tk ⟨rfl, M₁, mt₁⟩ F₁ N₁
    exact ret m₁ h tk F₁
theorem lp9 (F : Fr h₀ L s.heap m) (ret : ∀ tk', Q (.ret (.bool true)) { s with toks := tk' }) :
    wpAny (model prog w) (callerA.deeper (lEnv fa cd L)) (exec (sub2 9 9) (lEnv fa cd L)) Q NoE s := by
  simp only [lEnv, scopeOf, sub2, stm, nthS, bodyOf, PySem.Challenge.pw_nt0417_01]
  k_steps
  exact ret _
theorem six (a b c d : Nat) (h : b = a + 1) (h1 : b < c) (h2 : c < d) : d ≠ b ∧ c ≠ d ∧ c ≠ b ∧ b ≠ d ∧ a ≠ d ∧ a ≠ b := by omega
theorem four (a b c d e f g : Nat) (h : b = a + 1) (h1 : b < c) (h2 : c < d) (h3 : d < e) (h4 : e < f) (h5 : f < g) :
    (a ≠ d ∧ b ≠ d ∧ c ≠ d ∧ e ≠ d ∧ f ≠ d ∧ g ≠ d) ∧ (a ≠ e ∧ b ≠ e ∧ c ≠ e ∧ d ≠ e ∧ f ≠ e ∧ g ≠ e) ∧ (a ≠ f ∧ b ≠ f ∧ c ≠ f ∧ d ≠ f ∧ e ≠ f ∧ g ≠ f) ∧ (a ≠ g ∧ b ≠ g ∧ c ≠ g ∧ d ≠ g ∧ e ≠ g ∧ f ≠ g) := by omega
theorem all6 {a b c d e f z : Addr} (h : a ≠ z ∧ b ≠ z ∧ c ≠ z ∧ d ≠ z ∧ e ≠ z ∧ f ≠ z) : ∀ y ∈ [a, b, c, d, e, f], y ≠ z := by
  obtain ⟨h1, h2, h3, h4, h5, h6⟩ := h
  intro y hy
  simp only [List.mem_cons, List.not_mem_nil, or_false] at hy
  rcases hy with rfl | rfl | rfl | rfl | rfl | rfl <;> assumption
theorem law_spec (B : Below callerA base [] h₀) (F : Fr h₀ L s.heap m) (X : (hd.heap_39 w.params).In h₀) (T : Top p loose mean mg mb h₀) {oz ot : Obj} {a : Addr} {vs : List Value} {ns : List Int}
    (N : News h₀ L s.heap [(L + 1 + 1, oz), (L + 1, ot)]) (hz : oz.data = .cell none) (ht : ot.data = .cell none) (hl : h₀.IsList a vs.toArray) (hi : IntsAre vs ns) (hns : ns.length ≤ 63) (msc : m "script" = some (.ref a))
    (ret : ∀ m' h' tk', Fr h₀ L h' m' → Q (.ret (.bool true)) { s with heap := h', toks := tk' }) :
    wpAny (model prog w) (callerA.deeper (lEnv fa cd L)) (execs (bodyOf (stm 9)) (lEnv fa cd L)) Q NoE s := by
  show wpAny _ _ (execs ([sub2 9 0, sub2 9 1] ++ ([sub2 9 2, sub2 9 3, sub2 9 4] ++ [sub2 9 5, sub2 9 6, sub2 9 7, sub2 9 8, sub2 9 9])) _) _ _ _
  refine execs_append _ _ (wpAny_execs_cons (lp0 B F X T N hz ht hl hi hns msc fun sc tp ws o t0 h1 tk1 a1 a2 hws hd1 F1 N1 => execs_one ?_))
  have hL : L + 1 < L + 1 + 1 := Nat.lt_succ_self _
  have hlen : (ns.take 63).length ≤ 63 := by rw [List.length_take]; omega
  refine lp1 B F1 X T N1 (sc := sc) (tp := tp) (.tail _ (.tail _ (.head _))) (.tail _ (.tail _ (.tail _ (.head _)))) hz hd1 (.head _) ⟨ws, 0, .tail _ (.head _), hws⟩ hlen (Nat.ne_of_lt a2) (Nat.ne_of_lt (Nat.lt_trans a1 a2)) fun r t1 t2 o2 h2 tk2 r0 r1 hd2 F2 N2 => ?_
  have hput : (put (L + 1 + 1) o2 (put tp (W.listOf [Value.ref sc, .int (0 + 1) t2].toArray 0) [(tp, W.listOf [Value.ref sc, .int 0 t0].toArray 0), (sc, W.listOf (List.toArray ws) 0), (L + 1 + 1, oz), (L + 1, o)]))
      = [(tp, W.listOf [Value.ref sc, .int (0 + 1) t2].toArray 0), (sc, W.listOf (List.toArray ws) 0), (L + 1 + 1, o2), (L + 1, o)] := by
    obtain ⟨n1, n2, n3, n4, n5, n6⟩ := six (L + 1) (L + 1 + 1) sc tp rfl a1 a2
    simp only [put, List.map_cons, List.map_nil, n1, n2, n3, n4, n5, n6, if_true, if_false]
  rw [hput] at N2
  refine execs_append _ _ (lp2 B F2 X T N2 fun Sd Af Lo m3 h3 tk3 b1 b2 b3 F3 M3 N3 => ?_)
  obtain ⟨z, rfl⟩ : ∃ z : Nat, r = (z : Int) := ⟨r.toNat, by omega⟩
  have c1 := b1 _ (.head _)
  dsimp only at c1
  obtain ⟨q1, q2, q3, q4⟩ := four (L + 1) (L + 1 + 1) sc tp Sd Af Lo rfl a1 a2 c1 b2 b3
  have LB0 : LB ((Lo, W.listOf [].toArray 0) :: (Af, W.listOf [].toArray 0) :: (Sd, W.listOf [].toArray 0) :: [(tp, W.listOf [Value.ref sc, .int (0 + 1) t2].toArray 0), (sc, W.listOf (List.toArray ws) 0), (L + 1 + 1, o2), (L + 1, o)])
      L sc tp Sd Af Lo (ns.take 63) (z : Int) 0 ⟨ns.take 63, 0 + 1, z, [], [], [], []⟩ := by
    refine ⟨⟨⟨o, by simp, hd1⟩, ⟨o2, t1, by simp, hd2⟩, ⟨t2, 0, by simp⟩, ⟨ws, 0, by simp, hws⟩, ⟨[], 0, by simp, .nil⟩, ⟨0, by simp⟩, ⟨0, by simp⟩, fun j b h => by simp at h, rfl, all6 q1, all6 q2, all6 q3, all6 q4⟩, rfl, rfl, by dsimp only; omega, by dsimp only; omega, rfl, rfl, rfl, fun _ h => by cases h⟩
  refine wpAny_execs_cons (lbuild B F3 X T N3 LB0 M3 hlen (by omega) (by omega) fun nx4 v m4 h4 tk4 F4 N4 M4 S4 => ?_)
  have ok := S4.ok (by omega)
  refine wpAny_execs_cons (lp6 B F4 X T N4 S4.S ok M4 fun Tl o5 t5 m5 h5 tk5 F5 N5 M5 mt5 hT5 ht5 => ?_)
  have S5 := S4.S.sub (ny := (Tl, o5) :: nx4) fun _ h => .tail _ h
  refine wpAny_execs_cons (lp7 B F5 X T N5 S5 ok M5 mt5 hT5 ht5 fun o6 h6 tk6 F6 N6 => ?_)
  refine wpAny_execs_cons (lp8 B F6 X T N6 (S5.sub fun _ h => .tail _ h) ok M5 mt5 (hT5.sub fun _ h => .tail _ h) ht5 S4.size (S4.S.rl.symm.trans S4.rl) (by omega) fun m7 h7 tk7 F7 => ?_)
  exact execs_one (lp9 F7 fun tk8 => ret m7 h7 tk8 F7)
end
end Mine
end
section
open PySem PySem.W PyProof.Rows
set_option maxRecDepth 100000
set_option maxHeartbeats 8000000
namespace Mine
theorem whole : PySem.Challenge.rw_nt0417_01.Holds := hd (by
  k_go0
  rename_i w s₀ s₁ mg mb G Y fa o pm doc ho hg KX X V GL T B TE TW w11 w10 M w9 w8 hcd ns hsh hlay hL1 hr1 hl2 w6 w5 a vs w2 hL ra w1 r0 hI hrW hc1 hc0 K0 hDf h₁ tk₁ F oz ot d1 d2 N Y0
  refine wpAny_mono (law_spec K0 F KX T N d1 d2 hL hI (by omega) rfl ?ret) (fun _ _ q => q) (fun _ _ e => e.elim)
  intro m' h' tk' F'
  clear F N
  k_steps)
end Mine
end
theorem PySem.Challenge.cw_nt0417_01_holds : PySem.Challenge.rw_nt0417_01.Holds := by
  exact Mine.whole
