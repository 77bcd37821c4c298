import PyProof.Rows.All
import Wide.All
import OpenK.AllK
import Wide.FinOn
import PySem.Challenge.RW_sm0055_01
open PySem PySem.W PyProof.Rows
set_option Elab.async false
set_option linter.unusedVariables false
set_option linter.unusedSectionVars false
namespace Mine
set_option maxRecDepth 100000 in
set_option maxHeartbeats 8000000 in
open_top hd for PySem.Challenge.rw_sm0055_01

section
open PySem PySem.W PyProof.Rows PySem.Calls PySem.Spec
/-- the same pick of the ints -/
def pickI (l : List Int) (lo hi st : Option Int) : List Int :=
  (sliceRange (sliceBounds lo hi st l.length).1 (sliceBounds lo hi st l.length).2.1 (sliceBounds lo hi st l.length).2.2).filterMap (l[·]?)
theorem ints_filterMap {us : List Value} {l : List Int} (hi : IntsAre us l) : ∀ idx : List Nat, IntsAre (idx.filterMap (us[·]?)) (idx.filterMap (l[·]?))
  | [] => .nil
  | i :: r => by
    have ih := ints_filterMap hi r
    have hlen := hi.length
    rw [List.filterMap_cons, List.filterMap_cons]
    cases h : us[i]? with
    | none =>
      have : l[i]? = none := by rw [List.getElem?_eq_none_iff] at h ⊢; lia
      rw [this]
      exact ih
    | some v =>
      obtain ⟨k, t, e, hk⟩ := IntsAre.at hi i v h
      rw [hk, e]
      exact .cons k t ih
theorem ints_pick {us : List Value} {l : List Int} (hi : IntsAre us l) (lo hi' st : Option Int) : IntsAre (slicePick us.toArray lo hi' st).toList (pickI l lo hi' st) := by
  unfold slicePick pickI
  rw [List.size_toArray, hi.length]
  simpa using ints_filterMap hi _
section
variable {prog : Program} {w : World} {A : Around} {E : Value → Shared → Prop} {s : Shared} {h₀ : Heap} {L : Addr} {news : List (Addr × Obj)} {a b : Addr} {us vs : List Value} {ns l : List Int} {lo hi st : Option Int} {n k : Nat} {Q : Value → Shared → Prop}
theorem pick_list (N : News h₀ L s.heap news) (hb : (b, listOf (slicePick us.toArray lo hi st) k) ∈ news) : s.heap.IsList b (slicePick us.toArray lo hi st).toList.toArray := by
  rw [Array.toArray_toList]
  exact N.isList hb
theorem ne_pick (N : News h₀ L s.heap news) (ha : (a, listOf vs.toArray n) ∈ news) (hv : IntsAre vs ns) (hb : (b, listOf (slicePick us.toArray lo hi st) k) ∈ news) (hu : IntsAre us l) (hr : A.units + 64 < cLine)
    (h : Q (.bool (!decide (ns = pickI l lo hi st))) s) : wpAny (model prog w) A (compareOp .NotEq (.ref a) (.ref b)) Q E s :=
  ne_intsK (N.isList ha) hv (pick_list N hb) (ints_pick hu lo hi st) hr h
theorem eq_pick (N : News h₀ L s.heap news) (ha : (a, listOf vs.toArray n) ∈ news) (hv : IntsAre vs ns) (hb : (b, listOf (slicePick us.toArray lo hi st) k) ∈ news) (hu : IntsAre us l) (hr : A.units + 64 < cLine)
    (h : Q (.bool (decide (ns = pickI l lo hi st))) s) : wpAny (model prog w) A (compareOp .Eq (.ref a) (.ref b)) Q E s :=
  eq_intsK (N.isList ha) hv (pick_list N hb) (ints_pick hu lo hi st) hr h
end
end

section
/-- what a body's walk is to reach, as one name, and no error: its steps then do not spell them out -/
theorem gen_q {M : Model} {A : Around} {α : Type} {tree : Sem α} {Q : α → Shared → Prop} {E : Value → Shared → Prop} {s : Shared}
    (h : ∀ Q' : α → Shared → Prop, (∀ x s', Q x s' → Q' x s') → wpAny M A tree Q' (fun _ _ => False) s) : wpAny M A tree Q E s := wpAny_mono (h Q fun _ _ h => h) (fun _ _ h => h) fun _ _ h => h.elim
theorem gen_a {M : Model} {A : Around} {α : Type} {tree : Sem α} {Q : α → Shared → Prop} {E : Value → Shared → Prop} {s : Shared} (h : let A' := A; wpAny M A' tree Q E s) : wpAny M A tree Q E s := h
/-- an expression without effect: its value, up to the token of an int -/
def Pu (M : Model) (h : Heap) (env : Env) (e : Expr) (R : Tok → Value) : Prop :=
  (∀ rest, starEach (e :: rest) env = (false, eval e env) :: starEach rest env) ∧ ∀ (A : Around) (Q E : Value → Shared → Prop) (s : Shared), s.heap = h → (∀ (t : Tok) (tk : Nat), Q (R t) { s with toks := tk }) → wpAny M A (eval e env) Q E s
section
variable {M : Model} {prog : Program} {w : World} {h h₀ : Heap} {env : Env} {L a : Addr} {m mg mb : PySem.Str → Option Value} {cn : PySem.Str} {cs : Scope} {ccd : Value} {cl : List (PySem.Str × Addr)} {p : Program} {loose : List PySem.Str} {K : Frag}
  {x : PySem.Str} {pos : Pos} {v : Value} {news : List (Addr × Obj)} {c : Addr} {o : Obj} {e l r : Expr} {i k : Int} {t0 : Tok} {kk : Nat}
theorem Pu.loc (F : Fr h₀ L h m) (hv : m x = some (.int i t0)) (hk : cs.kind = .function) (hx : (envX cn cs L a ccd cl).kindOf x = some .local) (hd : (x == ("__debug__" : PySem.Str)) = false) :
    Pu M h (envX cn cs L a ccd cl) (.Name x pos) (Value.int i) := .intro (fun _ => rfl) fun A Q E s e H => by
  subst e; exact nameX_L F hv (H t0 s.toks) hk hx hd
theorem Pu.ref (F : Fr h₀ L h m) (hv : m x = some v) (hk : cs.kind = .function) (hx : (envX cn cs L a ccd cl).kindOf x = some .local) (hd : (x == ("__debug__" : PySem.Str)) = false) :
    Pu M h (envX cn cs L a ccd cl) (.Name x pos) (fun _ => v) := .intro (fun _ => rfl) fun A Q E s e H => by
  subst e; exact nameX_L F hv (H 0 s.toks) hk hx hd
theorem Pu.cell (N : News h₀ L h news) (hc : cl.lookup x = some c) (hm : (c, o) ∈ news) (ho : o.data = .cell (some (.int i t0))) (hk : cs.kind = .function) (hx : (envX cn cs L a ccd cl).kindOf x = some .cell) (hd : (x == ("__debug__" : PySem.Str)) = false) :
    Pu M h (envX cn cs L a ccd cl) (.Name x pos) (Value.int i) := .intro (fun _ => rfl) fun A Q E s e H => by
  subst e; exact nameX_C N hc hm ho (H t0 s.toks) hk hx hd
theorem Pu.cref (N : News h₀ L h news) (hc : cl.lookup x = some c) (hm : (c, o) ∈ news) (ho : o.data = .cell (some v)) (hk : cs.kind = .function) (hx : (envX cn cs L a ccd cl).kindOf x = some .cell) (hd : (x == ("__debug__" : PySem.Str)) = false) :
    Pu M h (envX cn cs L a ccd cl) (.Name x pos) (fun _ => v) := .intro (fun _ => rfl) fun A Q E s e H => by
  subst e; exact nameX_C N hc hm ho (H 0 s.toks) hk hx hd
theorem Pu.const : Pu M h env (.Constant (.int i) kk pos) (Value.int i) := .intro (fun _ => rfl) fun A Q E s e H => wpAny_Constant_int (H _ _)
theorem Pu.add (p1 : Pu (model prog w) h env l (Value.int i)) (p2 : Pu (model prog w) h env r (Value.int k)) : Pu (model prog w) h env (.BinOp l .Add r pos) (Value.int (i + k)) := .intro (fun _ => rfl) fun A Q E s e H =>
  wpAny_BinOp (p1.2 _ _ _ _ e fun t tk => p2.2 _ _ _ _ e fun t' tk' => add_int (H _ _))
theorem Pu.sub (p1 : Pu (model prog w) h env l (Value.int i)) (p2 : Pu (model prog w) h env r (Value.int k)) : Pu (model prog w) h env (.BinOp l .Sub r pos) (Value.int (i - k)) := .intro (fun _ => rfl) fun A Q E s e H =>
  wpAny_BinOp (p1.2 _ _ _ _ e fun t tk => p2.2 _ _ _ _ e fun t' tk' => sub_int (H _ _))
theorem Pu.mul (p1 : Pu (model prog w) h env l (Value.int i)) (p2 : Pu (model prog w) h env r (Value.int k)) (hm : IntMulOk i k) : Pu (model prog w) h env (.BinOp l .Mult r pos) (Value.int (i * k)) := .intro (fun _ => rfl) fun A Q E s e H =>
  wpAny_BinOp (p1.2 _ _ _ _ e fun t tk => p2.2 _ _ _ _ e fun t' tk' => mul_int (H _ _) hm)
theorem call2 {A : Around} {Q E : Value → Shared → Prop} {s : Shared} {fn : PySem.Str} {fp : Pos} {f : Addr} {e1 e2 : Expr} {R1 R2 : Tok → Value} (F : Fr h₀ L h m) (hs : s.heap = h) (X : K.In h₀) (T : TopRead p loose mg mb h₀) (ef : nsIn K mainGlobals fn = some (some (.ref f))) (kf : keepIn K (.ref f) = true) (hk : cs.kind = .function) (hx : (envX cn cs L a ccd cl).kindOf fn = some .globalImplicit) (hd : (fn == ("__debug__" : PySem.Str)) = false)
    (p1 : Pu M h (envX cn cs L a ccd cl) e1 R1) (p2 : Pu M h (envX cn cs L a ccd cl) e2 R2) (hh : ∀ (t1 t2 : Tok) (tk : Nat), wpAny M A (call (.ref f) [R1 t1, R2 t2]) Q E { s with toks := tk }) : wpAny M A (eval (.Call (.Name fn fp) [e1, e2] [] pos) (envX cn cs L a ccd cl)) Q E s :=
  by
  subst hs
  exact Call_ (nameX_K F X T ef (callWith_K X kf (args_cons (p1.2 _ _ _ _ rfl fun t1 _ => args_cons (p2.2 _ _ _ _ rfl fun t2 _ => args_nil ⟨X.keeps F.keep, hh t1 t2 _⟩) (p2.1 _)) (p1.1 _)) (p1.1 _) (by rw [p2.1]; rfl)) hk hx hd)
theorem call4 {A : Around} {Q E : Value → Shared → Prop} {s : Shared} {fn : PySem.Str} {fp : Pos} {f : Addr} {e1 e2 e3 e4 : Expr} {R1 R2 R3 R4 : Tok → Value} (F : Fr h₀ L h m) (hs : s.heap = h) (X : K.In h₀) (T : TopRead p loose mg mb h₀) (ef : nsIn K mainGlobals fn = some (some (.ref f))) (kf : keepIn K (.ref f) = true) (hk : cs.kind = .function) (hx : (envX cn cs L a ccd cl).kindOf fn = some .globalImplicit) (hd : (fn == ("__debug__" : PySem.Str)) = false)
    (p1 : Pu M h (envX cn cs L a ccd cl) e1 R1) (p2 : Pu M h (envX cn cs L a ccd cl) e2 R2) (p3 : Pu M h (envX cn cs L a ccd cl) e3 R3) (p4 : Pu M h (envX cn cs L a ccd cl) e4 R4) (hh : ∀ (t1 t2 t3 t4 : Tok) (tk : Nat), wpAny M A (call (.ref f) [R1 t1, R2 t2, R3 t3, R4 t4]) Q E { s with toks := tk }) : wpAny M A (eval (.Call (.Name fn fp) [e1, e2, e3, e4] [] pos) (envX cn cs L a ccd cl)) Q E s :=
  by
  subst hs
  exact Call_ (nameX_K F X T ef (callWith_K X kf (args_cons (p1.2 _ _ _ _ rfl fun t1 _ => args_cons (p2.2 _ _ _ _ rfl fun t2 _ => args_cons (p3.2 _ _ _ _ rfl fun t3 _ => args_cons (p4.2 _ _ _ _ rfl fun t4 _ => args_nil ⟨X.keeps F.keep, hh t1 t2 t3 t4 _⟩) (p4.1 _)) (p3.1 _)) (p2.1 _)) (p1.1 _)) (p1.1 _) (by rw [p2.1, p3.1, p4.1]; rfl)) hk hx hd)
theorem call5 {A : Around} {Q E : Value → Shared → Prop} {s : Shared} {fn : PySem.Str} {fp : Pos} {f : Addr} {e1 e2 e3 e4 e5 : Expr} {R1 R2 R3 R4 R5 : Tok → Value} (F : Fr h₀ L h m) (hs : s.heap = h) (X : K.In h₀) (T : TopRead p loose mg mb h₀) (ef : nsIn K mainGlobals fn = some (some (.ref f))) (kf : keepIn K (.ref f) = true) (hk : cs.kind = .function) (hx : (envX cn cs L a ccd cl).kindOf fn = some .globalImplicit) (hd : (fn == ("__debug__" : PySem.Str)) = false)
    (p1 : Pu M h (envX cn cs L a ccd cl) e1 R1) (p2 : Pu M h (envX cn cs L a ccd cl) e2 R2) (p3 : Pu M h (envX cn cs L a ccd cl) e3 R3) (p4 : Pu M h (envX cn cs L a ccd cl) e4 R4) (p5 : Pu M h (envX cn cs L a ccd cl) e5 R5) (hh : ∀ (t1 t2 t3 t4 t5 : Tok) (tk : Nat), wpAny M A (call (.ref f) [R1 t1, R2 t2, R3 t3, R4 t4, R5 t5]) Q E { s with toks := tk }) : wpAny M A (eval (.Call (.Name fn fp) [e1, e2, e3, e4, e5] [] pos) (envX cn cs L a ccd cl)) Q E s :=
  by
  subst hs
  exact Call_ (nameX_K F X T ef (callWith_K X kf (args_cons (p1.2 _ _ _ _ rfl fun t1 _ => args_cons (p2.2 _ _ _ _ rfl fun t2 _ => args_cons (p3.2 _ _ _ _ rfl fun t3 _ => args_cons (p4.2 _ _ _ _ rfl fun t4 _ => args_cons (p5.2 _ _ _ _ rfl fun t5 _ => args_nil ⟨X.keeps F.keep, hh t1 t2 t3 t4 t5 _⟩) (p5.1 _)) (p4.1 _)) (p3.1 _)) (p2.1 _)) (p1.1 _)) (p1.1 _) (by rw [p2.1, p3.1, p4.1, p5.1]; rfl)) hk hx hd)
theorem call6 {A : Around} {Q E : Value → Shared → Prop} {s : Shared} {fn : PySem.Str} {fp : Pos} {f : Addr} {e1 e2 e3 e4 e5 e6 : Expr} {R1 R2 R3 R4 R5 R6 : Tok → Value} (F : Fr h₀ L h m) (hs : s.heap = h) (X : K.In h₀) (T : TopRead p loose mg mb h₀) (ef : nsIn K mainGlobals fn = some (some (.ref f))) (kf : keepIn K (.ref f) = true) (hk : cs.kind = .function) (hx : (envX cn cs L a ccd cl).kindOf fn = some .globalImplicit) (hd : (fn == ("__debug__" : PySem.Str)) = false)
    (p1 : Pu M h (envX cn cs L a ccd cl) e1 R1) (p2 : Pu M h (envX cn cs L a ccd cl) e2 R2) (p3 : Pu M h (envX cn cs L a ccd cl) e3 R3) (p4 : Pu M h (envX cn cs L a ccd cl) e4 R4) (p5 : Pu M h (envX cn cs L a ccd cl) e5 R5) (p6 : Pu M h (envX cn cs L a ccd cl) e6 R6) (hh : ∀ (t1 t2 t3 t4 t5 t6 : Tok) (tk : Nat), wpAny M A (call (.ref f) [R1 t1, R2 t2, R3 t3, R4 t4, R5 t5, R6 t6]) Q E { s with toks := tk }) : wpAny M A (eval (.Call (.Name fn fp) [e1, e2, e3, e4, e5, e6] [] pos) (envX cn cs L a ccd cl)) Q E s :=
  by
  subst hs
  exact Call_ (nameX_K F X T ef (callWith_K X kf (args_cons (p1.2 _ _ _ _ rfl fun t1 _ => args_cons (p2.2 _ _ _ _ rfl fun t2 _ => args_cons (p3.2 _ _ _ _ rfl fun t3 _ => args_cons (p4.2 _ _ _ _ rfl fun t4 _ => args_cons (p5.2 _ _ _ _ rfl fun t5 _ => args_cons (p6.2 _ _ _ _ rfl fun t6 _ => args_nil ⟨X.keeps F.keep, hh t1 t2 t3 t4 t5 t6 _⟩) (p6.1 _)) (p5.1 _)) (p4.1 _)) (p3.1 _)) (p2.1 _)) (p1.1 _)) (p1.1 _) (by rw [p2.1, p3.1, p4.1, p5.1, p6.1]; rfl)) hk hx hd)
end
def Ap (a b : Nat) : Prop := a < b
theorem apN {a b : Nat} (h : a < b) : Ap a b := h
theorem ne_lt {a b : Nat} (h : Ap a b) : a ≠ b := Nat.ne_of_lt h
theorem ne_gt {a b : Nat} (h : Ap b a) : a ≠ b := Nat.ne_of_gt h
theorem lt_s {a b : Nat} (h : Ap b a) : Ap b (a + 1) := Nat.lt_succ_of_lt h
theorem s_1 {a : Nat} : Ap a (a + 1) := Nat.lt_succ_self a
theorem as1 {d a1 : Addr} {o1 : Obj} {r : List (Addr × Obj)} {G : Prop} (k : Ap a1 d → (∀ p ∈ r, p.1 < d) → G) : (∀ p ∈ (a1, o1) :: r, p.1 < d) → G := fun h => k (h _ (.head _)) fun p hp => h p (.tail _ hp)
theorem as2 {d a1 a2 : Addr} {o1 o2 : Obj} {r : List (Addr × Obj)} {G : Prop} (k : Ap a1 d → Ap a2 d → (∀ p ∈ r, p.1 < d) → G) : (∀ p ∈ (a1, o1) :: (a2, o2) :: r, p.1 < d) → G := fun h => k (h _ (.head _)) (h _ (.tail _ (.head _))) fun p hp => h p (.tail _ (.tail _ hp))
theorem as4 {d a1 a2 a3 a4 : Addr} {o1 o2 o3 o4 : Obj} {r : List (Addr × Obj)} {G : Prop} (k : Ap a1 d → Ap a2 d → Ap a3 d → Ap a4 d → (∀ p ∈ r, p.1 < d) → G) : (∀ p ∈ (a1, o1) :: (a2, o2) :: (a3, o3) :: (a4, o4) :: r, p.1 < d) → G := fun h => k (h _ (.head _)) (h _ (.tail _ (.head _))) (h _ (.tail _ (.tail _ (.head _)))) (h _ (.tail _ (.tail _ (.tail _ (.head _))))) fun p hp => h p (.tail _ (.tail _ (.tail _ (.tail _ hp))))
theorem as8 {d a1 a2 a3 a4 a5 a6 a7 a8 : Addr} {o1 o2 o3 o4 o5 o6 o7 o8 : Obj} {r : List (Addr × Obj)} {G : Prop} (k : Ap a1 d → Ap a2 d → Ap a3 d → Ap a4 d → Ap a5 d → Ap a6 d → Ap a7 d → Ap a8 d → (∀ p ∈ r, p.1 < d) → G) : (∀ p ∈ (a1, o1) :: (a2, o2) :: (a3, o3) :: (a4, o4) :: (a5, o5) :: (a6, o6) :: (a7, o7) :: (a8, o8) :: r, p.1 < d) → G := fun h => k (h _ (.head _)) (h _ (.tail _ (.head _))) (h _ (.tail _ (.tail _ (.head _)))) (h _ (.tail _ (.tail _ (.tail _ (.head _))))) (h _ (.tail _ (.tail _ (.tail _ (.tail _ (.head _)))))) (h _ (.tail _ (.tail _ (.tail _ (.tail _ (.tail _ (.head _))))))) (h _ (.tail _ (.tail _ (.tail _ (.tail _ (.tail _ (.tail _ (.head _)))))))) (h _ (.tail _ (.tail _ (.tail _ (.tail _ (.tail _ (.tail _ (.tail _ (.head _))))))))) fun p hp => h p (.tail _ (.tail _ (.tail _ (.tail _ (.tail _ (.tail _ (.tail _ (.tail _ hp))))))))
theorem as16 {d a1 a2 a3 a4 a5 a6 a7 a8 a9 a10 a11 a12 a13 a14 a15 a16 : Addr} {o1 o2 o3 o4 o5 o6 o7 o8 o9 o10 o11 o12 o13 o14 o15 o16 : Obj} {r : List (Addr × Obj)} {G : Prop} (k : Ap a1 d → Ap a2 d → Ap a3 d → Ap a4 d → Ap a5 d → Ap a6 d → Ap a7 d → Ap a8 d → Ap a9 d → Ap a10 d → Ap a11 d → Ap a12 d → Ap a13 d → Ap a14 d → Ap a15 d → Ap a16 d → (∀ p ∈ r, p.1 < d) → G) : (∀ p ∈ (a1, o1) :: (a2, o2) :: (a3, o3) :: (a4, o4) :: (a5, o5) :: (a6, o6) :: (a7, o7) :: (a8, o8) :: (a9, o9) :: (a10, o10) :: (a11, o11) :: (a12, o12) :: (a13, o13) :: (a14, o14) :: (a15, o15) :: (a16, o16) :: r, p.1 < d) → G := fun h => k (h _ (.head _)) (h _ (.tail _ (.head _))) (h _ (.tail _ (.tail _ (.head _)))) (h _ (.tail _ (.tail _ (.tail _ (.head _))))) (h _ (.tail _ (.tail _ (.tail _ (.tail _ (.head _)))))) (h _ (.tail _ (.tail _ (.tail _ (.tail _ (.tail _ (.head _))))))) (h _ (.tail _ (.tail _ (.tail _ (.tail _ (.tail _ (.tail _ (.head _)))))))) (h _ (.tail _ (.tail _ (.tail _ (.tail _ (.tail _ (.tail _ (.tail _ (.head _))))))))) (h _ (.tail _ (.tail _ (.tail _ (.tail _ (.tail _ (.tail _ (.tail _ (.tail _ (.head _)))))))))) (h _ (.tail _ (.tail _ (.tail _ (.tail _ (.tail _ (.tail _ (.tail _ (.tail _ (.tail _ (.head _))))))))))) (h _ (.tail _ (.tail _ (.tail _ (.tail _ (.tail _ (.tail _ (.tail _ (.tail _ (.tail _ (.tail _ (.head _)))))))))))) (h _ (.tail _ (.tail _ (.tail _ (.tail _ (.tail _ (.tail _ (.tail _ (.tail _ (.tail _ (.tail _ (.tail _ (.head _))))))))))))) (h _ (.tail _ (.tail _ (.tail _ (.tail _ (.tail _ (.tail _ (.tail _ (.tail _ (.tail _ (.tail _ (.tail _ (.tail _ (.head _)))))))))))))) (h _ (.tail _ (.tail _ (.tail _ (.tail _ (.tail _ (.tail _ (.tail _ (.tail _ (.tail _ (.tail _ (.tail _ (.tail _ (.tail _ (.head _))))))))))))))) (h _ (.tail _ (.tail _ (.tail _ (.tail _ (.tail _ (.tail _ (.tail _ (.tail _ (.tail _ (.tail _ (.tail _ (.tail _ (.tail _ (.tail _ (.head _)))))))))))))))) (h _ (.tail _ (.tail _ (.tail _ (.tail _ (.tail _ (.tail _ (.tail _ (.tail _ (.tail _ (.tail _ (.tail _ (.tail _ (.tail _ (.tail _ (.tail _ (.head _))))))))))))))))) fun p hp => h p (.tail _ (.tail _ (.tail _ (.tail _ (.tail _ (.tail _ (.tail _ (.tail _ (.tail _ (.tail _ (.tail _ (.tail _ (.tail _ (.tail _ (.tail _ (.tail _ hp))))))))))))))))
def Nq (a b : Nat) : Prop := a ≠ b
theorem nq {a b : Nat} (h : Nq a b) : a ≠ b := h
theorem of3_1 {I C D a1 : Addr} {o1 : Obj} {r : List (Addr × Obj)} {G : Prop} (k : Nq a1 I → Nq a1 C → Nq a1 D → LCg.Off3 I C D r → G) : LCg.Off3 I C D ((a1, o1) :: r) → G := fun h => k h.1.1 h.1.2.1 h.1.2.2 h.2
theorem of3_2 {I C D a1 a2 : Addr} {o1 o2 : Obj} {r : List (Addr × Obj)} {G : Prop} (k : Nq a1 I → Nq a1 C → Nq a1 D → Nq a2 I → Nq a2 C → Nq a2 D → LCg.Off3 I C D r → G) : LCg.Off3 I C D ((a1, o1) :: (a2, o2) :: r) → G := fun h => k h.1.1 h.1.2.1 h.1.2.2 h.2.1.1 h.2.1.2.1 h.2.1.2.2 h.2.2
theorem of3_4 {I C D a1 a2 a3 a4 : Addr} {o1 o2 o3 o4 : Obj} {r : List (Addr × Obj)} {G : Prop} (k : Nq a1 I → Nq a1 C → Nq a1 D → Nq a2 I → Nq a2 C → Nq a2 D → Nq a3 I → Nq a3 C → Nq a3 D → Nq a4 I → Nq a4 C → Nq a4 D → LCg.Off3 I C D r → G) : LCg.Off3 I C D ((a1, o1) :: (a2, o2) :: (a3, o3) :: (a4, o4) :: r) → G := fun h => k h.1.1 h.1.2.1 h.1.2.2 h.2.1.1 h.2.1.2.1 h.2.1.2.2 h.2.2.1.1 h.2.2.1.2.1 h.2.2.1.2.2 h.2.2.2.1.1 h.2.2.2.1.2.1 h.2.2.2.1.2.2 h.2.2.2.2
theorem of3_8 {I C D a1 a2 a3 a4 a5 a6 a7 a8 : Addr} {o1 o2 o3 o4 o5 o6 o7 o8 : Obj} {r : List (Addr × Obj)} {G : Prop} (k : Nq a1 I → Nq a1 C → Nq a1 D → Nq a2 I → Nq a2 C → Nq a2 D → Nq a3 I → Nq a3 C → Nq a3 D → Nq a4 I → Nq a4 C → Nq a4 D → Nq a5 I → Nq a5 C → Nq a5 D → Nq a6 I → Nq a6 C → Nq a6 D → Nq a7 I → Nq a7 C → Nq a7 D → Nq a8 I → Nq a8 C → Nq a8 D → LCg.Off3 I C D r → G) : LCg.Off3 I C D ((a1, o1) :: (a2, o2) :: (a3, o3) :: (a4, o4) :: (a5, o5) :: (a6, o6) :: (a7, o7) :: (a8, o8) :: r) → G := fun h => k h.1.1 h.1.2.1 h.1.2.2 h.2.1.1 h.2.1.2.1 h.2.1.2.2 h.2.2.1.1 h.2.2.1.2.1 h.2.2.1.2.2 h.2.2.2.1.1 h.2.2.2.1.2.1 h.2.2.2.1.2.2 h.2.2.2.2.1.1 h.2.2.2.2.1.2.1 h.2.2.2.2.1.2.2 h.2.2.2.2.2.1.1 h.2.2.2.2.2.1.2.1 h.2.2.2.2.2.1.2.2 h.2.2.2.2.2.2.1.1 h.2.2.2.2.2.2.1.2.1 h.2.2.2.2.2.2.1.2.2 h.2.2.2.2.2.2.2.1.1 h.2.2.2.2.2.2.2.1.2.1 h.2.2.2.2.2.2.2.1.2.2 h.2.2.2.2.2.2.2.2
theorem of1_1 {D a1 : Addr} {o1 : Obj} {r : List (Addr × Obj)} {G : Prop} (k : Nq a1 D → LCg.Off1 D r → G) : LCg.Off1 D ((a1, o1) :: r) → G := fun h => k h.1 h.2
theorem of1_2 {D a1 a2 : Addr} {o1 o2 : Obj} {r : List (Addr × Obj)} {G : Prop} (k : Nq a1 D → Nq a2 D → LCg.Off1 D r → G) : LCg.Off1 D ((a1, o1) :: (a2, o2) :: r) → G := fun h => k h.1 h.2.1 h.2.2
theorem of1_4 {D a1 a2 a3 a4 : Addr} {o1 o2 o3 o4 : Obj} {r : List (Addr × Obj)} {G : Prop} (k : Nq a1 D → Nq a2 D → Nq a3 D → Nq a4 D → LCg.Off1 D r → G) : LCg.Off1 D ((a1, o1) :: (a2, o2) :: (a3, o3) :: (a4, o4) :: r) → G := fun h => k h.1 h.2.1 h.2.2.1 h.2.2.2.1 h.2.2.2.2
theorem of1_8 {D a1 a2 a3 a4 a5 a6 a7 a8 : Addr} {o1 o2 o3 o4 o5 o6 o7 o8 : Obj} {r : List (Addr × Obj)} {G : Prop} (k : Nq a1 D → Nq a2 D → Nq a3 D → Nq a4 D → Nq a5 D → Nq a6 D → Nq a7 D → Nq a8 D → LCg.Off1 D r → G) : LCg.Off1 D ((a1, o1) :: (a2, o2) :: (a3, o3) :: (a4, o4) :: (a5, o5) :: (a6, o6) :: (a7, o7) :: (a8, o8) :: r) → G := fun h => k h.1 h.2.1 h.2.2.1 h.2.2.2.1 h.2.2.2.2.1 h.2.2.2.2.2.1 h.2.2.2.2.2.2.1 h.2.2.2.2.2.2.2.1 h.2.2.2.2.2.2.2.2
theorem of1_16 {D a1 a2 a3 a4 a5 a6 a7 a8 a9 a10 a11 a12 a13 a14 a15 a16 : Addr} {o1 o2 o3 o4 o5 o6 o7 o8 o9 o10 o11 o12 o13 o14 o15 o16 : Obj} {r : List (Addr × Obj)} {G : Prop} (k : Nq a1 D → Nq a2 D → Nq a3 D → Nq a4 D → Nq a5 D → Nq a6 D → Nq a7 D → Nq a8 D → Nq a9 D → Nq a10 D → Nq a11 D → Nq a12 D → Nq a13 D → Nq a14 D → Nq a15 D → Nq a16 D → LCg.Off1 D r → G) : LCg.Off1 D ((a1, o1) :: (a2, o2) :: (a3, o3) :: (a4, o4) :: (a5, o5) :: (a6, o6) :: (a7, o7) :: (a8, o8) :: (a9, o9) :: (a10, o10) :: (a11, o11) :: (a12, o12) :: (a13, o13) :: (a14, o14) :: (a15, o15) :: (a16, o16) :: r) → G := fun h => k h.1 h.2.1 h.2.2.1 h.2.2.2.1 h.2.2.2.2.1 h.2.2.2.2.2.1 h.2.2.2.2.2.2.1 h.2.2.2.2.2.2.2.1 h.2.2.2.2.2.2.2.2.1 h.2.2.2.2.2.2.2.2.2.1 h.2.2.2.2.2.2.2.2.2.2.1 h.2.2.2.2.2.2.2.2.2.2.2.1 h.2.2.2.2.2.2.2.2.2.2.2.2.1 h.2.2.2.2.2.2.2.2.2.2.2.2.2.1 h.2.2.2.2.2.2.2.2.2.2.2.2.2.2.1 h.2.2.2.2.2.2.2.2.2.2.2.2.2.2.2.1 h.2.2.2.2.2.2.2.2.2.2.2.2.2.2.2.2
theorem w_lo {w : Int} (h : 8 ≤ w) : 1 ≤ w := by lia
theorem w_lo2 {w : Int} (h : 8 ≤ w) : 1 ≤ w + 2 := by lia
theorem w_hi {w : Int} (h : w ≤ 64) : w ≤ 70 := by lia
theorem w_hi2 {w : Int} (h : w ≤ 64) : w + 2 ≤ 70 := by lia
theorem rm_depth {dp a b : Nat} (h : dp + a ≤ 900) (e : 1 + b ≤ a) : dp + 1 + b ≤ 900 := by lia
theorem rm_rec {dp a : Nat} (h : dp + a ≤ 900) : dp + 1 < 1000 := by lia
theorem rm_rec0 {dp a : Nat} (h : dp + a ≤ 900) : dp < 1000 := by lia
theorem rm_units {un a b : Nat} (h : un + 8 * a ≤ 500) (e : 3 + 8 * b ≤ 8 * a) : un + 3 + 8 * b ≤ 500 := by lia
theorem rm_line {un a : Nat} (h : un + 8 * a ≤ 500) : un + 3 + 64 < cLine := by have := cLine_is; lia
theorem two_b : Builtin.Int.intBits 2 ≤ 64 := PySem.intBits_le_64 (by decide) (by decide)
theorem v_b {v : Int} (h0 : -7 ≤ v) (h1 : v ≤ 7) : Builtin.Int.intBits v ≤ 64 := PySem.intBits_le_64 (by lia) (by lia)
theorem w2_lo {x : Int} (h : 0 ≤ x) : 1 ≤ 2 + x := by lia
theorem w2_hi {x : Int} (h : x < 4) : 2 + x ≤ 70 := by lia
theorem p1_lo {x : Int} (h : 1 ≤ x) : 0 ≤ x + 1 := by lia
theorem p1_hi {x : Int} (h : x ≤ 32) : x + 1 ≤ 100 := by lia
theorem w8_lo {x : Int} (h : 0 ≤ x) : 8 ≤ 8 + x := by lia
theorem w8_hi {x : Int} (h : x < 57) : 8 + x ≤ 64 := by lia
theorem count10 {c : Int} : c + 1 + 1 + 1 + 1 + 1 + 1 + 1 + 3 = c + 10 := by lia
theorem count4 {c : Int} : c + 1 + 1 + 1 + 1 = c + 4 := by lia
theorem times_b {x : Int} (h0 : 0 ≤ x) (h1 : x < 2) : Builtin.Int.intBits (2 + x) ≤ 64 := PySem.intBits_le_64 (by lia) (by lia)
/-- bounds of a count that grows by ones -/
theorem count3 {c : Int} : c + 1 + 1 + 1 = c + 3 := by lia
theorem cb1 {c a : Int} (h : c ≤ a) : c + 1 ≤ a + 1 := Int.add_le_add_right h 1
end

end Mine
local macro_rules | `(tactic| walk_at $s:str) => `(tactic| k_extra $s)
local macro_rules | `(tactic| units_room) => `(tactic| k_extra "units_room")
local macro_rules | `(tactic| k_ne) => `(tactic| k_extra "k_ne")
local macro_rules | `(tactic| ktr_room) => `(tactic| k_extra "ktr_room")
local macro_rules | `(tactic| ktr_units) => `(tactic| k_extra "ktr_units")
local macro_rules | `(tactic| size_fits) => `(tactic| k_extra "size_fits")
local macro_rules | `(tactic| k_all) => `(tactic| k_extra "k_all")
local macro_rules | `(tactic| k_mem) => `(tactic| k_extra "k_mem")
local macro_rules | `(tactic| k_lt $h:ident) => `(tactic| (revert $h; k_extra "LT"))
namespace Mine

abbrev Led := List (Addr × Obj)

/-- the contract of a call: over any frame and this ledger; what comes back and the ledger then -/
def Con (w : World) (f : Addr) (dd : Nat) (news : Led) (vs : List Value) (Post : Value → Led → Prop) : Prop :=
  ∀ (mean : ExcName → Option Value) (mg mb : PySem.Str → Option Value) (dp un : Nat) (gd : Option (List Code)) (cn : PySem.Str) (cs : Scope) (a : Addr) (ccd : Value) (cl : List (PySem.Str × Addr)) (outer : List Env) (A₀ : Around) (base h₀ : Heap) (L : Addr) (m : PySem.Str → Option Value) (s : Shared) (Q E : Value → Shared → Prop),
    Below A₀ base outer h₀ → Fr h₀ L s.heap m → (hd.heap_39 w.params).In h₀ → News h₀ L s.heap news → Top hd.view_39 (looseW hd.view_39 []) mean mg mb h₀ → cs.kind = .function →
    dp + dd ≤ 900 → un + 8 * dd ≤ 500 →
    (∀ (r : Value) (news' : Led) (h' : Heap) (tk' : Nat), Fr h₀ L h' m → News h₀ L h' news' → Post r news' → Q r { s with heap := h', toks := tk' }) →
    wpAny (model PySem.Challenge.rw_sm0055_01.row.prog w) (ktrTop dp un gd cn cs L a ccd cl outer) (PySem.call (.ref f) vs) Q E s

/-- a call that changes nothing, its value up to its token -/
def ConV (w : World) (f : Addr) (dd : Nat) (vs : List Value) (R : Tok → Value) : Prop :=
  ∀ news : Led, Con w f dd news vs (fun r l => (∃ t, r = R t) ∧ l = news)

section
variable {w : World} {f : Addr} {dd : Nat} {news : Led} {vs : List Value} {Post : Value → Led → Prop} {R : Tok → Value}
  {mean : ExcName → Option Value} {mg mb : PySem.Str → Option Value} {dp un : Nat} {gd : Option (List Code)} {cn : PySem.Str} {cs : Scope} {a : Addr} {ccd : Value} {cl : List (PySem.Str × Addr)} {outer : List Env} {A₀ : Around} {base h₀ : Heap} {L : Addr} {m : PySem.Str → Option Value} {s : Shared} {Q E : Value → Shared → Prop}
theorem Con.use (C : Con w f dd news vs Post) (B : Below A₀ base outer h₀) (F : Fr h₀ L s.heap m) (X : (hd.heap_39 w.params).In h₀) (N : News h₀ L s.heap news) (T : Top hd.view_39 (looseW hd.view_39 []) mean mg mb h₀) (hk : cs.kind = .function)
    (hd : dp + dd ≤ 900) (hu : un + 8 * dd ≤ 500)
    (h : ∀ (r : Value) (news' : Led) (h' : Heap) (tk' : Nat), Fr h₀ L h' m → News h₀ L h' news' → Post r news' → Q r { s with heap := h', toks := tk' }) :
    wpAny (model PySem.Challenge.rw_sm0055_01.row.prog w) (ktrTop dp un gd cn cs L a ccd cl outer) (PySem.call (.ref f) vs) Q E s :=
  C mean mg mb dp un gd cn cs a ccd cl outer A₀ base h₀ L m s Q E B F X N T hk hd hu h
theorem ConV.use (C : ConV w f dd vs R) (B : Below A₀ base outer h₀) (F : Fr h₀ L s.heap m) (X : (hd.heap_39 w.params).In h₀) (N : News h₀ L s.heap news) (T : Top hd.view_39 (looseW hd.view_39 []) mean mg mb h₀) (hk : cs.kind = .function)
    (hd : dp + dd ≤ 900) (hu : un + 8 * dd ≤ 500)
    (h : ∀ (t : Tok) (h' : Heap) (tk' : Nat), Fr h₀ L h' m → News h₀ L h' news → Q (R t) { s with heap := h', toks := tk' }) :
    wpAny (model PySem.Challenge.rw_sm0055_01.row.prog w) (ktrTop dp un gd cn cs L a ccd cl outer) (PySem.call (.ref f) vs) Q E s :=
  C news mean mg mb dp un gd cn cs a ccd cl outer A₀ base h₀ L m s Q E B F X N T hk hd hu (fun r news' h' tk' F' N' P => by
    obtain ⟨⟨t, rfl⟩, rfl⟩ := P
    exact h t h' tk' F' N')
end

def wrapf (n w : Int) : Int :=
  if 2 ^ (w - 1).toNat ≤ n % 2 ^ w.toNat then n % 2 ^ w.toNat - 2 ^ w.toNat else n % 2 ^ w.toNat

theorem wrap_e1 {n wd : Int} (h : 1 * 2 ^ (wd - 1).toNat ≤ Builtin.bitAnd n (1 * 2 ^ wd.toNat - 1)) : Builtin.bitAnd n (1 * 2 ^ wd.toNat - 1) - 1 * 2 ^ wd.toNat = wrapf n wd := by
  simp only [Int.one_mul, kbt_mask] at h ⊢
  simp only [wrapf, h, if_true]
theorem wrap_e2 {n wd : Int} (h : ¬ 1 * 2 ^ (wd - 1).toNat ≤ Builtin.bitAnd n (1 * 2 ^ wd.toNat - 1)) : Builtin.bitAnd n (1 * 2 ^ wd.toNat - 1) = wrapf n wd := by
  simp only [Int.one_mul, kbt_mask] at h ⊢
  simp only [wrapf, h, if_false]

set_option maxRecDepth 100000 in
set_option maxHeartbeats 8000000 in
theorem wrap_c (w : World) (n wd : Int) (tn tw : Tok) (h1 : 1 ≤ wd) (h2 : wd ≤ 70) :
    ConV w 71 1 [.int n tn, .int wd tw] (.int (wrapf n wd)) := by
  w_top off
  k_with_none
  k_with "PU" => (first | with_reducible exact Pu.const | ((with_reducible show Pu _ _ _ (Expr.BinOp _ Operator.Add _ _) _); refine' Pu.add ?a ?b; (case a => walk_at "PU"); (case b => walk_at "PU")) | ((with_reducible show Pu _ _ _ (Expr.BinOp _ Operator.Sub _ _) _); refine' Pu.sub ?a ?b; (case a => walk_at "PU"); (case b => walk_at "PU")) | ((with_reducible show Pu _ _ _ (Expr.BinOp _ Operator.Mult _ _) _); refine' Pu.mul ?a ?b ?m; (case a => walk_at "PU"); (case b => walk_at "PU"); (case m => walk_at "MUL")) | (refine' Pu.loc ?F ?v ?k ?x ?d; (case F => k_asm); (case k => rfl); (case x => rfl); (case v => rfl); (case d => decide)) | (refine' Pu.ref ?F ?v ?k ?x ?d; (case F => k_asm); (case k => rfl); (case x => rfl); (case v => rfl); (case d => decide)) | (refine' Pu.cell ?N ?c ?m ?o ?k ?x ?d; (case k => rfl); (case x => rfl); (case N => k_asm); (case c => rfl); (case m => k_mem); (case o => k_asm); (case d => decide)) | (refine' Pu.cref ?N ?c ?m ?o ?k ?x ?d; (case k => rfl); (case x => rfl); (case N => k_asm); (case c => rfl); (case m => k_mem); (case o => k_asm); (case d => decide)))
  k_with "eval Call" => (k_here; (with_reducible show wpAny _ _ (eval (Expr.Call (Expr.Name _ _) [_, _] [] _) _) _ _ _); k_dflt (refine' call2 ?F ?hs ?X ?T ?ef ?kf ?hk ?hx ?hd ?p1 ?p2 ?_; (case F => k_asm); (case hs => exact rfl); (case X => k_asm); (case T => k_asm); (case hk => rfl); (case hx => rfl); (case hd => decide); (case ef => k_is); (case kf => k_is); (case p1 => walk_at "PU"); (case p2 => walk_at "PU")); intro t1 t2 tk; (try dsimp only))
  k_with "eval Call" => (k_here; (with_reducible show wpAny _ _ (eval (Expr.Call (Expr.Name _ _) [_, _, _, _] [] _) _) _ _ _); k_dflt (refine' call4 ?F ?hs ?X ?T ?ef ?kf ?hk ?hx ?hd ?p1 ?p2 ?p3 ?p4 ?_; (case F => k_asm); (case hs => exact rfl); (case X => k_asm); (case T => k_asm); (case hk => rfl); (case hx => rfl); (case hd => decide); (case ef => k_is); (case kf => k_is); (case p1 => walk_at "PU"); (case p2 => walk_at "PU"); (case p3 => walk_at "PU"); (case p4 => walk_at "PU")); intro t1 t2 t3 t4 tk; (try dsimp only))
  k_with "eval Call" => (k_here; (with_reducible show wpAny _ _ (eval (Expr.Call (Expr.Name _ _) [_, _, _, _, _] [] _) _) _ _ _); k_dflt (refine' call5 ?F ?hs ?X ?T ?ef ?kf ?hk ?hx ?hd ?p1 ?p2 ?p3 ?p4 ?p5 ?_; (case F => k_asm); (case hs => exact rfl); (case X => k_asm); (case T => k_asm); (case hk => rfl); (case hx => rfl); (case hd => decide); (case ef => k_is); (case kf => k_is); (case p1 => walk_at "PU"); (case p2 => walk_at "PU"); (case p3 => walk_at "PU"); (case p4 => walk_at "PU"); (case p5 => walk_at "PU")); intro t1 t2 t3 t4 t5 tk; (try dsimp only))
  k_with "eval Call" => (k_here; (with_reducible show wpAny _ _ (eval (Expr.Call (Expr.Name _ _) [_, _, _, _, _, _] [] _) _) _ _ _); k_dflt (refine' call6 ?F ?hs ?X ?T ?ef ?kf ?hk ?hx ?hd ?p1 ?p2 ?p3 ?p4 ?p5 ?p6 ?_; (case F => k_asm); (case hs => exact rfl); (case X => k_asm); (case T => k_asm); (case hk => rfl); (case hx => rfl); (case hd => decide); (case ef => k_is); (case kf => k_is); (case p1 => walk_at "PU"); (case p2 => walk_at "PU"); (case p3 => walk_at "PU"); (case p4 => walk_at "PU"); (case p5 => walk_at "PU"); (case p6 => walk_at "PU")); intro t1 t2 t3 t4 t5 t6 tk; (try dsimp only))
  k_with "LT" => ((repeat (first | (with_reducible refine as16 ?_; intro hz1 hz2 hz3 hz4 hz5 hz6 hz7 hz8 hz9 hz10 hz11 hz12 hz13 hz14 hz15 hz16) | (with_reducible refine as8 ?_; intro hz1 hz2 hz3 hz4 hz5 hz6 hz7 hz8) | (with_reducible refine as4 ?_; intro hz1 hz2 hz3 hz4) | (with_reducible refine as2 ?_; intro hz1 hz2) | (with_reducible refine as1 ?_; intro hz1))); intro hz0; (try (rename (∀ p ∈ ([] : List (Addr × Obj)), _) => hz0'; clear hz0')))
  k_with "PK" => with_reducible first | exact And.left (by assumption) | exact And.right (by assumption) | exact And.left (And.right (by assumption)) | exact And.right (And.right (by assumption)) | exact And.left (And.right (And.right (by assumption))) | exact And.right (And.right (And.right (by assumption))) | exact And.left (And.right (And.right (And.right (by assumption)))) | exact And.right (And.right (And.right (And.right (by assumption)))) | exact And.left (And.right (And.right (And.right (And.right (by assumption))))) | exact And.right (And.right (And.right (And.right (And.right (by assumption))))) | exact And.left (And.right (And.right (And.right (And.right (And.right (by assumption)))))) | exact And.right (And.right (And.right (And.right (And.right (And.right (by assumption)))))) | exact And.left (And.right (And.right (And.right (And.right (And.right (And.right (by assumption))))))) | exact And.right (And.right (And.right (And.right (And.right (And.right (And.right (by assumption))))))) | exact And.left (And.right (And.right (And.right (And.right (And.right (And.right (And.right (by assumption)))))))) | exact And.right (And.right (And.right (And.right (And.right (And.right (And.right (And.right (by assumption)))))))) | exact And.left (And.right (And.right (And.right (And.right (And.right (And.right (And.right (And.right (by assumption))))))))) | exact And.right (And.right (And.right (And.right (And.right (And.right (And.right (And.right (And.right (by assumption))))))))) | exact And.left (And.right (And.right (And.right (And.right (And.right (And.right (And.right (And.right (And.right (by assumption)))))))))) | exact And.right (And.right (And.right (And.right (And.right (And.right (And.right (And.right (And.right (And.right (by assumption)))))))))) | exact And.left (And.right (And.right (And.right (And.right (And.right (And.right (And.right (And.right (And.right (And.right (by assumption))))))))))) | exact And.right (And.right (And.right (And.right (And.right (And.right (And.right (And.right (And.right (And.right (And.right (by assumption))))))))))) | exact And.left (And.right (And.right (And.right (And.right (And.right (And.right (And.right (And.right (And.right (And.right (And.right (by assumption)))))))))))) | exact And.right (And.right (And.right (And.right (And.right (And.right (And.right (And.right (And.right (And.right (And.right (And.right (by assumption)))))))))))) | exact And.left (And.right (And.right (And.right (And.right (And.right (And.right (And.right (And.right (And.right (And.right (And.right (And.right (by assumption))))))))))))) | exact And.right (And.right (And.right (And.right (And.right (And.right (And.right (And.right (And.right (And.right (And.right (And.right (And.right (by assumption)))))))))))))
  k_with "k_ne" => (refine neN ?_; (try dsimp only); first | with_reducible (first | assumption | exact ne_gt (by assumption) | exact ne_lt (by assumption) | exact Ne.symm (by assumption) | exact nq (by assumption) | exact Ne.symm (nq (by assumption)) | exact ne_gt s_1 | exact ne_lt s_1 | exact ne_gt (lt_s s_1) | exact ne_lt (lt_s s_1) | exact ne_gt (lt_s (lt_s s_1)) | exact ne_lt (lt_s (lt_s s_1)) | exact ne_gt (lt_s (lt_s (lt_s s_1))) | exact ne_lt (lt_s (lt_s (lt_s s_1))) | exact ne_gt (lt_s (lt_s (lt_s (lt_s s_1)))) | exact ne_lt (lt_s (lt_s (lt_s (lt_s s_1)))) | exact ne_gt (lt_s (lt_s (lt_s (lt_s (lt_s s_1))))) | exact ne_lt (lt_s (lt_s (lt_s (lt_s (lt_s s_1))))) | exact ne_gt (lt_s (lt_s (lt_s (lt_s (lt_s (lt_s s_1)))))) | exact ne_lt (lt_s (lt_s (lt_s (lt_s (lt_s (lt_s s_1)))))) | exact ne_gt (lt_s (by assumption)) | exact ne_lt (lt_s (by assumption)) | exact ne_gt (lt_s (lt_s (by assumption))) | exact ne_lt (lt_s (lt_s (by assumption))) | exact ne_gt (lt_s (lt_s (lt_s (by assumption)))) | exact ne_lt (lt_s (lt_s (lt_s (by assumption)))) | exact ne_gt (lt_s (lt_s (lt_s (lt_s (by assumption))))) | exact ne_lt (lt_s (lt_s (lt_s (lt_s (by assumption))))) | exact ne_gt (lt_s (lt_s (lt_s (lt_s (lt_s (by assumption)))))) | exact ne_lt (lt_s (lt_s (lt_s (lt_s (lt_s (by assumption)))))) | exact ne_gt (lt_s (lt_s (lt_s (lt_s (lt_s (lt_s (by assumption))))))) | exact ne_lt (lt_s (lt_s (lt_s (lt_s (lt_s (lt_s (by assumption))))))) | exact ne_gt (lt_s (lt_s (lt_s (lt_s (lt_s (lt_s (lt_s (by assumption)))))))) | exact ne_lt (lt_s (lt_s (lt_s (lt_s (lt_s (lt_s (lt_s (by assumption))))))))) | with_reducible exact Nat.ne_of_lt (by assumption) | with_reducible exact Nat.ne_of_gt (by assumption) | walk_at "PK" | (refine Ne.symm ?_; walk_at "PK") | omega)
  k_with "ktr_room" => first | exact rm_depth (by assumption) (by decide) | exact rm_rec (by assumption) | exact rm_rec0 (by assumption)
  k_with "ktr_units" => exact rm_units (by assumption) (by decide)
  k_with "units_room" => exact rm_line (by assumption)
  k_with "MUL" => first | exact IntMulOk.of_left (by with_reducible assumption) | exact IntMulOk.of_right (by with_reducible assumption) | exact IntMulOk.of_right (times_b (by with_reducible assumption) (by with_reducible assumption)) | exact IntMulOk.of_left two_b | exact IntMulOk.of_left (v_b (by with_reducible assumption) (by with_reducible assumption)) | mul_fits
  k_with "CON IN" => ( (try unfold ConV); unfold Con; k_fill; intros; refine wpAny_call ?_; k_dflt ktr_enter)
  k_with "CON USE" => ( (case k1 => k_asm); (case k2 => k_asm); (case k3 => k_asm); (case k4 => k_asm); (case k5 => k_asm); (case kK => first | exact rfl | assumption); (case kd => ktr_room); (case ku => ktr_units); intro t9 h9 tk9 F9 N9; (try dsimp only); (try k_sweep); (try k_fold))
  walk_at "CON IN"
  rename_i hret _ _ _ _ _ _ _ _ _
  refine gen_q ?_
  intro Qg hQg
  refine gen_a ?_
  intro Ag
  k_steps
  all_goals (try (refine hQg _ _ ?_; (try dsimp only)))
  k_steps
  all_goals refine hret _ _ _ _ (by k_asm) (by k_asm) ⟨⟨_, congrArg (Value.int · _) ?_⟩, rfl⟩
  · exact wrap_e1 (by assumption)
  · exact wrap_e2 (by assumption)

set_option maxRecDepth 100000 in
set_option maxHeartbeats 8000000 in
theorem before_c (w : World) (n st wd : Int) (tn ts tw : Tok) (h1 : 1 ≤ wd) (h2 : wd ≤ 70) :
    ConV w 139 2 [.int n tn, .int st ts, .int wd tw] (.int (wrapf (n - st) wd)) := by
  w_top off
  k_with_none
  k_with "PU" => (first | with_reducible exact Pu.const | ((with_reducible show Pu _ _ _ (Expr.BinOp _ Operator.Add _ _) _); refine' Pu.add ?a ?b; (case a => walk_at "PU"); (case b => walk_at "PU")) | ((with_reducible show Pu _ _ _ (Expr.BinOp _ Operator.Sub _ _) _); refine' Pu.sub ?a ?b; (case a => walk_at "PU"); (case b => walk_at "PU")) | ((with_reducible show Pu _ _ _ (Expr.BinOp _ Operator.Mult _ _) _); refine' Pu.mul ?a ?b ?m; (case a => walk_at "PU"); (case b => walk_at "PU"); (case m => walk_at "MUL")) | (refine' Pu.loc ?F ?v ?k ?x ?d; (case F => k_asm); (case k => rfl); (case x => rfl); (case v => rfl); (case d => decide)) | (refine' Pu.ref ?F ?v ?k ?x ?d; (case F => k_asm); (case k => rfl); (case x => rfl); (case v => rfl); (case d => decide)) | (refine' Pu.cell ?N ?c ?m ?o ?k ?x ?d; (case k => rfl); (case x => rfl); (case N => k_asm); (case c => rfl); (case m => k_mem); (case o => k_asm); (case d => decide)) | (refine' Pu.cref ?N ?c ?m ?o ?k ?x ?d; (case k => rfl); (case x => rfl); (case N => k_asm); (case c => rfl); (case m => k_mem); (case o => k_asm); (case d => decide)))
  k_with "eval Call" => (k_here; (with_reducible show wpAny _ _ (eval (Expr.Call (Expr.Name _ _) [_, _] [] _) _) _ _ _); k_dflt (refine' call2 ?F ?hs ?X ?T ?ef ?kf ?hk ?hx ?hd ?p1 ?p2 ?_; (case F => k_asm); (case hs => exact rfl); (case X => k_asm); (case T => k_asm); (case hk => rfl); (case hx => rfl); (case hd => decide); (case ef => k_is); (case kf => k_is); (case p1 => walk_at "PU"); (case p2 => walk_at "PU")); intro t1 t2 tk; (try dsimp only))
  k_with "eval Call" => (k_here; (with_reducible show wpAny _ _ (eval (Expr.Call (Expr.Name _ _) [_, _, _, _] [] _) _) _ _ _); k_dflt (refine' call4 ?F ?hs ?X ?T ?ef ?kf ?hk ?hx ?hd ?p1 ?p2 ?p3 ?p4 ?_; (case F => k_asm); (case hs => exact rfl); (case X => k_asm); (case T => k_asm); (case hk => rfl); (case hx => rfl); (case hd => decide); (case ef => k_is); (case kf => k_is); (case p1 => walk_at "PU"); (case p2 => walk_at "PU"); (case p3 => walk_at "PU"); (case p4 => walk_at "PU")); intro t1 t2 t3 t4 tk; (try dsimp only))
  k_with "eval Call" => (k_here; (with_reducible show wpAny _ _ (eval (Expr.Call (Expr.Name _ _) [_, _, _, _, _] [] _) _) _ _ _); k_dflt (refine' call5 ?F ?hs ?X ?T ?ef ?kf ?hk ?hx ?hd ?p1 ?p2 ?p3 ?p4 ?p5 ?_; (case F => k_asm); (case hs => exact rfl); (case X => k_asm); (case T => k_asm); (case hk => rfl); (case hx => rfl); (case hd => decide); (case ef => k_is); (case kf => k_is); (case p1 => walk_at "PU"); (case p2 => walk_at "PU"); (case p3 => walk_at "PU"); (case p4 => walk_at "PU"); (case p5 => walk_at "PU")); intro t1 t2 t3 t4 t5 tk; (try dsimp only))
  k_with "eval Call" => (k_here; (with_reducible show wpAny _ _ (eval (Expr.Call (Expr.Name _ _) [_, _, _, _, _, _] [] _) _) _ _ _); k_dflt (refine' call6 ?F ?hs ?X ?T ?ef ?kf ?hk ?hx ?hd ?p1 ?p2 ?p3 ?p4 ?p5 ?p6 ?_; (case F => k_asm); (case hs => exact rfl); (case X => k_asm); (case T => k_asm); (case hk => rfl); (case hx => rfl); (case hd => decide); (case ef => k_is); (case kf => k_is); (case p1 => walk_at "PU"); (case p2 => walk_at "PU"); (case p3 => walk_at "PU"); (case p4 => walk_at "PU"); (case p5 => walk_at "PU"); (case p6 => walk_at "PU")); intro t1 t2 t3 t4 t5 t6 tk; (try dsimp only))
  k_with "LT" => ((repeat (first | (with_reducible refine as16 ?_; intro hz1 hz2 hz3 hz4 hz5 hz6 hz7 hz8 hz9 hz10 hz11 hz12 hz13 hz14 hz15 hz16) | (with_reducible refine as8 ?_; intro hz1 hz2 hz3 hz4 hz5 hz6 hz7 hz8) | (with_reducible refine as4 ?_; intro hz1 hz2 hz3 hz4) | (with_reducible refine as2 ?_; intro hz1 hz2) | (with_reducible refine as1 ?_; intro hz1))); intro hz0; (try (rename (∀ p ∈ ([] : List (Addr × Obj)), _) => hz0'; clear hz0')))
  k_with "PK" => with_reducible first | exact And.left (by assumption) | exact And.right (by assumption) | exact And.left (And.right (by assumption)) | exact And.right (And.right (by assumption)) | exact And.left (And.right (And.right (by assumption))) | exact And.right (And.right (And.right (by assumption))) | exact And.left (And.right (And.right (And.right (by assumption)))) | exact And.right (And.right (And.right (And.right (by assumption)))) | exact And.left (And.right (And.right (And.right (And.right (by assumption))))) | exact And.right (And.right (And.right (And.right (And.right (by assumption))))) | exact And.left (And.right (And.right (And.right (And.right (And.right (by assumption)))))) | exact And.right (And.right (And.right (And.right (And.right (And.right (by assumption)))))) | exact And.left (And.right (And.right (And.right (And.right (And.right (And.right (by assumption))))))) | exact And.right (And.right (And.right (And.right (And.right (And.right (And.right (by assumption))))))) | exact And.left (And.right (And.right (And.right (And.right (And.right (And.right (And.right (by assumption)))))))) | exact And.right (And.right (And.right (And.right (And.right (And.right (And.right (And.right (by assumption)))))))) | exact And.left (And.right (And.right (And.right (And.right (And.right (And.right (And.right (And.right (by assumption))))))))) | exact And.right (And.right (And.right (And.right (And.right (And.right (And.right (And.right (And.right (by assumption))))))))) | exact And.left (And.right (And.right (And.right (And.right (And.right (And.right (And.right (And.right (And.right (by assumption)))))))))) | exact And.right (And.right (And.right (And.right (And.right (And.right (And.right (And.right (And.right (And.right (by assumption)))))))))) | exact And.left (And.right (And.right (And.right (And.right (And.right (And.right (And.right (And.right (And.right (And.right (by assumption))))))))))) | exact And.right (And.right (And.right (And.right (And.right (And.right (And.right (And.right (And.right (And.right (And.right (by assumption))))))))))) | exact And.left (And.right (And.right (And.right (And.right (And.right (And.right (And.right (And.right (And.right (And.right (And.right (by assumption)))))))))))) | exact And.right (And.right (And.right (And.right (And.right (And.right (And.right (And.right (And.right (And.right (And.right (And.right (by assumption)))))))))))) | exact And.left (And.right (And.right (And.right (And.right (And.right (And.right (And.right (And.right (And.right (And.right (And.right (And.right (by assumption))))))))))))) | exact And.right (And.right (And.right (And.right (And.right (And.right (And.right (And.right (And.right (And.right (And.right (And.right (And.right (by assumption)))))))))))))
  k_with "k_ne" => (refine neN ?_; (try dsimp only); first | with_reducible (first | assumption | exact ne_gt (by assumption) | exact ne_lt (by assumption) | exact Ne.symm (by assumption) | exact nq (by assumption) | exact Ne.symm (nq (by assumption)) | exact ne_gt s_1 | exact ne_lt s_1 | exact ne_gt (lt_s s_1) | exact ne_lt (lt_s s_1) | exact ne_gt (lt_s (lt_s s_1)) | exact ne_lt (lt_s (lt_s s_1)) | exact ne_gt (lt_s (lt_s (lt_s s_1))) | exact ne_lt (lt_s (lt_s (lt_s s_1))) | exact ne_gt (lt_s (lt_s (lt_s (lt_s s_1)))) | exact ne_lt (lt_s (lt_s (lt_s (lt_s s_1)))) | exact ne_gt (lt_s (lt_s (lt_s (lt_s (lt_s s_1))))) | exact ne_lt (lt_s (lt_s (lt_s (lt_s (lt_s s_1))))) | exact ne_gt (lt_s (lt_s (lt_s (lt_s (lt_s (lt_s s_1)))))) | exact ne_lt (lt_s (lt_s (lt_s (lt_s (lt_s (lt_s s_1)))))) | exact ne_gt (lt_s (by assumption)) | exact ne_lt (lt_s (by assumption)) | exact ne_gt (lt_s (lt_s (by assumption))) | exact ne_lt (lt_s (lt_s (by assumption))) | exact ne_gt (lt_s (lt_s (lt_s (by assumption)))) | exact ne_lt (lt_s (lt_s (lt_s (by assumption)))) | exact ne_gt (lt_s (lt_s (lt_s (lt_s (by assumption))))) | exact ne_lt (lt_s (lt_s (lt_s (lt_s (by assumption))))) | exact ne_gt (lt_s (lt_s (lt_s (lt_s (lt_s (by assumption)))))) | exact ne_lt (lt_s (lt_s (lt_s (lt_s (lt_s (by assumption)))))) | exact ne_gt (lt_s (lt_s (lt_s (lt_s (lt_s (lt_s (by assumption))))))) | exact ne_lt (lt_s (lt_s (lt_s (lt_s (lt_s (lt_s (by assumption))))))) | exact ne_gt (lt_s (lt_s (lt_s (lt_s (lt_s (lt_s (lt_s (by assumption)))))))) | exact ne_lt (lt_s (lt_s (lt_s (lt_s (lt_s (lt_s (lt_s (by assumption))))))))) | with_reducible exact Nat.ne_of_lt (by assumption) | with_reducible exact Nat.ne_of_gt (by assumption) | walk_at "PK" | (refine Ne.symm ?_; walk_at "PK") | omega)
  k_with "ktr_room" => first | exact rm_depth (by assumption) (by decide) | exact rm_rec (by assumption) | exact rm_rec0 (by assumption)
  k_with "ktr_units" => exact rm_units (by assumption) (by decide)
  k_with "units_room" => exact rm_line (by assumption)
  k_with "MUL" => first | exact IntMulOk.of_left (by with_reducible assumption) | exact IntMulOk.of_right (by with_reducible assumption) | exact IntMulOk.of_right (times_b (by with_reducible assumption) (by with_reducible assumption)) | exact IntMulOk.of_left two_b | exact IntMulOk.of_left (v_b (by with_reducible assumption) (by with_reducible assumption)) | mul_fits
  k_with "CON IN" => ( (try unfold ConV); unfold Con; k_fill; intros; refine wpAny_call ?_; k_dflt ktr_enter)
  k_with "CON USE" => ( (case k1 => k_asm); (case k2 => k_asm); (case k3 => k_asm); (case k4 => k_asm); (case k5 => k_asm); (case kK => first | exact rfl | assumption); (case kd => ktr_room); (case ku => ktr_units); intro t9 h9 tk9 F9 N9; (try dsimp only); (try k_sweep); (try k_fold))
  k_with "call ref" => (k_here; refine' ConV.use (wrap_c _ _ _ _ _ ?p1 ?p2) ?k1 ?k2 ?k3 ?k4 ?k5 ?kK ?kd ?ku ?_; (case p1 => omega); (case p2 => omega); walk_at "CON USE")
  walk_at "CON IN"
  rename_i hret _ _ _ _ _ _ _ _ _
  refine gen_q ?_
  intro Qg hQg
  refine gen_a ?_
  intro Ag
  k_steps
  all_goals (try (refine hQg _ _ ?_; (try dsimp only)))
  k_steps
  exact hret _ _ _ _ (by k_asm) (by k_asm) ⟨⟨_, rfl⟩, rfl⟩

def goesf (n lim st : Int) : Bool := if 0 < st then n ≤ lim else lim ≤ n
theorem goes_e1 {n lim st : Int} (h : 0 < st) : decide (n ≤ lim) = goesf n lim st := by simp only [goesf, h, if_true]
theorem goes_e2 {n lim st : Int} (h : ¬ 0 < st) : decide (lim ≤ n) = goesf n lim st := by simp only [goesf, h, if_false]
set_option maxRecDepth 100000 in
set_option maxHeartbeats 8000000 in
theorem goes_c (w : World) (n lim st : Int) (tn tl ts : Tok) :
    ConV w 146 1 [.int n tn, .int lim tl, .int st ts] (fun _ => .bool (goesf n lim st)) := by
  w_top off
  k_with_none
  k_with "PU" => (first | with_reducible exact Pu.const | ((with_reducible show Pu _ _ _ (Expr.BinOp _ Operator.Add _ _) _); refine' Pu.add ?a ?b; (case a => walk_at "PU"); (case b => walk_at "PU")) | ((with_reducible show Pu _ _ _ (Expr.BinOp _ Operator.Sub _ _) _); refine' Pu.sub ?a ?b; (case a => walk_at "PU"); (case b => walk_at "PU")) | ((with_reducible show Pu _ _ _ (Expr.BinOp _ Operator.Mult _ _) _); refine' Pu.mul ?a ?b ?m; (case a => walk_at "PU"); (case b => walk_at "PU"); (case m => walk_at "MUL")) | (refine' Pu.loc ?F ?v ?k ?x ?d; (case F => k_asm); (case k => rfl); (case x => rfl); (case v => rfl); (case d => decide)) | (refine' Pu.ref ?F ?v ?k ?x ?d; (case F => k_asm); (case k => rfl); (case x => rfl); (case v => rfl); (case d => decide)) | (refine' Pu.cell ?N ?c ?m ?o ?k ?x ?d; (case k => rfl); (case x => rfl); (case N => k_asm); (case c => rfl); (case m => k_mem); (case o => k_asm); (case d => decide)) | (refine' Pu.cref ?N ?c ?m ?o ?k ?x ?d; (case k => rfl); (case x => rfl); (case N => k_asm); (case c => rfl); (case m => k_mem); (case o => k_asm); (case d => decide)))
  k_with "eval Call" => (k_here; (with_reducible show wpAny _ _ (eval (Expr.Call (Expr.Name _ _) [_, _] [] _) _) _ _ _); k_dflt (refine' call2 ?F ?hs ?X ?T ?ef ?kf ?hk ?hx ?hd ?p1 ?p2 ?_; (case F => k_asm); (case hs => exact rfl); (case X => k_asm); (case T => k_asm); (case hk => rfl); (case hx => rfl); (case hd => decide); (case ef => k_is); (case kf => k_is); (case p1 => walk_at "PU"); (case p2 => walk_at "PU")); intro t1 t2 tk; (try dsimp only))
  k_with "eval Call" => (k_here; (with_reducible show wpAny _ _ (eval (Expr.Call (Expr.Name _ _) [_, _, _, _] [] _) _) _ _ _); k_dflt (refine' call4 ?F ?hs ?X ?T ?ef ?kf ?hk ?hx ?hd ?p1 ?p2 ?p3 ?p4 ?_; (case F => k_asm); (case hs => exact rfl); (case X => k_asm); (case T => k_asm); (case hk => rfl); (case hx => rfl); (case hd => decide); (case ef => k_is); (case kf => k_is); (case p1 => walk_at "PU"); (case p2 => walk_at "PU"); (case p3 => walk_at "PU"); (case p4 => walk_at "PU")); intro t1 t2 t3 t4 tk; (try dsimp only))
  k_with "eval Call" => (k_here; (with_reducible show wpAny _ _ (eval (Expr.Call (Expr.Name _ _) [_, _, _, _, _] [] _) _) _ _ _); k_dflt (refine' call5 ?F ?hs ?X ?T ?ef ?kf ?hk ?hx ?hd ?p1 ?p2 ?p3 ?p4 ?p5 ?_; (case F => k_asm); (case hs => exact rfl); (case X => k_asm); (case T => k_asm); (case hk => rfl); (case hx => rfl); (case hd => decide); (case ef => k_is); (case kf => k_is); (case p1 => walk_at "PU"); (case p2 => walk_at "PU"); (case p3 => walk_at "PU"); (case p4 => walk_at "PU"); (case p5 => walk_at "PU")); intro t1 t2 t3 t4 t5 tk; (try dsimp only))
  k_with "eval Call" => (k_here; (with_reducible show wpAny _ _ (eval (Expr.Call (Expr.Name _ _) [_, _, _, _, _, _] [] _) _) _ _ _); k_dflt (refine' call6 ?F ?hs ?X ?T ?ef ?kf ?hk ?hx ?hd ?p1 ?p2 ?p3 ?p4 ?p5 ?p6 ?_; (case F => k_asm); (case hs => exact rfl); (case X => k_asm); (case T => k_asm); (case hk => rfl); (case hx => rfl); (case hd => decide); (case ef => k_is); (case kf => k_is); (case p1 => walk_at "PU"); (case p2 => walk_at "PU"); (case p3 => walk_at "PU"); (case p4 => walk_at "PU"); (case p5 => walk_at "PU"); (case p6 => walk_at "PU")); intro t1 t2 t3 t4 t5 t6 tk; (try dsimp only))
  k_with "LT" => ((repeat (first | (with_reducible refine as16 ?_; intro hz1 hz2 hz3 hz4 hz5 hz6 hz7 hz8 hz9 hz10 hz11 hz12 hz13 hz14 hz15 hz16) | (with_reducible refine as8 ?_; intro hz1 hz2 hz3 hz4 hz5 hz6 hz7 hz8) | (with_reducible refine as4 ?_; intro hz1 hz2 hz3 hz4) | (with_reducible refine as2 ?_; intro hz1 hz2) | (with_reducible refine as1 ?_; intro hz1))); intro hz0; (try (rename (∀ p ∈ ([] : List (Addr × Obj)), _) => hz0'; clear hz0')))
  k_with "PK" => with_reducible first | exact And.left (by assumption) | exact And.right (by assumption) | exact And.left (And.right (by assumption)) | exact And.right (And.right (by assumption)) | exact And.left (And.right (And.right (by assumption))) | exact And.right (And.right (And.right (by assumption))) | exact And.left (And.right (And.right (And.right (by assumption)))) | exact And.right (And.right (And.right (And.right (by assumption)))) | exact And.left (And.right (And.right (And.right (And.right (by assumption))))) | exact And.right (And.right (And.right (And.right (And.right (by assumption))))) | exact And.left (And.right (And.right (And.right (And.right (And.right (by assumption)))))) | exact And.right (And.right (And.right (And.right (And.right (And.right (by assumption)))))) | exact And.left (And.right (And.right (And.right (And.right (And.right (And.right (by assumption))))))) | exact And.right (And.right (And.right (And.right (And.right (And.right (And.right (by assumption))))))) | exact And.left (And.right (And.right (And.right (And.right (And.right (And.right (And.right (by assumption)))))))) | exact And.right (And.right (And.right (And.right (And.right (And.right (And.right (And.right (by assumption)))))))) | exact And.left (And.right (And.right (And.right (And.right (And.right (And.right (And.right (And.right (by assumption))))))))) | exact And.right (And.right (And.right (And.right (And.right (And.right (And.right (And.right (And.right (by assumption))))))))) | exact And.left (And.right (And.right (And.right (And.right (And.right (And.right (And.right (And.right (And.right (by assumption)))))))))) | exact And.right (And.right (And.right (And.right (And.right (And.right (And.right (And.right (And.right (And.right (by assumption)))))))))) | exact And.left (And.right (And.right (And.right (And.right (And.right (And.right (And.right (And.right (And.right (And.right (by assumption))))))))))) | exact And.right (And.right (And.right (And.right (And.right (And.right (And.right (And.right (And.right (And.right (And.right (by assumption))))))))))) | exact And.left (And.right (And.right (And.right (And.right (And.right (And.right (And.right (And.right (And.right (And.right (And.right (by assumption)))))))))))) | exact And.right (And.right (And.right (And.right (And.right (And.right (And.right (And.right (And.right (And.right (And.right (And.right (by assumption)))))))))))) | exact And.left (And.right (And.right (And.right (And.right (And.right (And.right (And.right (And.right (And.right (And.right (And.right (And.right (by assumption))))))))))))) | exact And.right (And.right (And.right (And.right (And.right (And.right (And.right (And.right (And.right (And.right (And.right (And.right (And.right (by assumption)))))))))))))
  k_with "k_ne" => (refine neN ?_; (try dsimp only); first | with_reducible (first | assumption | exact ne_gt (by assumption) | exact ne_lt (by assumption) | exact Ne.symm (by assumption) | exact nq (by assumption) | exact Ne.symm (nq (by assumption)) | exact ne_gt s_1 | exact ne_lt s_1 | exact ne_gt (lt_s s_1) | exact ne_lt (lt_s s_1) | exact ne_gt (lt_s (lt_s s_1)) | exact ne_lt (lt_s (lt_s s_1)) | exact ne_gt (lt_s (lt_s (lt_s s_1))) | exact ne_lt (lt_s (lt_s (lt_s s_1))) | exact ne_gt (lt_s (lt_s (lt_s (lt_s s_1)))) | exact ne_lt (lt_s (lt_s (lt_s (lt_s s_1)))) | exact ne_gt (lt_s (lt_s (lt_s (lt_s (lt_s s_1))))) | exact ne_lt (lt_s (lt_s (lt_s (lt_s (lt_s s_1))))) | exact ne_gt (lt_s (lt_s (lt_s (lt_s (lt_s (lt_s s_1)))))) | exact ne_lt (lt_s (lt_s (lt_s (lt_s (lt_s (lt_s s_1)))))) | exact ne_gt (lt_s (by assumption)) | exact ne_lt (lt_s (by assumption)) | exact ne_gt (lt_s (lt_s (by assumption))) | exact ne_lt (lt_s (lt_s (by assumption))) | exact ne_gt (lt_s (lt_s (lt_s (by assumption)))) | exact ne_lt (lt_s (lt_s (lt_s (by assumption)))) | exact ne_gt (lt_s (lt_s (lt_s (lt_s (by assumption))))) | exact ne_lt (lt_s (lt_s (lt_s (lt_s (by assumption))))) | exact ne_gt (lt_s (lt_s (lt_s (lt_s (lt_s (by assumption)))))) | exact ne_lt (lt_s (lt_s (lt_s (lt_s (lt_s (by assumption)))))) | exact ne_gt (lt_s (lt_s (lt_s (lt_s (lt_s (lt_s (by assumption))))))) | exact ne_lt (lt_s (lt_s (lt_s (lt_s (lt_s (lt_s (by assumption))))))) | exact ne_gt (lt_s (lt_s (lt_s (lt_s (lt_s (lt_s (lt_s (by assumption)))))))) | exact ne_lt (lt_s (lt_s (lt_s (lt_s (lt_s (lt_s (lt_s (by assumption))))))))) | with_reducible exact Nat.ne_of_lt (by assumption) | with_reducible exact Nat.ne_of_gt (by assumption) | walk_at "PK" | (refine Ne.symm ?_; walk_at "PK") | omega)
  k_with "ktr_room" => first | exact rm_depth (by assumption) (by decide) | exact rm_rec (by assumption) | exact rm_rec0 (by assumption)
  k_with "ktr_units" => exact rm_units (by assumption) (by decide)
  k_with "units_room" => exact rm_line (by assumption)
  k_with "MUL" => first | exact IntMulOk.of_left (by with_reducible assumption) | exact IntMulOk.of_right (by with_reducible assumption) | exact IntMulOk.of_right (times_b (by with_reducible assumption) (by with_reducible assumption)) | exact IntMulOk.of_left two_b | exact IntMulOk.of_left (v_b (by with_reducible assumption) (by with_reducible assumption)) | mul_fits
  k_with "CON IN" => ( (try unfold ConV); unfold Con; k_fill; intros; refine wpAny_call ?_; k_dflt ktr_enter)
  k_with "CON USE" => ( (case k1 => k_asm); (case k2 => k_asm); (case k3 => k_asm); (case k4 => k_asm); (case k5 => k_asm); (case kK => first | exact rfl | assumption); (case kd => ktr_room); (case ku => ktr_units); intro t9 h9 tk9 F9 N9; (try dsimp only); (try k_sweep); (try k_fold))
  k_with "call ref" => (k_here; refine' ConV.use (wrap_c _ _ _ _ _ ?p1 ?p2) ?k1 ?k2 ?k3 ?k4 ?k5 ?kK ?kd ?ku ?_; (case p1 => omega); (case p2 => omega); walk_at "CON USE")
  k_with "call ref" => (k_here; refine' ConV.use (before_c _ _ _ _ _ _ _ ?p1 ?p2) ?k1 ?k2 ?k3 ?k4 ?k5 ?kK ?kd ?ku ?_; (case p1 => omega); (case p2 => omega); walk_at "CON USE")
  walk_at "CON IN"
  rename_i hret _ _ _ _ _ _ _ _ _
  refine gen_q ?_
  intro Qg hQg
  refine gen_a ?_
  intro Ag
  k_steps
  all_goals (try (refine hQg _ _ ?_; (try dsimp only)))
  k_steps
  all_goals refine hret _ _ _ _ (by k_asm) (by k_asm) ⟨⟨0, congrArg Value.bool ?_⟩, rfl⟩
  · exact goes_e1 (by assumption)
  · exact goes_e2 (by assumption)

def nextf (n lim st w : Int) : Option Int := if goesf (wrapf (n + st) w) lim st = true then some (wrapf (n + st) w) else none
def optV : Option Int → Tok → Value
  | some x, t => .int x t
  | none, _ => .none
theorem next_e1 {n lim st w : Int} {t : Tok} (h : goesf (wrapf (n + st) w) lim st = true) : Value.int (wrapf (n + st) w) t = optV (nextf n lim st w) t := by
  simp only [nextf, h, if_true, optV]
theorem next_e2 {n lim st w : Int} {t : Tok} (h : goesf (wrapf (n + st) w) lim st = false) : Value.none = optV (nextf n lim st w) t := by
  simp only [nextf, h, Bool.false_eq_true, if_false, optV]
set_option maxRecDepth 100000 in
set_option maxHeartbeats 8000000 in
theorem next_c (w : World) (n lim st wd : Int) (tn tl ts tw : Tok) (h1 : 1 ≤ wd) (h2 : wd ≤ 70) :
    ConV w 153 2 [.int n tn, .int lim tl, .int st ts, .int wd tw] (optV (nextf n lim st wd)) := by
  w_top off
  k_with_none
  k_with "PU" => (first | with_reducible exact Pu.const | ((with_reducible show Pu _ _ _ (Expr.BinOp _ Operator.Add _ _) _); refine' Pu.add ?a ?b; (case a => walk_at "PU"); (case b => walk_at "PU")) | ((with_reducible show Pu _ _ _ (Expr.BinOp _ Operator.Sub _ _) _); refine' Pu.sub ?a ?b; (case a => walk_at "PU"); (case b => walk_at "PU")) | ((with_reducible show Pu _ _ _ (Expr.BinOp _ Operator.Mult _ _) _); refine' Pu.mul ?a ?b ?m; (case a => walk_at "PU"); (case b => walk_at "PU"); (case m => walk_at "MUL")) | (refine' Pu.loc ?F ?v ?k ?x ?d; (case F => k_asm); (case k => rfl); (case x => rfl); (case v => rfl); (case d => decide)) | (refine' Pu.ref ?F ?v ?k ?x ?d; (case F => k_asm); (case k => rfl); (case x => rfl); (case v => rfl); (case d => decide)) | (refine' Pu.cell ?N ?c ?m ?o ?k ?x ?d; (case k => rfl); (case x => rfl); (case N => k_asm); (case c => rfl); (case m => k_mem); (case o => k_asm); (case d => decide)) | (refine' Pu.cref ?N ?c ?m ?o ?k ?x ?d; (case k => rfl); (case x => rfl); (case N => k_asm); (case c => rfl); (case m => k_mem); (case o => k_asm); (case d => decide)))
  k_with "eval Call" => (k_here; (with_reducible show wpAny _ _ (eval (Expr.Call (Expr.Name _ _) [_, _] [] _) _) _ _ _); k_dflt (refine' call2 ?F ?hs ?X ?T ?ef ?kf ?hk ?hx ?hd ?p1 ?p2 ?_; (case F => k_asm); (case hs => exact rfl); (case X => k_asm); (case T => k_asm); (case hk => rfl); (case hx => rfl); (case hd => decide); (case ef => k_is); (case kf => k_is); (case p1 => walk_at "PU"); (case p2 => walk_at "PU")); intro t1 t2 tk; (try dsimp only))
  k_with "eval Call" => (k_here; (with_reducible show wpAny _ _ (eval (Expr.Call (Expr.Name _ _) [_, _, _, _] [] _) _) _ _ _); k_dflt (refine' call4 ?F ?hs ?X ?T ?ef ?kf ?hk ?hx ?hd ?p1 ?p2 ?p3 ?p4 ?_; (case F => k_asm); (case hs => exact rfl); (case X => k_asm); (case T => k_asm); (case hk => rfl); (case hx => rfl); (case hd => decide); (case ef => k_is); (case kf => k_is); (case p1 => walk_at "PU"); (case p2 => walk_at "PU"); (case p3 => walk_at "PU"); (case p4 => walk_at "PU")); intro t1 t2 t3 t4 tk; (try dsimp only))
  k_with "eval Call" => (k_here; (with_reducible show wpAny _ _ (eval (Expr.Call (Expr.Name _ _) [_, _, _, _, _] [] _) _) _ _ _); k_dflt (refine' call5 ?F ?hs ?X ?T ?ef ?kf ?hk ?hx ?hd ?p1 ?p2 ?p3 ?p4 ?p5 ?_; (case F => k_asm); (case hs => exact rfl); (case X => k_asm); (case T => k_asm); (case hk => rfl); (case hx => rfl); (case hd => decide); (case ef => k_is); (case kf => k_is); (case p1 => walk_at "PU"); (case p2 => walk_at "PU"); (case p3 => walk_at "PU"); (case p4 => walk_at "PU"); (case p5 => walk_at "PU")); intro t1 t2 t3 t4 t5 tk; (try dsimp only))
  k_with "eval Call" => (k_here; (with_reducible show wpAny _ _ (eval (Expr.Call (Expr.Name _ _) [_, _, _, _, _, _] [] _) _) _ _ _); k_dflt (refine' call6 ?F ?hs ?X ?T ?ef ?kf ?hk ?hx ?hd ?p1 ?p2 ?p3 ?p4 ?p5 ?p6 ?_; (case F => k_asm); (case hs => exact rfl); (case X => k_asm); (case T => k_asm); (case hk => rfl); (case hx => rfl); (case hd => decide); (case ef => k_is); (case kf => k_is); (case p1 => walk_at "PU"); (case p2 => walk_at "PU"); (case p3 => walk_at "PU"); (case p4 => walk_at "PU"); (case p5 => walk_at "PU"); (case p6 => walk_at "PU")); intro t1 t2 t3 t4 t5 t6 tk; (try dsimp only))
  k_with "LT" => ((repeat (first | (with_reducible refine as16 ?_; intro hz1 hz2 hz3 hz4 hz5 hz6 hz7 hz8 hz9 hz10 hz11 hz12 hz13 hz14 hz15 hz16) | (with_reducible refine as8 ?_; intro hz1 hz2 hz3 hz4 hz5 hz6 hz7 hz8) | (with_reducible refine as4 ?_; intro hz1 hz2 hz3 hz4) | (with_reducible refine as2 ?_; intro hz1 hz2) | (with_reducible refine as1 ?_; intro hz1))); intro hz0; (try (rename (∀ p ∈ ([] : List (Addr × Obj)), _) => hz0'; clear hz0')))
  k_with "PK" => with_reducible first | exact And.left (by assumption) | exact And.right (by assumption) | exact And.left (And.right (by assumption)) | exact And.right (And.right (by assumption)) | exact And.left (And.right (And.right (by assumption))) | exact And.right (And.right (And.right (by assumption))) | exact And.left (And.right (And.right (And.right (by assumption)))) | exact And.right (And.right (And.right (And.right (by assumption)))) | exact And.left (And.right (And.right (And.right (And.right (by assumption))))) | exact And.right (And.right (And.right (And.right (And.right (by assumption))))) | exact And.left (And.right (And.right (And.right (And.right (And.right (by assumption)))))) | exact And.right (And.right (And.right (And.right (And.right (And.right (by assumption)))))) | exact And.left (And.right (And.right (And.right (And.right (And.right (And.right (by assumption))))))) | exact And.right (And.right (And.right (And.right (And.right (And.right (And.right (by assumption))))))) | exact And.left (And.right (And.right (And.right (And.right (And.right (And.right (And.right (by assumption)))))))) | exact And.right (And.right (And.right (And.right (And.right (And.right (And.right (And.right (by assumption)))))))) | exact And.left (And.right (And.right (And.right (And.right (And.right (And.right (And.right (And.right (by assumption))))))))) | exact And.right (And.right (And.right (And.right (And.right (And.right (And.right (And.right (And.right (by assumption))))))))) | exact And.left (And.right (And.right (And.right (And.right (And.right (And.right (And.right (And.right (And.right (by assumption)))))))))) | exact And.right (And.right (And.right (And.right (And.right (And.right (And.right (And.right (And.right (And.right (by assumption)))))))))) | exact And.left (And.right (And.right (And.right (And.right (And.right (And.right (And.right (And.right (And.right (And.right (by assumption))))))))))) | exact And.right (And.right (And.right (And.right (And.right (And.right (And.right (And.right (And.right (And.right (And.right (by assumption))))))))))) | exact And.left (And.right (And.right (And.right (And.right (And.right (And.right (And.right (And.right (And.right (And.right (And.right (by assumption)))))))))))) | exact And.right (And.right (And.right (And.right (And.right (And.right (And.right (And.right (And.right (And.right (And.right (And.right (by assumption)))))))))))) | exact And.left (And.right (And.right (And.right (And.right (And.right (And.right (And.right (And.right (And.right (And.right (And.right (And.right (by assumption))))))))))))) | exact And.right (And.right (And.right (And.right (And.right (And.right (And.right (And.right (And.right (And.right (And.right (And.right (And.right (by assumption)))))))))))))
  k_with "k_ne" => (refine neN ?_; (try dsimp only); first | with_reducible (first | assumption | exact ne_gt (by assumption) | exact ne_lt (by assumption) | exact Ne.symm (by assumption) | exact nq (by assumption) | exact Ne.symm (nq (by assumption)) | exact ne_gt s_1 | exact ne_lt s_1 | exact ne_gt (lt_s s_1) | exact ne_lt (lt_s s_1) | exact ne_gt (lt_s (lt_s s_1)) | exact ne_lt (lt_s (lt_s s_1)) | exact ne_gt (lt_s (lt_s (lt_s s_1))) | exact ne_lt (lt_s (lt_s (lt_s s_1))) | exact ne_gt (lt_s (lt_s (lt_s (lt_s s_1)))) | exact ne_lt (lt_s (lt_s (lt_s (lt_s s_1)))) | exact ne_gt (lt_s (lt_s (lt_s (lt_s (lt_s s_1))))) | exact ne_lt (lt_s (lt_s (lt_s (lt_s (lt_s s_1))))) | exact ne_gt (lt_s (lt_s (lt_s (lt_s (lt_s (lt_s s_1)))))) | exact ne_lt (lt_s (lt_s (lt_s (lt_s (lt_s (lt_s s_1)))))) | exact ne_gt (lt_s (by assumption)) | exact ne_lt (lt_s (by assumption)) | exact ne_gt (lt_s (lt_s (by assumption))) | exact ne_lt (lt_s (lt_s (by assumption))) | exact ne_gt (lt_s (lt_s (lt_s (by assumption)))) | exact ne_lt (lt_s (lt_s (lt_s (by assumption)))) | exact ne_gt (lt_s (lt_s (lt_s (lt_s (by assumption))))) | exact ne_lt (lt_s (lt_s (lt_s (lt_s (by assumption))))) | exact ne_gt (lt_s (lt_s (lt_s (lt_s (lt_s (by assumption)))))) | exact ne_lt (lt_s (lt_s (lt_s (lt_s (lt_s (by assumption)))))) | exact ne_gt (lt_s (lt_s (lt_s (lt_s (lt_s (lt_s (by assumption))))))) | exact ne_lt (lt_s (lt_s (lt_s (lt_s (lt_s (lt_s (by assumption))))))) | exact ne_gt (lt_s (lt_s (lt_s (lt_s (lt_s (lt_s (lt_s (by assumption)))))))) | exact ne_lt (lt_s (lt_s (lt_s (lt_s (lt_s (lt_s (lt_s (by assumption))))))))) | with_reducible exact Nat.ne_of_lt (by assumption) | with_reducible exact Nat.ne_of_gt (by assumption) | walk_at "PK" | (refine Ne.symm ?_; walk_at "PK") | omega)
  k_with "ktr_room" => first | exact rm_depth (by assumption) (by decide) | exact rm_rec (by assumption) | exact rm_rec0 (by assumption)
  k_with "ktr_units" => exact rm_units (by assumption) (by decide)
  k_with "units_room" => exact rm_line (by assumption)
  k_with "MUL" => first | exact IntMulOk.of_left (by with_reducible assumption) | exact IntMulOk.of_right (by with_reducible assumption) | exact IntMulOk.of_right (times_b (by with_reducible assumption) (by with_reducible assumption)) | exact IntMulOk.of_left two_b | exact IntMulOk.of_left (v_b (by with_reducible assumption) (by with_reducible assumption)) | mul_fits
  k_with "CON IN" => ( (try unfold ConV); unfold Con; k_fill; intros; refine wpAny_call ?_; k_dflt ktr_enter)
  k_with "CON USE" => ( (case k1 => k_asm); (case k2 => k_asm); (case k3 => k_asm); (case k4 => k_asm); (case k5 => k_asm); (case kK => first | exact rfl | assumption); (case kd => ktr_room); (case ku => ktr_units); intro t9 h9 tk9 F9 N9; (try dsimp only); (try k_sweep); (try k_fold))
  k_with "call ref" => (k_here; refine' ConV.use (wrap_c _ _ _ _ _ ?p1 ?p2) ?k1 ?k2 ?k3 ?k4 ?k5 ?kK ?kd ?ku ?_; (case p1 => omega); (case p2 => omega); walk_at "CON USE")
  k_with "call ref" => (k_here; refine' ConV.use (before_c _ _ _ _ _ _ _ ?p1 ?p2) ?k1 ?k2 ?k3 ?k4 ?k5 ?kK ?kd ?ku ?_; (case p1 => omega); (case p2 => omega); walk_at "CON USE")
  k_with "call ref" => (k_here; refine' ConV.use (goes_c _ _ _ _ _ _ _) ?k1 ?k2 ?k3 ?k4 ?k5 ?kK ?kd ?ku ?_; walk_at "CON USE")
  walk_at "CON IN"
  rename_i hret _ _ _ _ _ _ _ _ _
  refine gen_q ?_
  intro Qg hQg
  refine gen_a ?_
  intro Ag
  k_steps
  all_goals (try (refine hQg _ _ ?_; (try dsimp only)))
  k_steps
  all_goals refine hret _ _ _ _ (by k_asm) (by k_asm) ⟨?_, rfl⟩
  · exact ⟨_, next_e1 (by assumption)⟩
  · exact ⟨0, next_e2 (by assumption)⟩

def roundsGo (lim st w : Int) : Nat → Option Int → List Int
  | 0, _ => []
  | _, none => []
  | k + 1, some x => x :: roundsGo lim st w k (nextf x lim st w)
def roundsf (first lim st w most : Int) : List Int := roundsGo lim st w most.toNat (nextf (wrapf (first - st) w) lim st w)

/-- a new list of these ints -/
def NewInts (news : Led) (ns : List Int) (r : Value) (l : Led) : Prop :=
  ∃ d vs n, r = .ref d ∧ l = (d, listOf vs.toArray n) :: news ∧ IntsAre vs ns ∧ ∀ p ∈ news, p.1 < d

/-- between two rounds -/
def RdInv (lim st w : Int) (R : List Int) (M : Nat) (m₀ : PySem.Str → Option Value) (D d : Addr) (news : Led) (dobj : Obj) (n : Nat) (m : PySem.Str → Option Value) (nx : Led) : Prop :=
  ∃ (vs : List Value) (c : Nat) (acc : List Int) (o : Option Int) (t : Tok), nx = (D, dobj) :: (d, listOf vs.toArray c) :: news ∧ m = (fun z => if z = PySem.Str.ofString "here" then some (optV o t) else m₀ z) ∧
    IntsAre vs acc ∧ acc.length + n = M ∧ acc ++ roundsGo lim st w n o = R
def RdStep (h₀ : Heap) (L : Addr) (s : Shared) (J : Nat → (PySem.Str → Option Value) → Led → Prop) (Q : Flow → Shared → Prop) (n : Nat) (f : Flow) (s₃ : Shared) : Prop := WhileStep2 h₀ L s J Q n f s₃
theorem news_drop {h₀ h : Heap} {L : Addr} {p : Addr × Obj} {l : Led} (N : News h₀ L h (p :: l)) : News h₀ L h l := fun q hq => N q (.tail _ hq)
theorem roundsGo_none {lim st w : Int} : ∀ n, roundsGo lim st w n none = []
  | 0 => rfl
  | _ + 1 => rfl
section
variable {prog : Program} {w : World} {A : Around} {E : Value → Shared → Prop} {Q : Flow → Shared → Prop} {s : Shared} {env : Env} {h₀ : Heap} {L : Addr}
theorem rounds_loop {test : Expr} {body : List Stmt} {pos : Pos} {m₀ : PySem.Str → Option Value} {lim st wd : Int} {D d : Addr} {news : Led} {dobj : Obj} {mo : Int} {M : Nat} {o : Option Int} {t tl ts tw tm : Tok}
    (F : Fr h₀ L s.heap m₀) (N : News h₀ L s.heap ((D, dobj) :: (d, listOf #[] 0) :: news)) (hm : m₀ (PySem.Str.ofString "here") = some (optV o t)) (hm1 : m₀ (PySem.Str.ofString "limit") = some (.int lim tl)) (hm2 : m₀ (PySem.Str.ofString "step") = some (.int st ts)) (hm3 : m₀ (PySem.Str.ofString "width") = some (.int wd tw)) (hm4 : m₀ (PySem.Str.ofString "most") = some (.int mo tm)) (hM : mo.toNat = M)
    (stop : ∀ (vs : List Value) (c : Nat) (t : Tok) (h : Heap) (tk : Nat), IntsAre vs (roundsGo lim st wd M o) → Fr h₀ L h (fun z => if z = PySem.Str.ofString "here" then some .none else m₀ z) → News h₀ L h ((D, dobj) :: (d, listOf vs.toArray c) :: news) →
      wpAny (model prog w) A (isTrue test env (eval test env)) (fun b s₂ =>
        if b = true then False else Q .next s₂) E { s with heap := h, toks := tk })
    (turn : ∀ (n : Nat) (vs : List Value) (c : Nat) (acc : List Int) (x : Int) (t : Tok) (h : Heap) (tk : Nat), IntsAre vs acc → acc.length + n = M → acc ++ roundsGo lim st wd n (some x) = roundsGo lim st wd M o →
      Fr h₀ L h (fun z => if z = PySem.Str.ofString "here" then some (.int x t) else m₀ z) → News h₀ L h ((D, dobj) :: (d, listOf vs.toArray c) :: news) →
      wpAny (model prog w) A (isTrue test env (eval test env)) (fun b s₂ =>
        if b = true then wpAny (model prog w) A (execs body env) (RdStep h₀ L s (RdInv lim st wd (roundsGo lim st wd M o) M m₀ D d news dobj) Q n) E s₂ else Q .next s₂) E { s with heap := h, toks := tk })
    (hE : PassesOwn (model prog w) A env E := by passes_own) :
    wpAny (model prog w) A (exec (.While test body [] pos) env) Q E s := by
  refine While_inv2 (RdInv lim st wd (roundsGo lim st wd M o) M m₀ D d news dobj) (n₀ := M) F N ⟨[], 0, [], o, t, rfl, ?_, .nil, by simp, by simp⟩ ?_ hE
  · funext z
    by_cases hz : z = PySem.Str.ofString "here"
    · rw [if_pos hz, hz, hm]
    · rw [if_neg hz]
  · rintro n m₁ nx h tk F₁ N₁ ⟨vs, c, acc, o', t', rfl, rfl, hi, hl, hr⟩
    cases o' with
    | none =>
      rw [roundsGo_none, List.append_nil] at hr
      refine wpAny_mono (stop vs c t' h tk (hr ▸ hi) F₁ N₁) (fun b s₂ q => ?_) fun _ _ x => x
      cases b with
      | true => exact absurd q (by simp)
      | false => simpa using q
    | some x => exact turn n vs c acc x t' h tk hi hl hr F₁ N₁
theorem rounds_next {lim st wd : Int} {R : List Int} {M : Nat} {m₀ : PySem.Str → Option Value} {D d : Addr} {news : Led} {dobj : Obj} {n c : Nat} {vs : List Value} {acc : List Int} {x : Int} {t' : Tok} {h : Heap} {tk : Nat} {m : PySem.Str → Option Value}
    (hi : IntsAre vs acc) (hl : acc.length + n = M) (hr : acc ++ roundsGo lim st wd n (some x) = R) (hlt : (acc.length : Int) < (M : Int)) {t : Tok}
    (F : Fr h₀ L h m) (hm0 : m (PySem.Str.ofString "here") = some (optV (nextf x lim st wd) t')) (hm1 : ∀ z, z ≠ PySem.Str.ofString "here" → m z = m₀ z) (N : News h₀ L h ((D, dobj) :: (d, listOf (vs.toArray.push (.int x t)) c) :: news)) :
    RdStep h₀ L s (RdInv lim st wd R M m₀ D d news dobj) Q n .next { s with heap := h, toks := tk } := by
  have hm : m = (fun z => if z = PySem.Str.ofString "here" then some (optV (nextf x lim st wd) t') else m₀ z) := by
    funext z
    by_cases hz : z = PySem.Str.ofString "here"
    · rw [if_pos hz, hz, hm0]
    · rw [if_neg hz, hm1 z hz]
  cases n with
  | zero => omega
  | succ k =>
    refine ⟨h, tk, _, _, k, rfl, F, N, Nat.lt_succ_self k, vs ++ [.int x t], c, acc ++ [x], nextf x lim st wd, t', by simp, hm, IntsAre.append hi (.cons _ _ .nil), by simp; omega, ?_⟩
    rw [← hr]
    simp [roundsGo]
end
theorem rounds_stop {lim st wd : Int} {M n : Nat} {acc R : List Int} {x : Int} {vs : List Value} (hi : IntsAre vs acc) (hl : acc.length + n = M) (hr : acc ++ roundsGo lim st wd n (some x) = R) (hlt : ¬ (acc.length : Int) < (M : Int)) : IntsAre vs R := by
  have h : n = 0 := by omega
  subst h
  simpa [roundsGo, ← hr] using hi

set_option maxRecDepth 100000 in
set_option maxHeartbeats 8000000 in
theorem rounds_c (w : World) (news : Led) (n lim st wd mo : Int) (tn tl ts tw tm : Tok) (h1 : 1 ≤ wd) (h2 : wd ≤ 70) (h3 : 0 ≤ mo) (h4 : mo ≤ 100) :
    Con w 167 4 news [.int n tn, .int lim tl, .int st ts, .int wd tw, .int mo tm] (NewInts news (roundsf n lim st wd mo)) := by
  w_top off
  k_with_none
  k_with "PU" => (first | with_reducible exact Pu.const | ((with_reducible show Pu _ _ _ (Expr.BinOp _ Operator.Add _ _) _); refine' Pu.add ?a ?b; (case a => walk_at "PU"); (case b => walk_at "PU")) | ((with_reducible show Pu _ _ _ (Expr.BinOp _ Operator.Sub _ _) _); refine' Pu.sub ?a ?b; (case a => walk_at "PU"); (case b => walk_at "PU")) | ((with_reducible show Pu _ _ _ (Expr.BinOp _ Operator.Mult _ _) _); refine' Pu.mul ?a ?b ?m; (case a => walk_at "PU"); (case b => walk_at "PU"); (case m => walk_at "MUL")) | (refine' Pu.loc ?F ?v ?k ?x ?d; (case F => k_asm); (case k => rfl); (case x => rfl); (case v => rfl); (case d => decide)) | (refine' Pu.ref ?F ?v ?k ?x ?d; (case F => k_asm); (case k => rfl); (case x => rfl); (case v => rfl); (case d => decide)) | (refine' Pu.cell ?N ?c ?m ?o ?k ?x ?d; (case k => rfl); (case x => rfl); (case N => k_asm); (case c => rfl); (case m => k_mem); (case o => k_asm); (case d => decide)) | (refine' Pu.cref ?N ?c ?m ?o ?k ?x ?d; (case k => rfl); (case x => rfl); (case N => k_asm); (case c => rfl); (case m => k_mem); (case o => k_asm); (case d => decide)))
  k_with "eval Call" => (k_here; (with_reducible show wpAny _ _ (eval (Expr.Call (Expr.Name _ _) [_, _] [] _) _) _ _ _); k_dflt (refine' call2 ?F ?hs ?X ?T ?ef ?kf ?hk ?hx ?hd ?p1 ?p2 ?_; (case F => k_asm); (case hs => exact rfl); (case X => k_asm); (case T => k_asm); (case hk => rfl); (case hx => rfl); (case hd => decide); (case ef => k_is); (case kf => k_is); (case p1 => walk_at "PU"); (case p2 => walk_at "PU")); intro t1 t2 tk; (try dsimp only))
  k_with "eval Call" => (k_here; (with_reducible show wpAny _ _ (eval (Expr.Call (Expr.Name _ _) [_, _, _, _] [] _) _) _ _ _); k_dflt (refine' call4 ?F ?hs ?X ?T ?ef ?kf ?hk ?hx ?hd ?p1 ?p2 ?p3 ?p4 ?_; (case F => k_asm); (case hs => exact rfl); (case X => k_asm); (case T => k_asm); (case hk => rfl); (case hx => rfl); (case hd => decide); (case ef => k_is); (case kf => k_is); (case p1 => walk_at "PU"); (case p2 => walk_at "PU"); (case p3 => walk_at "PU"); (case p4 => walk_at "PU")); intro t1 t2 t3 t4 tk; (try dsimp only))
  k_with "eval Call" => (k_here; (with_reducible show wpAny _ _ (eval (Expr.Call (Expr.Name _ _) [_, _, _, _, _] [] _) _) _ _ _); k_dflt (refine' call5 ?F ?hs ?X ?T ?ef ?kf ?hk ?hx ?hd ?p1 ?p2 ?p3 ?p4 ?p5 ?_; (case F => k_asm); (case hs => exact rfl); (case X => k_asm); (case T => k_asm); (case hk => rfl); (case hx => rfl); (case hd => decide); (case ef => k_is); (case kf => k_is); (case p1 => walk_at "PU"); (case p2 => walk_at "PU"); (case p3 => walk_at "PU"); (case p4 => walk_at "PU"); (case p5 => walk_at "PU")); intro t1 t2 t3 t4 t5 tk; (try dsimp only))
  k_with "eval Call" => (k_here; (with_reducible show wpAny _ _ (eval (Expr.Call (Expr.Name _ _) [_, _, _, _, _, _] [] _) _) _ _ _); k_dflt (refine' call6 ?F ?hs ?X ?T ?ef ?kf ?hk ?hx ?hd ?p1 ?p2 ?p3 ?p4 ?p5 ?p6 ?_; (case F => k_asm); (case hs => exact rfl); (case X => k_asm); (case T => k_asm); (case hk => rfl); (case hx => rfl); (case hd => decide); (case ef => k_is); (case kf => k_is); (case p1 => walk_at "PU"); (case p2 => walk_at "PU"); (case p3 => walk_at "PU"); (case p4 => walk_at "PU"); (case p5 => walk_at "PU"); (case p6 => walk_at "PU")); intro t1 t2 t3 t4 t5 t6 tk; (try dsimp only))
  k_with "LT" => ((repeat (first | (with_reducible refine as16 ?_; intro hz1 hz2 hz3 hz4 hz5 hz6 hz7 hz8 hz9 hz10 hz11 hz12 hz13 hz14 hz15 hz16) | (with_reducible refine as8 ?_; intro hz1 hz2 hz3 hz4 hz5 hz6 hz7 hz8) | (with_reducible refine as4 ?_; intro hz1 hz2 hz3 hz4) | (with_reducible refine as2 ?_; intro hz1 hz2) | (with_reducible refine as1 ?_; intro hz1))); intro hz0; (try (rename (∀ p ∈ ([] : List (Addr × Obj)), _) => hz0'; clear hz0')))
  k_with "PK" => with_reducible first | exact And.left (by assumption) | exact And.right (by assumption) | exact And.left (And.right (by assumption)) | exact And.right (And.right (by assumption)) | exact And.left (And.right (And.right (by assumption))) | exact And.right (And.right (And.right (by assumption))) | exact And.left (And.right (And.right (And.right (by assumption)))) | exact And.right (And.right (And.right (And.right (by assumption)))) | exact And.left (And.right (And.right (And.right (And.right (by assumption))))) | exact And.right (And.right (And.right (And.right (And.right (by assumption))))) | exact And.left (And.right (And.right (And.right (And.right (And.right (by assumption)))))) | exact And.right (And.right (And.right (And.right (And.right (And.right (by assumption)))))) | exact And.left (And.right (And.right (And.right (And.right (And.right (And.right (by assumption))))))) | exact And.right (And.right (And.right (And.right (And.right (And.right (And.right (by assumption))))))) | exact And.left (And.right (And.right (And.right (And.right (And.right (And.right (And.right (by assumption)))))))) | exact And.right (And.right (And.right (And.right (And.right (And.right (And.right (And.right (by assumption)))))))) | exact And.left (And.right (And.right (And.right (And.right (And.right (And.right (And.right (And.right (by assumption))))))))) | exact And.right (And.right (And.right (And.right (And.right (And.right (And.right (And.right (And.right (by assumption))))))))) | exact And.left (And.right (And.right (And.right (And.right (And.right (And.right (And.right (And.right (And.right (by assumption)))))))))) | exact And.right (And.right (And.right (And.right (And.right (And.right (And.right (And.right (And.right (And.right (by assumption)))))))))) | exact And.left (And.right (And.right (And.right (And.right (And.right (And.right (And.right (And.right (And.right (And.right (by assumption))))))))))) | exact And.right (And.right (And.right (And.right (And.right (And.right (And.right (And.right (And.right (And.right (And.right (by assumption))))))))))) | exact And.left (And.right (And.right (And.right (And.right (And.right (And.right (And.right (And.right (And.right (And.right (And.right (by assumption)))))))))))) | exact And.right (And.right (And.right (And.right (And.right (And.right (And.right (And.right (And.right (And.right (And.right (And.right (by assumption)))))))))))) | exact And.left (And.right (And.right (And.right (And.right (And.right (And.right (And.right (And.right (And.right (And.right (And.right (And.right (by assumption))))))))))))) | exact And.right (And.right (And.right (And.right (And.right (And.right (And.right (And.right (And.right (And.right (And.right (And.right (And.right (by assumption)))))))))))))
  k_with "k_ne" => (refine neN ?_; (try dsimp only); first | with_reducible (first | assumption | exact ne_gt (by assumption) | exact ne_lt (by assumption) | exact Ne.symm (by assumption) | exact nq (by assumption) | exact Ne.symm (nq (by assumption)) | exact ne_gt s_1 | exact ne_lt s_1 | exact ne_gt (lt_s s_1) | exact ne_lt (lt_s s_1) | exact ne_gt (lt_s (lt_s s_1)) | exact ne_lt (lt_s (lt_s s_1)) | exact ne_gt (lt_s (lt_s (lt_s s_1))) | exact ne_lt (lt_s (lt_s (lt_s s_1))) | exact ne_gt (lt_s (lt_s (lt_s (lt_s s_1)))) | exact ne_lt (lt_s (lt_s (lt_s (lt_s s_1)))) | exact ne_gt (lt_s (lt_s (lt_s (lt_s (lt_s s_1))))) | exact ne_lt (lt_s (lt_s (lt_s (lt_s (lt_s s_1))))) | exact ne_gt (lt_s (lt_s (lt_s (lt_s (lt_s (lt_s s_1)))))) | exact ne_lt (lt_s (lt_s (lt_s (lt_s (lt_s (lt_s s_1)))))) | exact ne_gt (lt_s (by assumption)) | exact ne_lt (lt_s (by assumption)) | exact ne_gt (lt_s (lt_s (by assumption))) | exact ne_lt (lt_s (lt_s (by assumption))) | exact ne_gt (lt_s (lt_s (lt_s (by assumption)))) | exact ne_lt (lt_s (lt_s (lt_s (by assumption)))) | exact ne_gt (lt_s (lt_s (lt_s (lt_s (by assumption))))) | exact ne_lt (lt_s (lt_s (lt_s (lt_s (by assumption))))) | exact ne_gt (lt_s (lt_s (lt_s (lt_s (lt_s (by assumption)))))) | exact ne_lt (lt_s (lt_s (lt_s (lt_s (lt_s (by assumption)))))) | exact ne_gt (lt_s (lt_s (lt_s (lt_s (lt_s (lt_s (by assumption))))))) | exact ne_lt (lt_s (lt_s (lt_s (lt_s (lt_s (lt_s (by assumption))))))) | exact ne_gt (lt_s (lt_s (lt_s (lt_s (lt_s (lt_s (lt_s (by assumption)))))))) | exact ne_lt (lt_s (lt_s (lt_s (lt_s (lt_s (lt_s (lt_s (by assumption))))))))) | with_reducible exact Nat.ne_of_lt (by assumption) | with_reducible exact Nat.ne_of_gt (by assumption) | walk_at "PK" | (refine Ne.symm ?_; walk_at "PK") | omega)
  k_with "ktr_room" => first | exact rm_depth (by assumption) (by decide) | exact rm_rec (by assumption) | exact rm_rec0 (by assumption)
  k_with "ktr_units" => exact rm_units (by assumption) (by decide)
  k_with "units_room" => exact rm_line (by assumption)
  k_with "MUL" => first | exact IntMulOk.of_left (by with_reducible assumption) | exact IntMulOk.of_right (by with_reducible assumption) | exact IntMulOk.of_right (times_b (by with_reducible assumption) (by with_reducible assumption)) | exact IntMulOk.of_left two_b | exact IntMulOk.of_left (v_b (by with_reducible assumption) (by with_reducible assumption)) | mul_fits
  k_with "CON IN" => ( (try unfold ConV); unfold Con; k_fill; intros; refine wpAny_call ?_; k_dflt ktr_enter)
  k_with "CON USE" => ( (case k1 => k_asm); (case k2 => k_asm); (case k3 => k_asm); (case k4 => k_asm); (case k5 => k_asm); (case kK => first | exact rfl | assumption); (case kd => ktr_room); (case ku => ktr_units); intro t9 h9 tk9 F9 N9; (try dsimp only); (try k_sweep); (try k_fold))
  k_with "call ref" => (k_here; refine' ConV.use (before_c _ _ _ _ _ _ _ ?p1 ?p2) ?k1 ?k2 ?k3 ?k4 ?k5 ?kK ?kd ?ku ?_; (case p1 => omega); (case p2 => omega); walk_at "CON USE")
  k_with "call ref" => (k_here; refine' ConV.use (next_c _ _ _ _ _ _ _ _ _ ?p1 ?p2) ?k1 ?k2 ?k3 ?k4 ?k5 ?kK ?kd ?ku ?_; (case p1 => omega); (case p2 => omega); walk_at "CON USE")
  k_with "exec While BoolOp" => (k_here; (rename Fr _ _ _ _ => lF'); (rename News _ _ _ _ => lN'); (with_unfolding_all refine' rounds_loop lF' lN' ?hm ?hm1 ?hm2 ?hm3 ?hm4 rfl ?_ ?_; (case hm => exact rfl); (case hm1 => exact rfl); (case hm2 => exact rfl); (case hm3 => exact rfl); (case hm4 => exact rfl); all_goals (intros; (try dsimp only); (try k_sweep); k_fold)))
  walk_at "CON IN"
  rename_i hret _ _ _ _ _ _ _ _ _
  refine gen_q ?_
  intro Qg hQg
  refine gen_a ?_
  intro Ag
  k_steps
  all_goals (try (refine hQg _ _ ?_; (try dsimp only)))
  k_steps
  · exact hret _ _ _ _ (by k_asm) (news_drop (by k_asm)) ⟨_, _, _, rfl, rfl, by assumption, by assumption⟩
  · refine rounds_next (by assumption) (by assumption) (by assumption) (by omega) (by k_asm) rfl ?_ (by k_asm)
    intro z hz
    simp only [hz, if_false]
  · exact hret _ _ _ _ (by k_asm) (news_drop (by k_asm)) ⟨_, _, _, rfl, rfl, rounds_stop (by assumption) (by assumption) (by assumption) (by omega), by assumption⟩

section
structure KinHyp (first limit step wd : Int) (fs : List Int) : Prop where
  len : fs.length ≤ 8
  w1 : 8 ≤ wd
  w2 : wd ≤ 64
  bf : -100 ≤ first ∧ first ≤ 100
  bl : -100 ≤ limit ∧ limit ≤ 100
  bs : -10 ≤ step ∧ step ≤ 10
  k1 : decide (fs = []) = false → roundsf (fs.getLastD 0) first (0 - step) wd 99 = fs.reverse
  k2 : ∀ x, 0 ≤ x → x < 41 → roundsf (first + (x - 20)) (limit + (x - 20)) step wd 99 = fs.map (fun k' => k' + (x - 20))
  k3 : roundsf (0 - first) (0 - limit) (0 - step) wd 99 = fs.map (fun k' => 0 - k')
  k4 : ∀ x, 0 ≤ x → x < 2 → roundsf (first * (2 + x)) (limit * (2 + x)) (step * (2 + x)) (wd + 2) 99 = fs.map (fun k' => k' * (2 + x))
  k5 : roundsf first limit (2 * step) wd 99 = pickI fs none none (some 2)
  k6 : roundsf (first + step) limit (2 * step) wd 99 = pickI fs (some 1) none (some 2)
  k7 : ∀ x, 0 ≤ x → x < (fs.length : Int) + 1 → roundsf first (first + step * (x - 1)) step wd 99 = fs.take x.toNat
  k8 : ∀ x, 0 ≤ x → x < (fs.length : Int) + 1 → roundsf (first + step * x) limit step wd 99 = fs.drop x.toNat
end

section
theorem pow_pos2 (n : Nat) : (0 : Int) < 2 ^ n := by
  induction n with
  | zero => decide
  | succ n ih => rw [Int.pow_succ]; lia
theorem pow_half {w : Int} (h : 1 ≤ w) : (2 : Int) ^ w.toNat = 2 * 2 ^ (w - 1).toNat := by
  obtain ⟨k, hk⟩ : ∃ k : Nat, w.toNat = k + 1 := ⟨(w - 1).toNat, by lia⟩
  rw [hk, show (w - 1).toNat = k by lia, Int.pow_succ]; lia
theorem powI_ge {a b : Nat} (h : a ≤ b) : (2 : Int) ^ a ≤ 2 ^ b := by
  obtain ⟨k, rfl⟩ := Nat.le.dest h
  rw [Int.pow_add]
  have := Int.mul_le_mul_of_nonneg_left (show (1 : Int) ≤ 2 ^ k by have := pow_pos2 k; lia) (show (0 : Int) ≤ 2 ^ a by have := pow_pos2 a; lia)
  lia
theorem wrapf_id {n w : Int} (h : 1 ≤ w) (h1 : -2 ^ (w - 1).toNat ≤ n) (h2 : n < 2 ^ (w - 1).toNat) : wrapf n w = n := by
  unfold wrapf
  rw [pow_half h]
  generalize (2 : Int) ^ (w - 1).toNat = H at *
  rcases Int.lt_or_le n 0 with hn | hn
  · have : n % (2 * H) = n + 2 * H := by
      rw [← Int.add_emod_right]
      exact Int.emod_eq_of_lt (by lia) (by lia)
    rw [this, if_pos (by lia)]; lia
  · rw [Int.emod_eq_of_lt hn (by lia), if_neg (by lia)]
theorem wrapf_mod {n w : Int} : wrapf n w % 2 ^ w.toNat = n % 2 ^ w.toNat := by
  unfold wrapf
  split
  · rw [Int.sub_emod_right, Int.emod_emod]
  · rw [Int.emod_emod]
theorem wrapf_cong {a b w : Int} (h : a % 2 ^ w.toNat = b % 2 ^ w.toNat) : wrapf a w = wrapf b w := by
  unfold wrapf
  rw [h]
theorem wrapf_add {a b w : Int} : wrapf (wrapf a w + b) w = wrapf (a + b) w :=
  wrapf_cong (by rw [Int.add_emod, wrapf_mod, ← Int.add_emod])
theorem wrapf_range {n w : Int} (h : 1 ≤ w) : -2 ^ (w - 1).toNat ≤ wrapf n w ∧ wrapf n w < 2 ^ (w - 1).toNat := by
  unfold wrapf
  rw [pow_half h]
  have h0 := pow_pos2 (w - 1).toNat
  generalize (2 : Int) ^ (w - 1).toNat = H at *
  have := Int.emod_nonneg n (show 2 * H ≠ 0 by lia)
  have := Int.emod_lt_of_pos n (show 0 < 2 * H by lia)
  split <;> lia
/-- the number a loop goes on with -/
def goOpt (x lim st : Int) : Option Int := if goesf x lim st = true then some x else none
theorem nextf_wrap {n lim st w : Int} : nextf n lim st w = goOpt (wrapf (n + st) w) lim st := rfl
theorem roundsf_eq {first lim st w most : Int} : roundsf first lim st w most = roundsGo lim st w most.toNat (goOpt (wrapf first w) lim st) := by
  unfold roundsf
  rw [nextf_wrap, wrapf_add, Int.sub_add_cancel]
theorem mapRange_succ {α : Type} (n : Nat) (f : Nat → α) : (List.range (n + 1)).map f = f 0 :: (List.range n).map (fun k => f (k + 1)) := by
  rw [List.range_succ_eq_map, List.map_cons, List.map_map]
  rfl
/-- a loop that crosses no end -/
theorem plain_go {lim st w : Int} (h : 1 ≤ w) : ∀ (n : Nat) (first : Int) (most : Nat), n ≤ most →
    (∀ k : Nat, k ≤ n → -2 ^ (w - 1).toNat ≤ first + st * k ∧ first + st * k < 2 ^ (w - 1).toNat) →
    (∀ k : Nat, k < n → goesf (first + st * k) lim st = true) → goesf (first + st * n) lim st = false →
    roundsGo lim st w most (goOpt (wrapf first w) lim st) = (List.range n).map (fun (k : Nat) => first + st * k)
  | 0, first, most, _, hr, _, hs => by
    have h0 := hr 0 (Nat.le_refl _)
    simp only [Int.natCast_zero, Int.mul_zero, Int.add_zero] at h0 hs
    rw [wrapf_id h h0.1 h0.2, goOpt, hs]
    exact roundsGo_none _
  | n + 1, first, most, hm, hr, hg, hs => by
    have h0 := hr 0 (Nat.zero_le _)
    have g0 := hg 0 (Nat.zero_lt_succ _)
    simp only [Int.natCast_zero, Int.mul_zero, Int.add_zero] at h0 g0
    obtain ⟨m, rfl⟩ : ∃ m, most = m + 1 := ⟨most - 1, by lia⟩
    have e : ∀ k : Nat, first + st + st * (k : Int) = first + st * ((k + 1 : Nat) : Int) := fun k => by
      rw [Int.natCast_add, Int.mul_add]; simp; lia
    rw [wrapf_id h h0.1 h0.2, goOpt, if_pos g0, roundsGo, nextf_wrap,
      plain_go h n (first + st) m (by lia) (fun k hk => by rw [e]; exact hr _ (by lia)) (fun k hk => by rw [e]; exact hg _ (by lia)) (by rw [e]; exact hs), mapRange_succ]
    simp only [e, Int.natCast_zero, Int.mul_zero, Int.add_zero]
theorem mul_mono_up {st : Int} (h : 0 ≤ st) {a b : Nat} (hab : a ≤ b) : st * (a : Int) ≤ st * (b : Int) :=
  Int.mul_le_mul_of_nonneg_left (by lia) h
theorem mul_mono_down {st : Int} (h : st ≤ 0) {a b : Nat} (hab : a ≤ b) : st * (b : Int) ≤ st * (a : Int) := by
  have := Int.mul_le_mul_of_nonneg_left (show (a : Int) ≤ b by lia) (show 0 ≤ -st by lia)
  simp only [Int.neg_mul] at this
  lia
theorem plain_up {first lim st w most H : Int} (n : Nat) (h : 1 ≤ w) (hH : H ≤ 2 ^ (w - 1).toNat) (hs : 0 < st) (hm : n ≤ most.toNat) (h1 : -H ≤ first) (h2 : first + st * n < H)
    (h3 : n = 0 ∨ first + st * n - st ≤ lim) (h4 : lim < first + st * n) : roundsf first lim st w most = (List.range n).map (fun (k : Nat) => first + st * k) := by
  rw [roundsf_eq]
  refine plain_go h n first most.toNat hm (fun k hk => ?_) (fun k hk => ?_) ?_
  · have a := mul_mono_up (show 0 ≤ st by lia) hk
    have b := mul_mono_up (show 0 ≤ st by lia) (Nat.zero_le k)
    simp only [Int.natCast_zero, Int.mul_zero] at b
    lia
  · have a := mul_mono_up (show 0 ≤ st by lia) (show k + 1 ≤ n by lia)
    rw [Int.natCast_add, Int.mul_add] at a
    simp at a
    simp only [goesf, hs, if_true, decide_eq_true_eq]
    lia
  · simp only [goesf, hs, if_true, decide_eq_false_iff_not]
    lia
theorem plain_down {first lim st w most H : Int} (n : Nat) (h : 1 ≤ w) (hH : H ≤ 2 ^ (w - 1).toNat) (hs : st < 0) (hm : n ≤ most.toNat) (h1 : first < H) (h2 : -H ≤ first + st * n)
    (h3 : n = 0 ∨ lim ≤ first + st * n - st) (h4 : first + st * n < lim) : roundsf first lim st w most = (List.range n).map (fun (k : Nat) => first + st * k) := by
  rw [roundsf_eq]
  refine plain_go h n first most.toNat hm (fun k hk => ?_) (fun k hk => ?_) ?_
  · have a := mul_mono_down (show st ≤ 0 by lia) hk
    have b := mul_mono_down (show st ≤ 0 by lia) (Nat.zero_le k)
    simp only [Int.natCast_zero, Int.mul_zero] at b
    lia
  · have a := mul_mono_down (show st ≤ 0 by lia) (show k + 1 ≤ n by lia)
    rw [Int.natCast_add, Int.mul_add] at a
    simp at a
    simp only [goesf, show ¬ 0 < st by lia, if_false, decide_eq_true_eq]
    lia
  · simp only [goesf, show ¬ 0 < st by lia, if_false, decide_eq_false_iff_not]
    lia
end

section
theorem pow_small {n : Int} (h2 : 2 ≤ n) (h5 : n ≤ 5) : 4 ≤ (2 : Int) ^ n.toNat ∧ (2 : Int) ^ n.toNat ≤ 32 := by
  have : n = 2 ∨ n = 3 ∨ n = 4 ∨ n = 5 := by lia
  rcases this with rfl | rfl | rfl | rfl <;> decide
theorem pow_gen {prog : Program} {w : World} {A : Around} {E : Value → Shared → Prop} {s : Shared} {n : Int} {t u : Tok} {Q : Value → Shared → Prop} (h2 : 2 ≤ n) (h5 : n ≤ 5)
    (h : ∀ (W : Int) (k : Tok), W = 2 ^ n.toNat → 4 ≤ W → W ≤ 32 → Q (.int W k) { s with toks := s.toks + 1 }) : wpAny (model prog w) A (binaryOp .Pow (.int 2 t) (.int n u)) Q E s :=
  pow_int_small (by lia) (by lia) (by decide) (h _ _ rfl (pow_small h2 h5).1 (pow_small h2 h5).2)

theorem pow_gen2 {prog : Program} {w : World} {A : Around} {E : Value → Shared → Prop} {s : Shared} {n : Int} {t u : Tok} {Q : Value → Shared → Prop} (h2 : 0 ≤ n) (h5 : n < 4)
    (h : ∀ (W H : Int) (k : Tok), W = 2 ^ (2 + n).toNat → W = 2 * H → 2 ≤ H → H ≤ 16 → Q (.int W k) { s with toks := s.toks + 1 }) : wpAny (model prog w) A (binaryOp .Pow (.int 2 t) (.int (2 + n) u)) Q E s := by
  have hp := pow_small (n := 2 + n) (by lia) (by lia)
  have he : (2 : Int) ^ (2 + n).toNat = 2 * 2 ^ (1 + n).toNat := by
    rw [show (2 + n).toNat = (1 + n).toNat + 1 by lia, Int.pow_succ, Int.mul_comm]
  exact pow_int_small (by lia) (by lia) (by decide) (h _ (2 ^ (1 + n).toNat) _ rfl he (by lia) (by lia))
theorem small_log {y : Int} (h0 : 0 ≤ y) (h1 : y ≤ 100) : y.natAbs.log2 < 9000 := by
  rcases Nat.eq_zero_or_pos y.natAbs with h | h
  · rw [h]; decide
  · have := (Nat.log2_lt (show y.natAbs ≠ 0 by lia) (k := 7)).mpr (by lia)
    lia
theorem fdiv_of_mul {W S P : Int} (h : S * P = W) (hs : 1 ≤ S) : W.fdiv S = P := by
  rw [Int.fdiv_eq_ediv_of_nonneg _ (by lia), ← h]
  exact Int.mul_ediv_cancel_left _ (by lia)
theorem floordiv_share {prog : Program} {w : World} {A : Around} {E : Value → Shared → Prop} {s : Shared} {W S P : Int} {t u : Tok} {Q : Value → Shared → Prop} (e : S * P = W) (h1 : 1 ≤ S) (h2 : S ≤ 32)
    (h : ∀ k : Tok, Q (.int P k) { s with toks := s.toks + 1 }) : wpAny (model prog w) A (binaryOp .FloorDiv (.int W t) (.int S u)) Q E s :=
  floordiv_int (by lia) (by rw [fdiv_of_mul e h1]; exact h _) (Or.inl (PyProof.noPylong_of_log2 (small_log (by lia) (by lia))))
theorem floordiv_half {prog : Program} {w : World} {A : Around} {E : Value → Shared → Prop} {s : Shared} {W H : Int} {t u : Tok} {Q : Value → Shared → Prop} (e : W = 2 * H)
    (h : ∀ k : Tok, Q (.int H k) { s with toks := s.toks + 1 }) : wpAny (model prog w) A (binaryOp .FloorDiv (.int W t) (.int 2 u)) Q E s :=
  floordiv_share e.symm (by decide) (by decide) h
end

/-- the box: its list of ints, its count -/
abbrev boxOf (l : Addr) (c : Int) (tc : Tok) (n : Nat) : Obj := listOf (#[.ref l, .int c tc] : Array Value) n

def Took (b l : Addr) (c : Int) (k : Nat) (wide : Int) (rest : Led) (r : Value) (led : Led) : Prop :=
  ∃ (x : Int) (t tc : Tok) (nb nl : Nat) (vs : List Value) (ns : List Int), r = .int x t ∧ 0 ≤ x ∧ x < wide ∧ led = (b, boxOf l (c + 1) tc nb) :: (l, listOf vs.toArray nl) :: rest ∧ IntsAre vs ns ∧ vs.length ≤ k

theorem ints_tail {vs : List Value} {ns : List Int} (h : IntsAre vs ns) : IntsAre vs.tail ns.tail := by
  cases h with
  | nil => exact .nil
  | cons k t r => exact r
theorem took_1 {b l : Addr} {c : Int} {k : Nat} {rest : Led} {vs : List Value} {ns : List Int} {y wd : Int} {t tc : Tok} {nb nl : Nat} (hI : IntsAre vs ns) (hk : vs.length ≤ k) (h2 : 0 < wd) :
    Took b l c k wd rest (.int (y.fmod wd) t) ((b, boxOf l (c + 1) tc nb) :: (l, listOf vs.toArray nl) :: rest) :=
  ⟨_, t, tc, nb, nl, vs, ns, rfl, Int.fmod_nonneg_of_pos _ h2, Int.fmod_lt_of_pos _ h2, rfl, hI, hk⟩
theorem took_2 {b l : Addr} {c : Int} {k : Nat} {rest : Led} {vs : List Value} {ns : List Int} {y wd : Int} {t tc : Tok} {nb nl : Nat} (hI : IntsAre vs ns) (hk : vs.length ≤ k) (h2 : 0 < wd) :
    Took b l c k wd rest (.int (y.fmod wd) t) ((b, boxOf l (c + 1) tc nb) :: (l, listOf vs.tail.toArray nl) :: rest) :=
  ⟨_, t, tc, nb, nl, vs.tail, ns.tail, rfl, Int.fmod_nonneg_of_pos _ h2, Int.fmod_lt_of_pos _ h2, rfl, ints_tail hI, by rw [List.length_tail]; omega⟩
section
variable {prog : Program} {w : World} {A : Around} {E : Value → Shared → Prop} {s : Shared} {h₀ : Heap} {L D : Addr} {m : PySem.Str → Option Value} {news news' : List (Addr × Obj)} {n : Nat}
theorem pop0 {vs : List Value} {ns : List Int} {u : Tok} {Q : Value → Shared → Prop} (F : Fr h₀ L s.heap m) (N : News h₀ L s.heap news) (hi : IntsAre vs ns) (hne : decide (ns = []) = false) (hz : vs.length ≤ 40)
    (U : Upd D (listOf vs.toArray n) (listOf vs.tail.toArray (n + 1)) news news')
    (h : ∀ h' x t, Fr h₀ L h' m → News h₀ L h' news' → Q (.int x t) { s with heap := h' }) : wpAny (model prog w) A (PySem.call (.builtin "list.pop") [.ref D, .int 0 u]) Q E s := by
  cases hi with
  | nil => simp at hne
  | cons k t r =>
    rename_i vs ns
    refine kl_popAt (k := 0) (p := []) (q := vs) (y := .int k t) F N (by decide) ?_ rfl U ?_ (fun h' F' N' => h h' k t F' N')
    · simp [seqIndex?]
    · simp only [List.length_cons] at hz ⊢
      rw [PySem.sizeLine_eq]; omega
end

set_option maxRecDepth 100000 in
set_option maxHeartbeats 8000000 in
theorem take_c (w : World) (rest : Led) (b l : Addr) (c : Int) (tc : Tok) (nb nl k : Nat) (vs : List Value) (ns : List Int) (wd : Int) (tw : Tok)
    (hI : IntsAre vs ns) (hk : vs.length ≤ k) (hk2 : k ≤ 40) (h0 : 0 ≤ c) (h1 : c ≤ 200) (h2 : 0 < wd) (h3 : wd ≤ 1000) (hbl : b ≠ l) (hlb : l ≠ b) (hb : ∀ p ∈ rest, p.1 ≠ b) (hl : ∀ p ∈ rest, p.1 ≠ l) :
    Con w 160 1 ((b, boxOf l c tc nb) :: (l, listOf vs.toArray nl) :: rest) [.ref b, .int wd tw] (Took b l c k wd rest) := by
  w_top off
  k_with_none
  k_with "PU" => (first | with_reducible exact Pu.const | ((with_reducible show Pu _ _ _ (Expr.BinOp _ Operator.Add _ _) _); refine' Pu.add ?a ?b; (case a => walk_at "PU"); (case b => walk_at "PU")) | ((with_reducible show Pu _ _ _ (Expr.BinOp _ Operator.Sub _ _) _); refine' Pu.sub ?a ?b; (case a => walk_at "PU"); (case b => walk_at "PU")) | ((with_reducible show Pu _ _ _ (Expr.BinOp _ Operator.Mult _ _) _); refine' Pu.mul ?a ?b ?m; (case a => walk_at "PU"); (case b => walk_at "PU"); (case m => walk_at "MUL")) | (refine' Pu.loc ?F ?v ?k ?x ?d; (case F => k_asm); (case k => rfl); (case x => rfl); (case v => rfl); (case d => decide)) | (refine' Pu.ref ?F ?v ?k ?x ?d; (case F => k_asm); (case k => rfl); (case x => rfl); (case v => rfl); (case d => decide)) | (refine' Pu.cell ?N ?c ?m ?o ?k ?x ?d; (case k => rfl); (case x => rfl); (case N => k_asm); (case c => rfl); (case m => k_mem); (case o => k_asm); (case d => decide)) | (refine' Pu.cref ?N ?c ?m ?o ?k ?x ?d; (case k => rfl); (case x => rfl); (case N => k_asm); (case c => rfl); (case m => k_mem); (case o => k_asm); (case d => decide)))
  k_with "eval Call" => (k_here; (with_reducible show wpAny _ _ (eval (Expr.Call (Expr.Name _ _) [_, _] [] _) _) _ _ _); k_dflt (refine' call2 ?F ?hs ?X ?T ?ef ?kf ?hk ?hx ?hd ?p1 ?p2 ?_; (case F => k_asm); (case hs => exact rfl); (case X => k_asm); (case T => k_asm); (case hk => rfl); (case hx => rfl); (case hd => decide); (case ef => k_is); (case kf => k_is); (case p1 => walk_at "PU"); (case p2 => walk_at "PU")); intro t1 t2 tk; (try dsimp only))
  k_with "eval Call" => (k_here; (with_reducible show wpAny _ _ (eval (Expr.Call (Expr.Name _ _) [_, _, _, _] [] _) _) _ _ _); k_dflt (refine' call4 ?F ?hs ?X ?T ?ef ?kf ?hk ?hx ?hd ?p1 ?p2 ?p3 ?p4 ?_; (case F => k_asm); (case hs => exact rfl); (case X => k_asm); (case T => k_asm); (case hk => rfl); (case hx => rfl); (case hd => decide); (case ef => k_is); (case kf => k_is); (case p1 => walk_at "PU"); (case p2 => walk_at "PU"); (case p3 => walk_at "PU"); (case p4 => walk_at "PU")); intro t1 t2 t3 t4 tk; (try dsimp only))
  k_with "eval Call" => (k_here; (with_reducible show wpAny _ _ (eval (Expr.Call (Expr.Name _ _) [_, _, _, _, _] [] _) _) _ _ _); k_dflt (refine' call5 ?F ?hs ?X ?T ?ef ?kf ?hk ?hx ?hd ?p1 ?p2 ?p3 ?p4 ?p5 ?_; (case F => k_asm); (case hs => exact rfl); (case X => k_asm); (case T => k_asm); (case hk => rfl); (case hx => rfl); (case hd => decide); (case ef => k_is); (case kf => k_is); (case p1 => walk_at "PU"); (case p2 => walk_at "PU"); (case p3 => walk_at "PU"); (case p4 => walk_at "PU"); (case p5 => walk_at "PU")); intro t1 t2 t3 t4 t5 tk; (try dsimp only))
  k_with "eval Call" => (k_here; (with_reducible show wpAny _ _ (eval (Expr.Call (Expr.Name _ _) [_, _, _, _, _, _] [] _) _) _ _ _); k_dflt (refine' call6 ?F ?hs ?X ?T ?ef ?kf ?hk ?hx ?hd ?p1 ?p2 ?p3 ?p4 ?p5 ?p6 ?_; (case F => k_asm); (case hs => exact rfl); (case X => k_asm); (case T => k_asm); (case hk => rfl); (case hx => rfl); (case hd => decide); (case ef => k_is); (case kf => k_is); (case p1 => walk_at "PU"); (case p2 => walk_at "PU"); (case p3 => walk_at "PU"); (case p4 => walk_at "PU"); (case p5 => walk_at "PU"); (case p6 => walk_at "PU")); intro t1 t2 t3 t4 t5 t6 tk; (try dsimp only))
  k_with "LT" => ((repeat (first | (with_reducible refine as16 ?_; intro hz1 hz2 hz3 hz4 hz5 hz6 hz7 hz8 hz9 hz10 hz11 hz12 hz13 hz14 hz15 hz16) | (with_reducible refine as8 ?_; intro hz1 hz2 hz3 hz4 hz5 hz6 hz7 hz8) | (with_reducible refine as4 ?_; intro hz1 hz2 hz3 hz4) | (with_reducible refine as2 ?_; intro hz1 hz2) | (with_reducible refine as1 ?_; intro hz1))); intro hz0; (try (rename (∀ p ∈ ([] : List (Addr × Obj)), _) => hz0'; clear hz0')))
  k_with "PK" => with_reducible first | exact And.left (by assumption) | exact And.right (by assumption) | exact And.left (And.right (by assumption)) | exact And.right (And.right (by assumption)) | exact And.left (And.right (And.right (by assumption))) | exact And.right (And.right (And.right (by assumption))) | exact And.left (And.right (And.right (And.right (by assumption)))) | exact And.right (And.right (And.right (And.right (by assumption)))) | exact And.left (And.right (And.right (And.right (And.right (by assumption))))) | exact And.right (And.right (And.right (And.right (And.right (by assumption))))) | exact And.left (And.right (And.right (And.right (And.right (And.right (by assumption)))))) | exact And.right (And.right (And.right (And.right (And.right (And.right (by assumption)))))) | exact And.left (And.right (And.right (And.right (And.right (And.right (And.right (by assumption))))))) | exact And.right (And.right (And.right (And.right (And.right (And.right (And.right (by assumption))))))) | exact And.left (And.right (And.right (And.right (And.right (And.right (And.right (And.right (by assumption)))))))) | exact And.right (And.right (And.right (And.right (And.right (And.right (And.right (And.right (by assumption)))))))) | exact And.left (And.right (And.right (And.right (And.right (And.right (And.right (And.right (And.right (by assumption))))))))) | exact And.right (And.right (And.right (And.right (And.right (And.right (And.right (And.right (And.right (by assumption))))))))) | exact And.left (And.right (And.right (And.right (And.right (And.right (And.right (And.right (And.right (And.right (by assumption)))))))))) | exact And.right (And.right (And.right (And.right (And.right (And.right (And.right (And.right (And.right (And.right (by assumption)))))))))) | exact And.left (And.right (And.right (And.right (And.right (And.right (And.right (And.right (And.right (And.right (And.right (by assumption))))))))))) | exact And.right (And.right (And.right (And.right (And.right (And.right (And.right (And.right (And.right (And.right (And.right (by assumption))))))))))) | exact And.left (And.right (And.right (And.right (And.right (And.right (And.right (And.right (And.right (And.right (And.right (And.right (by assumption)))))))))))) | exact And.right (And.right (And.right (And.right (And.right (And.right (And.right (And.right (And.right (And.right (And.right (And.right (by assumption)))))))))))) | exact And.left (And.right (And.right (And.right (And.right (And.right (And.right (And.right (And.right (And.right (And.right (And.right (And.right (by assumption))))))))))))) | exact And.right (And.right (And.right (And.right (And.right (And.right (And.right (And.right (And.right (And.right (And.right (And.right (And.right (by assumption)))))))))))))
  k_with "k_ne" => (refine neN ?_; (try dsimp only); first | with_reducible (first | assumption | exact ne_gt (by assumption) | exact ne_lt (by assumption) | exact Ne.symm (by assumption) | exact nq (by assumption) | exact Ne.symm (nq (by assumption)) | exact ne_gt s_1 | exact ne_lt s_1 | exact ne_gt (lt_s s_1) | exact ne_lt (lt_s s_1) | exact ne_gt (lt_s (lt_s s_1)) | exact ne_lt (lt_s (lt_s s_1)) | exact ne_gt (lt_s (lt_s (lt_s s_1))) | exact ne_lt (lt_s (lt_s (lt_s s_1))) | exact ne_gt (lt_s (lt_s (lt_s (lt_s s_1)))) | exact ne_lt (lt_s (lt_s (lt_s (lt_s s_1)))) | exact ne_gt (lt_s (lt_s (lt_s (lt_s (lt_s s_1))))) | exact ne_lt (lt_s (lt_s (lt_s (lt_s (lt_s s_1))))) | exact ne_gt (lt_s (lt_s (lt_s (lt_s (lt_s (lt_s s_1)))))) | exact ne_lt (lt_s (lt_s (lt_s (lt_s (lt_s (lt_s s_1)))))) | exact ne_gt (lt_s (by assumption)) | exact ne_lt (lt_s (by assumption)) | exact ne_gt (lt_s (lt_s (by assumption))) | exact ne_lt (lt_s (lt_s (by assumption))) | exact ne_gt (lt_s (lt_s (lt_s (by assumption)))) | exact ne_lt (lt_s (lt_s (lt_s (by assumption)))) | exact ne_gt (lt_s (lt_s (lt_s (lt_s (by assumption))))) | exact ne_lt (lt_s (lt_s (lt_s (lt_s (by assumption))))) | exact ne_gt (lt_s (lt_s (lt_s (lt_s (lt_s (by assumption)))))) | exact ne_lt (lt_s (lt_s (lt_s (lt_s (lt_s (by assumption)))))) | exact ne_gt (lt_s (lt_s (lt_s (lt_s (lt_s (lt_s (by assumption))))))) | exact ne_lt (lt_s (lt_s (lt_s (lt_s (lt_s (lt_s (by assumption))))))) | exact ne_gt (lt_s (lt_s (lt_s (lt_s (lt_s (lt_s (lt_s (by assumption)))))))) | exact ne_lt (lt_s (lt_s (lt_s (lt_s (lt_s (lt_s (lt_s (by assumption))))))))) | with_reducible exact Nat.ne_of_lt (by assumption) | with_reducible exact Nat.ne_of_gt (by assumption) | walk_at "PK" | (refine Ne.symm ?_; walk_at "PK") | omega)
  k_with "ktr_room" => first | exact rm_depth (by assumption) (by decide) | exact rm_rec (by assumption) | exact rm_rec0 (by assumption)
  k_with "ktr_units" => exact rm_units (by assumption) (by decide)
  k_with "units_room" => exact rm_line (by assumption)
  k_with "MUL" => first | exact IntMulOk.of_left (by with_reducible assumption) | exact IntMulOk.of_right (by with_reducible assumption) | exact IntMulOk.of_right (times_b (by with_reducible assumption) (by with_reducible assumption)) | exact IntMulOk.of_left two_b | exact IntMulOk.of_left (v_b (by with_reducible assumption) (by with_reducible assumption)) | mul_fits
  k_with "CON IN" => ( (try unfold ConV); unfold Con; k_fill; intros; refine wpAny_call ?_; k_dflt ktr_enter)
  k_with "k_all" => assumption
  k_with "call builtin:list.pop" => (k_here; (refine' pop0 ?F ?N ?I ?e ?z ?U ?_; (case F => k_asm); (case N => k_asm); (case I => assumption); (case e => assumption); (case z => omega); (case U => k_upd)); intro h' x' t' F' N'; (try k_sweep))
  walk_at "CON IN"
  rename_i hret _ _ _ _ _ _ _ _ _
  refine gen_q ?_
  intro Qg hQg
  refine gen_a ?_
  intro Ag
  k_steps
  all_goals (try (refine hQg _ _ ?_; (try dsimp only)))
  k_steps
  · exact hret _ _ _ _ (by k_asm) (news_drop (by k_asm)) (took_1 hI hk h2)
  · exact hret _ _ _ _ (by k_asm) (news_drop (by k_asm)) (took_2 hI hk h2)

section
open PySem PySem.W PyProof.Rows PySem.Calls
section
open PySem.Builtin
set_option maxRecDepth 100000
variable {prog : Program} {w : World} {A : Around} {E : Value → Shared → Prop} {s : Shared} {b : Array UInt8} {o : Int} {t u : Tok} {Q : Value → Shared → Prop}
theorem in_bytes (h0 : 0 ≤ o) (h1 : o < 256) (h : Q (.bool (b.contains o.toNat.toUInt8)) s) : wpAny (model prog w) A (compareOp .In (.int o t) (.bytes b u)) Q E s := by
  show wpAny _ _ (do return .bool (← contains (.bytes b u) (.int o t))) Q E s
  refine wpAny_bind ?_
  unfold contains
  try with_reducible refine wpAny_holding ?_
  refine wpAny_bind (wpAny_specialOf (typeIs_bytes s b u) FB.slot_bytes_contains.lookup ?_)
  show wpAny _ _ (if (some (Value.builtin "bytes.__contains__") == some Value.none) = true then _ else _) _ E s
  rw [if_neg (by rw [beq_builtin_none]; exact Bool.false_ne_true)]
  refine wpAny_bind (wpAny_callSpecialUnlessNone?_slot (name := PySem.Str.ofString "__contains__") (typeIs_bytes s b u) FB.slot_bytes_contains
    (wpAny_call_entry FB.slot_bytes_contains (typeIs_bytes s b u) FB.entry_bytes_contains ?_ (FB.args_bytes_contains_2 _ _)))
  show wpAny _ _ (Bytes.containsIn "bytes.__contains__" (.bytes b u) (.int o t) >>= fun r => ret (.bool r)) _ E s
  refine wpAny_bind ?_
  unfold Bytes.containsIn
  refine wpAny_bind (wpAny_attempt ?_)
  refine wpAny_of_eq (a := o) rfl ?_
  refine wpAny_bind (wpAny_of_eq KBy.buffer_eq ?_)
  show wpAny _ _ (if (decide (o < 0) || decide (o ≥ 256)) = true then _ else _) _ E s
  rw [if_neg (by simp; lia)]
  exact wpAny_pure (wpAny_pure ⟨_, rfl, wpAny_truthy_bool (wpAny_pure h)⟩)
theorem in_bytesE {r : Bool} (h0 : 0 ≤ o) (h1 : o < 256) (e : b.contains o.toNat.toUInt8 = r) (h : Q (.bool r) s) : wpAny (model prog w) A (compareOp .In (.int o t) (.bytes b u)) Q E s :=
  in_bytes h0 h1 (e ▸ h)
end
theorem blanks_no {o : Int} (h1 : 40 ≤ o) (h2 : o ≤ 57) : (#[32, 9, 10, 11, 12, 13] : Array UInt8).contains o.toNat.toUInt8 = false := by
  have key : ∀ k : Fin 18, (#[32, 9, 10, 11, 12, 13] : Array UInt8).contains ((40 + k.val).toUInt8) = false := by decide +kernel
  have := key ⟨o.toNat - 40, by lia⟩
  have e : 40 + (o.toNat - 40) = o.toNat := by lia
  simpa [e] using this
theorem signs_no {o : Int} (h1 : 48 ≤ o) (h2 : o ≤ 57) : (#[43, 45] : Array UInt8).contains o.toNat.toUInt8 = false := by
  have key : ∀ k : Fin 10, (#[43, 45] : Array UInt8).contains ((48 + k.val).toUInt8) = false := by decide +kernel
  have := key ⟨o.toNat - 48, by lia⟩
  have e : 48 + (o.toNat - 48) = o.toNat := by lia
  simpa [e] using this
theorem signs_yes {o : Int} (h : o = 45) : (#[43, 45] : Array UInt8).contains o.toNat.toUInt8 = true := by
  subst h
  decide +kernel
end

set_option maxRecDepth 100000 in
set_option maxHeartbeats 8000000 in
theorem digit_c (w : World) (o : Int) (t : Tok) (h1 : 48 ≤ o) (h2 : o ≤ 57) : ConV w 85 1 [.int o t] (.int (o - 48)) := by
  w_top off
  k_with_none
  k_with "PU" => (first | with_reducible exact Pu.const | ((with_reducible show Pu _ _ _ (Expr.BinOp _ Operator.Add _ _) _); refine' Pu.add ?a ?b; (case a => walk_at "PU"); (case b => walk_at "PU")) | ((with_reducible show Pu _ _ _ (Expr.BinOp _ Operator.Sub _ _) _); refine' Pu.sub ?a ?b; (case a => walk_at "PU"); (case b => walk_at "PU")) | ((with_reducible show Pu _ _ _ (Expr.BinOp _ Operator.Mult _ _) _); refine' Pu.mul ?a ?b ?m; (case a => walk_at "PU"); (case b => walk_at "PU"); (case m => walk_at "MUL")) | (refine' Pu.loc ?F ?v ?k ?x ?d; (case F => k_asm); (case k => rfl); (case x => rfl); (case v => rfl); (case d => decide)) | (refine' Pu.ref ?F ?v ?k ?x ?d; (case F => k_asm); (case k => rfl); (case x => rfl); (case v => rfl); (case d => decide)) | (refine' Pu.cell ?N ?c ?m ?o ?k ?x ?d; (case k => rfl); (case x => rfl); (case N => k_asm); (case c => rfl); (case m => k_mem); (case o => k_asm); (case d => decide)) | (refine' Pu.cref ?N ?c ?m ?o ?k ?x ?d; (case k => rfl); (case x => rfl); (case N => k_asm); (case c => rfl); (case m => k_mem); (case o => k_asm); (case d => decide)))
  k_with "eval Call" => (k_here; (with_reducible show wpAny _ _ (eval (Expr.Call (Expr.Name _ _) [_, _] [] _) _) _ _ _); k_dflt (refine' call2 ?F ?hs ?X ?T ?ef ?kf ?hk ?hx ?hd ?p1 ?p2 ?_; (case F => k_asm); (case hs => exact rfl); (case X => k_asm); (case T => k_asm); (case hk => rfl); (case hx => rfl); (case hd => decide); (case ef => k_is); (case kf => k_is); (case p1 => walk_at "PU"); (case p2 => walk_at "PU")); intro t1 t2 tk; (try dsimp only))
  k_with "eval Call" => (k_here; (with_reducible show wpAny _ _ (eval (Expr.Call (Expr.Name _ _) [_, _, _, _] [] _) _) _ _ _); k_dflt (refine' call4 ?F ?hs ?X ?T ?ef ?kf ?hk ?hx ?hd ?p1 ?p2 ?p3 ?p4 ?_; (case F => k_asm); (case hs => exact rfl); (case X => k_asm); (case T => k_asm); (case hk => rfl); (case hx => rfl); (case hd => decide); (case ef => k_is); (case kf => k_is); (case p1 => walk_at "PU"); (case p2 => walk_at "PU"); (case p3 => walk_at "PU"); (case p4 => walk_at "PU")); intro t1 t2 t3 t4 tk; (try dsimp only))
  k_with "eval Call" => (k_here; (with_reducible show wpAny _ _ (eval (Expr.Call (Expr.Name _ _) [_, _, _, _, _] [] _) _) _ _ _); k_dflt (refine' call5 ?F ?hs ?X ?T ?ef ?kf ?hk ?hx ?hd ?p1 ?p2 ?p3 ?p4 ?p5 ?_; (case F => k_asm); (case hs => exact rfl); (case X => k_asm); (case T => k_asm); (case hk => rfl); (case hx => rfl); (case hd => decide); (case ef => k_is); (case kf => k_is); (case p1 => walk_at "PU"); (case p2 => walk_at "PU"); (case p3 => walk_at "PU"); (case p4 => walk_at "PU"); (case p5 => walk_at "PU")); intro t1 t2 t3 t4 t5 tk; (try dsimp only))
  k_with "eval Call" => (k_here; (with_reducible show wpAny _ _ (eval (Expr.Call (Expr.Name _ _) [_, _, _, _, _, _] [] _) _) _ _ _); k_dflt (refine' call6 ?F ?hs ?X ?T ?ef ?kf ?hk ?hx ?hd ?p1 ?p2 ?p3 ?p4 ?p5 ?p6 ?_; (case F => k_asm); (case hs => exact rfl); (case X => k_asm); (case T => k_asm); (case hk => rfl); (case hx => rfl); (case hd => decide); (case ef => k_is); (case kf => k_is); (case p1 => walk_at "PU"); (case p2 => walk_at "PU"); (case p3 => walk_at "PU"); (case p4 => walk_at "PU"); (case p5 => walk_at "PU"); (case p6 => walk_at "PU")); intro t1 t2 t3 t4 t5 t6 tk; (try dsimp only))
  k_with "ktr_room" => first | exact rm_depth (by assumption) (by decide) | exact rm_rec (by assumption) | exact rm_rec0 (by assumption)
  k_with "ktr_units" => exact rm_units (by assumption) (by decide)
  k_with "units_room" => exact rm_line (by assumption)
  k_with "MUL" => first | exact IntMulOk.of_left (by with_reducible assumption) | exact IntMulOk.of_right (by with_reducible assumption) | exact IntMulOk.of_right (times_b (by with_reducible assumption) (by with_reducible assumption)) | exact IntMulOk.of_left two_b | exact IntMulOk.of_left (v_b (by with_reducible assumption) (by with_reducible assumption)) | mul_fits
  k_with "CON IN" => ( (try unfold ConV); unfold Con; k_fill; intros; refine wpAny_call ?_; k_dflt ktr_enter)
  k_with "CON USE" => ( (case k1 => k_asm); (case k2 => k_asm); (case k3 => k_asm); (case k4 => k_asm); (case k5 => k_asm); (case kK => first | exact rfl | assumption); (case kd => ktr_room); (case ku => ktr_units); intro t9 h9 tk9 F9 N9; (try dsimp only); (try k_sweep); (try k_fold))
  k_with "call ref" => (k_here; refine' ConV.use (wrap_c _ _ _ _ _ ?p1 ?p2) ?k1 ?k2 ?k3 ?k4 ?k5 ?kK ?kd ?ku ?_; (case p1 => omega); (case p2 => omega); walk_at "CON USE")
  walk_at "CON IN"
  rename_i hret _ _ _ _ _ _ _ _ _
  refine gen_q ?_
  intro Qg hQg
  refine gen_a ?_
  intro Ag
  k_steps
  all_goals (try (refine hQg _ _ ?_; (try dsimp only)))
  k_steps
  exact hret _ _ _ _ (by k_asm) (by k_asm) ⟨⟨_, rfl⟩, rfl⟩

set_option maxRecDepth 100000 in
set_option maxHeartbeats 8000000 in
theorem blank_c (w : World) (o : Int) (t : Tok) (h1 : 40 ≤ o) (h2 : o ≤ 57) : ConV w 78 1 [.int o t] (fun _ => .bool false) := by
  w_top off
  k_with_none
  k_with "PU" => (first | with_reducible exact Pu.const | ((with_reducible show Pu _ _ _ (Expr.BinOp _ Operator.Add _ _) _); refine' Pu.add ?a ?b; (case a => walk_at "PU"); (case b => walk_at "PU")) | ((with_reducible show Pu _ _ _ (Expr.BinOp _ Operator.Sub _ _) _); refine' Pu.sub ?a ?b; (case a => walk_at "PU"); (case b => walk_at "PU")) | ((with_reducible show Pu _ _ _ (Expr.BinOp _ Operator.Mult _ _) _); refine' Pu.mul ?a ?b ?m; (case a => walk_at "PU"); (case b => walk_at "PU"); (case m => walk_at "MUL")) | (refine' Pu.loc ?F ?v ?k ?x ?d; (case F => k_asm); (case k => rfl); (case x => rfl); (case v => rfl); (case d => decide)) | (refine' Pu.ref ?F ?v ?k ?x ?d; (case F => k_asm); (case k => rfl); (case x => rfl); (case v => rfl); (case d => decide)) | (refine' Pu.cell ?N ?c ?m ?o ?k ?x ?d; (case k => rfl); (case x => rfl); (case N => k_asm); (case c => rfl); (case m => k_mem); (case o => k_asm); (case d => decide)) | (refine' Pu.cref ?N ?c ?m ?o ?k ?x ?d; (case k => rfl); (case x => rfl); (case N => k_asm); (case c => rfl); (case m => k_mem); (case o => k_asm); (case d => decide)))
  k_with "eval Call" => (k_here; (with_reducible show wpAny _ _ (eval (Expr.Call (Expr.Name _ _) [_, _] [] _) _) _ _ _); k_dflt (refine' call2 ?F ?hs ?X ?T ?ef ?kf ?hk ?hx ?hd ?p1 ?p2 ?_; (case F => k_asm); (case hs => exact rfl); (case X => k_asm); (case T => k_asm); (case hk => rfl); (case hx => rfl); (case hd => decide); (case ef => k_is); (case kf => k_is); (case p1 => walk_at "PU"); (case p2 => walk_at "PU")); intro t1 t2 tk; (try dsimp only))
  k_with "eval Call" => (k_here; (with_reducible show wpAny _ _ (eval (Expr.Call (Expr.Name _ _) [_, _, _, _] [] _) _) _ _ _); k_dflt (refine' call4 ?F ?hs ?X ?T ?ef ?kf ?hk ?hx ?hd ?p1 ?p2 ?p3 ?p4 ?_; (case F => k_asm); (case hs => exact rfl); (case X => k_asm); (case T => k_asm); (case hk => rfl); (case hx => rfl); (case hd => decide); (case ef => k_is); (case kf => k_is); (case p1 => walk_at "PU"); (case p2 => walk_at "PU"); (case p3 => walk_at "PU"); (case p4 => walk_at "PU")); intro t1 t2 t3 t4 tk; (try dsimp only))
  k_with "eval Call" => (k_here; (with_reducible show wpAny _ _ (eval (Expr.Call (Expr.Name _ _) [_, _, _, _, _] [] _) _) _ _ _); k_dflt (refine' call5 ?F ?hs ?X ?T ?ef ?kf ?hk ?hx ?hd ?p1 ?p2 ?p3 ?p4 ?p5 ?_; (case F => k_asm); (case hs => exact rfl); (case X => k_asm); (case T => k_asm); (case hk => rfl); (case hx => rfl); (case hd => decide); (case ef => k_is); (case kf => k_is); (case p1 => walk_at "PU"); (case p2 => walk_at "PU"); (case p3 => walk_at "PU"); (case p4 => walk_at "PU"); (case p5 => walk_at "PU")); intro t1 t2 t3 t4 t5 tk; (try dsimp only))
  k_with "eval Call" => (k_here; (with_reducible show wpAny _ _ (eval (Expr.Call (Expr.Name _ _) [_, _, _, _, _, _] [] _) _) _ _ _); k_dflt (refine' call6 ?F ?hs ?X ?T ?ef ?kf ?hk ?hx ?hd ?p1 ?p2 ?p3 ?p4 ?p5 ?p6 ?_; (case F => k_asm); (case hs => exact rfl); (case X => k_asm); (case T => k_asm); (case hk => rfl); (case hx => rfl); (case hd => decide); (case ef => k_is); (case kf => k_is); (case p1 => walk_at "PU"); (case p2 => walk_at "PU"); (case p3 => walk_at "PU"); (case p4 => walk_at "PU"); (case p5 => walk_at "PU"); (case p6 => walk_at "PU")); intro t1 t2 t3 t4 t5 t6 tk; (try dsimp only))
  k_with "ktr_room" => first | exact rm_depth (by assumption) (by decide) | exact rm_rec (by assumption) | exact rm_rec0 (by assumption)
  k_with "ktr_units" => exact rm_units (by assumption) (by decide)
  k_with "units_room" => exact rm_line (by assumption)
  k_with "MUL" => first | exact IntMulOk.of_left (by with_reducible assumption) | exact IntMulOk.of_right (by with_reducible assumption) | exact IntMulOk.of_right (times_b (by with_reducible assumption) (by with_reducible assumption)) | exact IntMulOk.of_left two_b | exact IntMulOk.of_left (v_b (by with_reducible assumption) (by with_reducible assumption)) | mul_fits
  k_with "CON IN" => ( (try unfold ConV); unfold Con; k_fill; intros; refine wpAny_call ?_; k_dflt ktr_enter)
  k_with "CON USE" => ( (case k1 => k_asm); (case k2 => k_asm); (case k3 => k_asm); (case k4 => k_asm); (case k5 => k_asm); (case kK => first | exact rfl | assumption); (case kd => ktr_room); (case ku => ktr_units); intro t9 h9 tk9 F9 N9; (try dsimp only); (try k_sweep); (try k_fold))
  k_with "call ref" => (k_here; refine' ConV.use (wrap_c _ _ _ _ _ ?p1 ?p2) ?k1 ?k2 ?k3 ?k4 ?k5 ?kK ?kd ?ku ?_; (case p1 => omega); (case p2 => omega); walk_at "CON USE")
  k_with "call ref" => (k_here; refine' ConV.use (digit_c _ _ _ ?p1 ?p2) ?k1 ?k2 ?k3 ?k4 ?k5 ?kK ?kd ?ku ?_; (case p1 => omega); (case p2 => omega); walk_at "CON USE")
  k_with "compareOp In int bytes" => (k_here; refine' in_bytesE ?h0 ?h1 (blanks_no ?h2 ?h3) ?_; (case h0 => omega); (case h1 => omega); (case h2 => omega); (case h3 => omega))
  k_with "compareOp In int bytes" => (k_here; refine' in_bytesE ?h0 ?h1 (signs_no ?h2 ?h3) ?_; (case h0 => omega); (case h1 => omega); (case h2 => omega); (case h3 => omega))
  k_with "compareOp In int bytes" => (k_here; refine' in_bytesE ?h0 ?h1 (signs_yes ?h2) ?_; (case h0 => omega); (case h1 => omega); (case h2 => omega))
  walk_at "CON IN"
  rename_i hret _ _ _ _ _ _ _ _ _
  refine gen_q ?_
  intro Qg hQg
  refine gen_a ?_
  intro Ag
  k_steps
  all_goals (try (refine hQg _ _ ?_; (try dsimp only)))
  k_steps
  exact hret _ _ _ _ (by k_asm) (by k_asm) ⟨⟨0, rfl⟩, rfl⟩

set_option maxRecDepth 100000 in
set_option maxHeartbeats 8000000 in
theorem skip_c (w : World) (T : Array UInt8) (ks : List Int) (i : Int) (tb t : Tok) (hk : KBw.bInts T = ks) (hz : ks.length ≤ 10) (h0 : 0 ≤ i) (h1 : i ≤ (ks.length : Int)) (h2 : i < (ks.length : Int) → 40 ≤ ks.getD i.toNat 0 ∧ ks.getD i.toNat 0 ≤ 57) :
    ConV w 99 2 [.bytes T tb, .int i t] (.int i) := by
  w_top off
  k_with_none
  k_with "PU" => (first | with_reducible exact Pu.const | ((with_reducible show Pu _ _ _ (Expr.BinOp _ Operator.Add _ _) _); refine' Pu.add ?a ?b; (case a => walk_at "PU"); (case b => walk_at "PU")) | ((with_reducible show Pu _ _ _ (Expr.BinOp _ Operator.Sub _ _) _); refine' Pu.sub ?a ?b; (case a => walk_at "PU"); (case b => walk_at "PU")) | ((with_reducible show Pu _ _ _ (Expr.BinOp _ Operator.Mult _ _) _); refine' Pu.mul ?a ?b ?m; (case a => walk_at "PU"); (case b => walk_at "PU"); (case m => walk_at "MUL")) | (refine' Pu.loc ?F ?v ?k ?x ?d; (case F => k_asm); (case k => rfl); (case x => rfl); (case v => rfl); (case d => decide)) | (refine' Pu.ref ?F ?v ?k ?x ?d; (case F => k_asm); (case k => rfl); (case x => rfl); (case v => rfl); (case d => decide)) | (refine' Pu.cell ?N ?c ?m ?o ?k ?x ?d; (case k => rfl); (case x => rfl); (case N => k_asm); (case c => rfl); (case m => k_mem); (case o => k_asm); (case d => decide)) | (refine' Pu.cref ?N ?c ?m ?o ?k ?x ?d; (case k => rfl); (case x => rfl); (case N => k_asm); (case c => rfl); (case m => k_mem); (case o => k_asm); (case d => decide)))
  k_with "eval Call" => (k_here; (with_reducible show wpAny _ _ (eval (Expr.Call (Expr.Name _ _) [_, _] [] _) _) _ _ _); k_dflt (refine' call2 ?F ?hs ?X ?T ?ef ?kf ?hk ?hx ?hd ?p1 ?p2 ?_; (case F => k_asm); (case hs => exact rfl); (case X => k_asm); (case T => k_asm); (case hk => rfl); (case hx => rfl); (case hd => decide); (case ef => k_is); (case kf => k_is); (case p1 => walk_at "PU"); (case p2 => walk_at "PU")); intro t1 t2 tk; (try dsimp only))
  k_with "eval Call" => (k_here; (with_reducible show wpAny _ _ (eval (Expr.Call (Expr.Name _ _) [_, _, _, _] [] _) _) _ _ _); k_dflt (refine' call4 ?F ?hs ?X ?T ?ef ?kf ?hk ?hx ?hd ?p1 ?p2 ?p3 ?p4 ?_; (case F => k_asm); (case hs => exact rfl); (case X => k_asm); (case T => k_asm); (case hk => rfl); (case hx => rfl); (case hd => decide); (case ef => k_is); (case kf => k_is); (case p1 => walk_at "PU"); (case p2 => walk_at "PU"); (case p3 => walk_at "PU"); (case p4 => walk_at "PU")); intro t1 t2 t3 t4 tk; (try dsimp only))
  k_with "eval Call" => (k_here; (with_reducible show wpAny _ _ (eval (Expr.Call (Expr.Name _ _) [_, _, _, _, _] [] _) _) _ _ _); k_dflt (refine' call5 ?F ?hs ?X ?T ?ef ?kf ?hk ?hx ?hd ?p1 ?p2 ?p3 ?p4 ?p5 ?_; (case F => k_asm); (case hs => exact rfl); (case X => k_asm); (case T => k_asm); (case hk => rfl); (case hx => rfl); (case hd => decide); (case ef => k_is); (case kf => k_is); (case p1 => walk_at "PU"); (case p2 => walk_at "PU"); (case p3 => walk_at "PU"); (case p4 => walk_at "PU"); (case p5 => walk_at "PU")); intro t1 t2 t3 t4 t5 tk; (try dsimp only))
  k_with "eval Call" => (k_here; (with_reducible show wpAny _ _ (eval (Expr.Call (Expr.Name _ _) [_, _, _, _, _, _] [] _) _) _ _ _); k_dflt (refine' call6 ?F ?hs ?X ?T ?ef ?kf ?hk ?hx ?hd ?p1 ?p2 ?p3 ?p4 ?p5 ?p6 ?_; (case F => k_asm); (case hs => exact rfl); (case X => k_asm); (case T => k_asm); (case hk => rfl); (case hx => rfl); (case hd => decide); (case ef => k_is); (case kf => k_is); (case p1 => walk_at "PU"); (case p2 => walk_at "PU"); (case p3 => walk_at "PU"); (case p4 => walk_at "PU"); (case p5 => walk_at "PU"); (case p6 => walk_at "PU")); intro t1 t2 t3 t4 t5 t6 tk; (try dsimp only))
  k_with "ktr_room" => first | exact rm_depth (by assumption) (by decide) | exact rm_rec (by assumption) | exact rm_rec0 (by assumption)
  k_with "ktr_units" => exact rm_units (by assumption) (by decide)
  k_with "units_room" => exact rm_line (by assumption)
  k_with "MUL" => first | exact IntMulOk.of_left (by with_reducible assumption) | exact IntMulOk.of_right (by with_reducible assumption) | exact IntMulOk.of_right (times_b (by with_reducible assumption) (by with_reducible assumption)) | exact IntMulOk.of_left two_b | exact IntMulOk.of_left (v_b (by with_reducible assumption) (by with_reducible assumption)) | mul_fits
  k_with "CON IN" => ( (try unfold ConV); unfold Con; k_fill; intros; refine wpAny_call ?_; k_dflt ktr_enter)
  k_with "CON USE" => ( (case k1 => k_asm); (case k2 => k_asm); (case k3 => k_asm); (case k4 => k_asm); (case k5 => k_asm); (case kK => first | exact rfl | assumption); (case kd => ktr_room); (case ku => ktr_units); intro t9 h9 tk9 F9 N9; (try dsimp only); (try k_sweep); (try k_fold))
  k_with "call ref" => (k_here; refine' ConV.use (wrap_c _ _ _ _ _ ?p1 ?p2) ?k1 ?k2 ?k3 ?k4 ?k5 ?kK ?kd ?ku ?_; (case p1 => omega); (case p2 => omega); walk_at "CON USE")
  k_with "call ref" => (k_here; refine' ConV.use (digit_c _ _ _ ?p1 ?p2) ?k1 ?k2 ?k3 ?k4 ?k5 ?kK ?kd ?ku ?_; (case p1 => omega); (case p2 => omega); walk_at "CON USE")
  k_with "compareOp In int bytes" => (k_here; refine' in_bytesE ?h0 ?h1 (blanks_no ?h2 ?h3) ?_; (case h0 => omega); (case h1 => omega); (case h2 => omega); (case h3 => omega))
  k_with "compareOp In int bytes" => (k_here; refine' in_bytesE ?h0 ?h1 (signs_no ?h2 ?h3) ?_; (case h0 => omega); (case h1 => omega); (case h2 => omega); (case h3 => omega))
  k_with "compareOp In int bytes" => (k_here; refine' in_bytesE ?h0 ?h1 (signs_yes ?h2) ?_; (case h0 => omega); (case h1 => omega); (case h2 => omega))
  k_with "call ref" => (k_here; refine' ConV.use (blank_c _ _ _ ?p1 ?p2) ?k1 ?k2 ?k3 ?k4 ?k5 ?kK ?kd ?ku ?_; (case p1 => omega); (case p2 => omega); walk_at "CON USE")
  k_with "exec While BoolOp" => (k_here; k_dflt (refine whl_start 100 ?_))
  k_with "exec While Compare" => (k_here; k_dflt (refine whl_start 100 ?_))
  walk_at "CON IN"
  rename_i hret _ _ _ _ _ _ _ _ _
  refine gen_q ?_
  intro Qg hQg
  refine gen_a ?_
  intro Ag
  k_steps
  all_goals (try (refine hQg _ _ ?_; (try dsimp only)))
  k_steps
  all_goals exact hret _ _ _ _ (by k_asm) (by k_asm) ⟨⟨_, rfl⟩, rfl⟩

/-- a new pair of two ints -/
def NewPair (news : Led) (x y : Int) (r : Value) (l : Led) : Prop :=
  ∃ d tx ty n, r = .ref d ∧ l = (d, ({ cls := .type "tuple", data := .seq #[.int x tx, .int y ty] n } : Obj)) :: news ∧ ∀ p ∈ news, p.1 < d

theorem news_drop2 {h₀ h : Heap} {L : Addr} {p q : Addr × Obj} {l : Led} (N : News h₀ L h (q :: p :: l)) : News h₀ L h (q :: l) := fun r hr => by
  rcases List.mem_cons.mp hr with rfl | hr
  · exact N _ (.head _)
  · exact N _ (.tail _ (.tail _ hr))
theorem pow_ge {k : Nat} (h : 8 ≤ k) : 256 ≤ (2 : Int) ^ k := by
  have h1 : 2 ^ 8 ≤ 2 ^ k := Nat.pow_le_pow_right (by decide) h
  have e : ((2 ^ k : Nat) : Int) = (2 : Int) ^ k := by simp
  rw [← e]
  exact Int.ofNat_le.mpr h1
theorem newPair_of {news : Led} {d D1 : Addr} {tx ty : Tok} {n : Nat} {x x' y : Int} (e : x' = x) (hl : D1 < d ∧ AllLt d news) :
    NewPair news x y (.ref d) ((d, ({ cls := .type "tuple", data := .seq #[.int x' tx, .int y ty] n } : Obj)) :: news) := ⟨d, tx, ty, n, rfl, by rw [e], ktn_ltOf hl.2⟩
theorem mask_small {x wd : Int} (h0 : 0 ≤ x) (h1 : x < 256) (hw : 8 ≤ wd) : Builtin.bitAnd x (1 * 2 ^ wd.toNat - 1) = x := by
  rw [Int.one_mul, kbt_mask]
  apply Int.emod_eq_of_lt h0
  have h2 := pow_ge (show 8 ≤ wd.toNat by omega)
  omega
theorem digit1 {k wd : Int} (hd : 48 ≤ k ∧ k ≤ 57) (hw : 8 ≤ wd) : Builtin.bitAnd (0 * 10 + (k - 48)) (1 * 2 ^ wd.toNat - 1) = k - 48 := by
  rw [mask_small (by omega) (by omega) hw]; omega
theorem digit2 {k j wd : Int} (hd : 48 ≤ k ∧ k ≤ 57) (hj : 48 ≤ j ∧ j ≤ 57) (hw : 8 ≤ wd) :
    Builtin.bitAnd (Builtin.bitAnd (0 * 10 + (k - 48)) (1 * 2 ^ wd.toNat - 1) * 10 + (j - 48)) (1 * 2 ^ wd.toNat - 1) = 10 * (k - 48) + (j - 48) := by
  rw [digit1 hd hw, mask_small (by omega) (by omega) hw]; omega

set_option maxRecDepth 100000 in
set_option maxHeartbeats 8000000 in
theorem read1_c (w : World) (news : Led) (T : Array UInt8) (ks : List Int) (i wd : Int) (tb t tt tw : Tok) (hk : KBw.bInts T = ks) (h0 : 0 ≤ i) (h3 : i ≤ 5) (h1 : (ks.length : Int) = i + 1) (hd : 48 ≤ ks.getD i.toNat 0 ∧ ks.getD i.toNat 0 ≤ 57) (hw : 8 ≤ wd) (hw2 : wd ≤ 64) :
    Con w 92 2 news [.bytes T tb, .int i t, .int 10 tt, .int wd tw] (NewPair news (ks.getD i.toNat 0 - 48) (i + 1)) := by
  w_top off
  k_with_none
  k_with "PU" => (first | with_reducible exact Pu.const | ((with_reducible show Pu _ _ _ (Expr.BinOp _ Operator.Add _ _) _); refine' Pu.add ?a ?b; (case a => walk_at "PU"); (case b => walk_at "PU")) | ((with_reducible show Pu _ _ _ (Expr.BinOp _ Operator.Sub _ _) _); refine' Pu.sub ?a ?b; (case a => walk_at "PU"); (case b => walk_at "PU")) | ((with_reducible show Pu _ _ _ (Expr.BinOp _ Operator.Mult _ _) _); refine' Pu.mul ?a ?b ?m; (case a => walk_at "PU"); (case b => walk_at "PU"); (case m => walk_at "MUL")) | (refine' Pu.loc ?F ?v ?k ?x ?d; (case F => k_asm); (case k => rfl); (case x => rfl); (case v => rfl); (case d => decide)) | (refine' Pu.ref ?F ?v ?k ?x ?d; (case F => k_asm); (case k => rfl); (case x => rfl); (case v => rfl); (case d => decide)) | (refine' Pu.cell ?N ?c ?m ?o ?k ?x ?d; (case k => rfl); (case x => rfl); (case N => k_asm); (case c => rfl); (case m => k_mem); (case o => k_asm); (case d => decide)) | (refine' Pu.cref ?N ?c ?m ?o ?k ?x ?d; (case k => rfl); (case x => rfl); (case N => k_asm); (case c => rfl); (case m => k_mem); (case o => k_asm); (case d => decide)))
  k_with "eval Call" => (k_here; (with_reducible show wpAny _ _ (eval (Expr.Call (Expr.Name _ _) [_, _] [] _) _) _ _ _); k_dflt (refine' call2 ?F ?hs ?X ?T ?ef ?kf ?hk ?hx ?hd ?p1 ?p2 ?_; (case F => k_asm); (case hs => exact rfl); (case X => k_asm); (case T => k_asm); (case hk => rfl); (case hx => rfl); (case hd => decide); (case ef => k_is); (case kf => k_is); (case p1 => walk_at "PU"); (case p2 => walk_at "PU")); intro t1 t2 tk; (try dsimp only))
  k_with "eval Call" => (k_here; (with_reducible show wpAny _ _ (eval (Expr.Call (Expr.Name _ _) [_, _, _, _] [] _) _) _ _ _); k_dflt (refine' call4 ?F ?hs ?X ?T ?ef ?kf ?hk ?hx ?hd ?p1 ?p2 ?p3 ?p4 ?_; (case F => k_asm); (case hs => exact rfl); (case X => k_asm); (case T => k_asm); (case hk => rfl); (case hx => rfl); (case hd => decide); (case ef => k_is); (case kf => k_is); (case p1 => walk_at "PU"); (case p2 => walk_at "PU"); (case p3 => walk_at "PU"); (case p4 => walk_at "PU")); intro t1 t2 t3 t4 tk; (try dsimp only))
  k_with "eval Call" => (k_here; (with_reducible show wpAny _ _ (eval (Expr.Call (Expr.Name _ _) [_, _, _, _, _] [] _) _) _ _ _); k_dflt (refine' call5 ?F ?hs ?X ?T ?ef ?kf ?hk ?hx ?hd ?p1 ?p2 ?p3 ?p4 ?p5 ?_; (case F => k_asm); (case hs => exact rfl); (case X => k_asm); (case T => k_asm); (case hk => rfl); (case hx => rfl); (case hd => decide); (case ef => k_is); (case kf => k_is); (case p1 => walk_at "PU"); (case p2 => walk_at "PU"); (case p3 => walk_at "PU"); (case p4 => walk_at "PU"); (case p5 => walk_at "PU")); intro t1 t2 t3 t4 t5 tk; (try dsimp only))
  k_with "eval Call" => (k_here; (with_reducible show wpAny _ _ (eval (Expr.Call (Expr.Name _ _) [_, _, _, _, _, _] [] _) _) _ _ _); k_dflt (refine' call6 ?F ?hs ?X ?T ?ef ?kf ?hk ?hx ?hd ?p1 ?p2 ?p3 ?p4 ?p5 ?p6 ?_; (case F => k_asm); (case hs => exact rfl); (case X => k_asm); (case T => k_asm); (case hk => rfl); (case hx => rfl); (case hd => decide); (case ef => k_is); (case kf => k_is); (case p1 => walk_at "PU"); (case p2 => walk_at "PU"); (case p3 => walk_at "PU"); (case p4 => walk_at "PU"); (case p5 => walk_at "PU"); (case p6 => walk_at "PU")); intro t1 t2 t3 t4 t5 t6 tk; (try dsimp only))
  k_with "ktr_room" => first | exact rm_depth (by assumption) (by decide) | exact rm_rec (by assumption) | exact rm_rec0 (by assumption)
  k_with "ktr_units" => exact rm_units (by assumption) (by decide)
  k_with "units_room" => exact rm_line (by assumption)
  k_with "MUL" => first | exact IntMulOk.of_left (by with_reducible assumption) | exact IntMulOk.of_right (by with_reducible assumption) | exact IntMulOk.of_right (times_b (by with_reducible assumption) (by with_reducible assumption)) | exact IntMulOk.of_left two_b | exact IntMulOk.of_left (v_b (by with_reducible assumption) (by with_reducible assumption)) | mul_fits
  k_with "CON IN" => ( (try unfold ConV); unfold Con; k_fill; intros; refine wpAny_call ?_; k_dflt ktr_enter)
  k_with "CON USE" => ( (case k1 => k_asm); (case k2 => k_asm); (case k3 => k_asm); (case k4 => k_asm); (case k5 => k_asm); (case kK => first | exact rfl | assumption); (case kd => ktr_room); (case ku => ktr_units); intro t9 h9 tk9 F9 N9; (try dsimp only); (try k_sweep); (try k_fold))
  k_with "call ref" => (k_here; refine' ConV.use (wrap_c _ _ _ _ _ ?p1 ?p2) ?k1 ?k2 ?k3 ?k4 ?k5 ?kK ?kd ?ku ?_; (case p1 => omega); (case p2 => omega); walk_at "CON USE")
  k_with "call ref" => (k_here; refine' ConV.use (digit_c _ _ _ ?p1 ?p2) ?k1 ?k2 ?k3 ?k4 ?k5 ?kK ?kd ?ku ?_; (case p1 => omega); (case p2 => omega); walk_at "CON USE")
  k_with "compareOp In int bytes" => (k_here; refine' in_bytesE ?h0 ?h1 (blanks_no ?h2 ?h3) ?_; (case h0 => omega); (case h1 => omega); (case h2 => omega); (case h3 => omega))
  k_with "compareOp In int bytes" => (k_here; refine' in_bytesE ?h0 ?h1 (signs_no ?h2 ?h3) ?_; (case h0 => omega); (case h1 => omega); (case h2 => omega); (case h3 => omega))
  k_with "compareOp In int bytes" => (k_here; refine' in_bytesE ?h0 ?h1 (signs_yes ?h2) ?_; (case h0 => omega); (case h1 => omega); (case h2 => omega))
  k_with "call ref" => (k_here; refine' ConV.use (blank_c _ _ _ ?p1 ?p2) ?k1 ?k2 ?k3 ?k4 ?k5 ?kK ?kd ?ku ?_; (case p1 => omega); (case p2 => omega); walk_at "CON USE")
  k_with "exec While BoolOp" => (k_here; k_dflt (refine whl_start 100 ?_))
  k_with "exec While Compare" => (k_here; k_dflt (refine whl_start 100 ?_))
  k_with "call ref" => (k_here; refine' ConV.use (skip_c _ _ _ _ _ _ ?p1 ?p2 ?p3 ?p4 ?p5) ?k1 ?k2 ?k3 ?k4 ?k5 ?kK ?kd ?ku ?_; (case p1 => assumption); (case p2 => omega); (case p3 => omega); (case p4 => omega); (case p5 => omega); walk_at "CON USE")
  k_with "WhlIf" => first | refine WhlIf.yes (decide_eq_true (by omega)) ?_ | refine WhlIf.no (decide_eq_false (by omega)) ?_
  walk_at "CON IN"
  rename_i hret _ _ _ _ _ _ _ _ _
  refine gen_q ?_
  intro Qg hQg
  refine gen_a ?_
  intro Ag
  k_steps
  all_goals (try (refine hQg _ _ ?_; (try dsimp only)))
  k_steps
  exact hret _ _ _ _ (by k_asm) (news_drop2 (by k_asm)) (newPair_of (digit1 hd hw) (by assumption))

set_option maxRecDepth 100000 in
set_option maxHeartbeats 8000000 in
theorem read2_c (w : World) (news : Led) (T : Array UInt8) (ks : List Int) (i wd : Int) (tb t tt tw : Tok) (hk : KBw.bInts T = ks) (h0 : 0 ≤ i) (h3 : i ≤ 5) (h1 : (ks.length : Int) = i + 1 + 1) (hd : 48 ≤ ks.getD i.toNat 0 ∧ ks.getD i.toNat 0 ≤ 57) (hd2 : 48 ≤ ks.getD (i + 1).toNat 0 ∧ ks.getD (i + 1).toNat 0 ≤ 57) (hw : 8 ≤ wd) (hw2 : wd ≤ 64) :
    Con w 92 2 news [.bytes T tb, .int i t, .int 10 tt, .int wd tw] (NewPair news (10 * (ks.getD i.toNat 0 - 48) + (ks.getD (i + 1).toNat 0 - 48)) (i + 1 + 1)) := by
  w_top off
  k_with_none
  k_with "PU" => (first | with_reducible exact Pu.const | ((with_reducible show Pu _ _ _ (Expr.BinOp _ Operator.Add _ _) _); refine' Pu.add ?a ?b; (case a => walk_at "PU"); (case b => walk_at "PU")) | ((with_reducible show Pu _ _ _ (Expr.BinOp _ Operator.Sub _ _) _); refine' Pu.sub ?a ?b; (case a => walk_at "PU"); (case b => walk_at "PU")) | ((with_reducible show Pu _ _ _ (Expr.BinOp _ Operator.Mult _ _) _); refine' Pu.mul ?a ?b ?m; (case a => walk_at "PU"); (case b => walk_at "PU"); (case m => walk_at "MUL")) | (refine' Pu.loc ?F ?v ?k ?x ?d; (case F => k_asm); (case k => rfl); (case x => rfl); (case v => rfl); (case d => decide)) | (refine' Pu.ref ?F ?v ?k ?x ?d; (case F => k_asm); (case k => rfl); (case x => rfl); (case v => rfl); (case d => decide)) | (refine' Pu.cell ?N ?c ?m ?o ?k ?x ?d; (case k => rfl); (case x => rfl); (case N => k_asm); (case c => rfl); (case m => k_mem); (case o => k_asm); (case d => decide)) | (refine' Pu.cref ?N ?c ?m ?o ?k ?x ?d; (case k => rfl); (case x => rfl); (case N => k_asm); (case c => rfl); (case m => k_mem); (case o => k_asm); (case d => decide)))
  k_with "eval Call" => (k_here; (with_reducible show wpAny _ _ (eval (Expr.Call (Expr.Name _ _) [_, _] [] _) _) _ _ _); k_dflt (refine' call2 ?F ?hs ?X ?T ?ef ?kf ?hk ?hx ?hd ?p1 ?p2 ?_; (case F => k_asm); (case hs => exact rfl); (case X => k_asm); (case T => k_asm); (case hk => rfl); (case hx => rfl); (case hd => decide); (case ef => k_is); (case kf => k_is); (case p1 => walk_at "PU"); (case p2 => walk_at "PU")); intro t1 t2 tk; (try dsimp only))
  k_with "eval Call" => (k_here; (with_reducible show wpAny _ _ (eval (Expr.Call (Expr.Name _ _) [_, _, _, _] [] _) _) _ _ _); k_dflt (refine' call4 ?F ?hs ?X ?T ?ef ?kf ?hk ?hx ?hd ?p1 ?p2 ?p3 ?p4 ?_; (case F => k_asm); (case hs => exact rfl); (case X => k_asm); (case T => k_asm); (case hk => rfl); (case hx => rfl); (case hd => decide); (case ef => k_is); (case kf => k_is); (case p1 => walk_at "PU"); (case p2 => walk_at "PU"); (case p3 => walk_at "PU"); (case p4 => walk_at "PU")); intro t1 t2 t3 t4 tk; (try dsimp only))
  k_with "eval Call" => (k_here; (with_reducible show wpAny _ _ (eval (Expr.Call (Expr.Name _ _) [_, _, _, _, _] [] _) _) _ _ _); k_dflt (refine' call5 ?F ?hs ?X ?T ?ef ?kf ?hk ?hx ?hd ?p1 ?p2 ?p3 ?p4 ?p5 ?_; (case F => k_asm); (case hs => exact rfl); (case X => k_asm); (case T => k_asm); (case hk => rfl); (case hx => rfl); (case hd => decide); (case ef => k_is); (case kf => k_is); (case p1 => walk_at "PU"); (case p2 => walk_at "PU"); (case p3 => walk_at "PU"); (case p4 => walk_at "PU"); (case p5 => walk_at "PU")); intro t1 t2 t3 t4 t5 tk; (try dsimp only))
  k_with "eval Call" => (k_here; (with_reducible show wpAny _ _ (eval (Expr.Call (Expr.Name _ _) [_, _, _, _, _, _] [] _) _) _ _ _); k_dflt (refine' call6 ?F ?hs ?X ?T ?ef ?kf ?hk ?hx ?hd ?p1 ?p2 ?p3 ?p4 ?p5 ?p6 ?_; (case F => k_asm); (case hs => exact rfl); (case X => k_asm); (case T => k_asm); (case hk => rfl); (case hx => rfl); (case hd => decide); (case ef => k_is); (case kf => k_is); (case p1 => walk_at "PU"); (case p2 => walk_at "PU"); (case p3 => walk_at "PU"); (case p4 => walk_at "PU"); (case p5 => walk_at "PU"); (case p6 => walk_at "PU")); intro t1 t2 t3 t4 t5 t6 tk; (try dsimp only))
  k_with "ktr_room" => first | exact rm_depth (by assumption) (by decide) | exact rm_rec (by assumption) | exact rm_rec0 (by assumption)
  k_with "ktr_units" => exact rm_units (by assumption) (by decide)
  k_with "units_room" => exact rm_line (by assumption)
  k_with "MUL" => first | exact IntMulOk.of_left (by with_reducible assumption) | exact IntMulOk.of_right (by with_reducible assumption) | exact IntMulOk.of_right (times_b (by with_reducible assumption) (by with_reducible assumption)) | exact IntMulOk.of_left two_b | exact IntMulOk.of_left (v_b (by with_reducible assumption) (by with_reducible assumption)) | mul_fits
  k_with "CON IN" => ( (try unfold ConV); unfold Con; k_fill; intros; refine wpAny_call ?_; k_dflt ktr_enter)
  k_with "CON USE" => ( (case k1 => k_asm); (case k2 => k_asm); (case k3 => k_asm); (case k4 => k_asm); (case k5 => k_asm); (case kK => first | exact rfl | assumption); (case kd => ktr_room); (case ku => ktr_units); intro t9 h9 tk9 F9 N9; (try dsimp only); (try k_sweep); (try k_fold))
  k_with "call ref" => (k_here; refine' ConV.use (wrap_c _ _ _ _ _ ?p1 ?p2) ?k1 ?k2 ?k3 ?k4 ?k5 ?kK ?kd ?ku ?_; (case p1 => omega); (case p2 => omega); walk_at "CON USE")
  k_with "call ref" => (k_here; refine' ConV.use (digit_c _ _ _ ?p1 ?p2) ?k1 ?k2 ?k3 ?k4 ?k5 ?kK ?kd ?ku ?_; (case p1 => omega); (case p2 => omega); walk_at "CON USE")
  k_with "compareOp In int bytes" => (k_here; refine' in_bytesE ?h0 ?h1 (blanks_no ?h2 ?h3) ?_; (case h0 => omega); (case h1 => omega); (case h2 => omega); (case h3 => omega))
  k_with "compareOp In int bytes" => (k_here; refine' in_bytesE ?h0 ?h1 (signs_no ?h2 ?h3) ?_; (case h0 => omega); (case h1 => omega); (case h2 => omega); (case h3 => omega))
  k_with "compareOp In int bytes" => (k_here; refine' in_bytesE ?h0 ?h1 (signs_yes ?h2) ?_; (case h0 => omega); (case h1 => omega); (case h2 => omega))
  k_with "call ref" => (k_here; refine' ConV.use (blank_c _ _ _ ?p1 ?p2) ?k1 ?k2 ?k3 ?k4 ?k5 ?kK ?kd ?ku ?_; (case p1 => omega); (case p2 => omega); walk_at "CON USE")
  k_with "exec While BoolOp" => (k_here; k_dflt (refine whl_start 100 ?_))
  k_with "exec While Compare" => (k_here; k_dflt (refine whl_start 100 ?_))
  k_with "call ref" => (k_here; refine' ConV.use (skip_c _ _ _ _ _ _ ?p1 ?p2 ?p3 ?p4 ?p5) ?k1 ?k2 ?k3 ?k4 ?k5 ?kK ?kd ?ku ?_; (case p1 => assumption); (case p2 => omega); (case p3 => omega); (case p4 => omega); (case p5 => omega); walk_at "CON USE")
  k_with "WhlIf" => first | refine WhlIf.yes (decide_eq_true (by omega)) ?_ | refine WhlIf.no (decide_eq_false (by omega)) ?_
  walk_at "CON IN"
  rename_i hret _ _ _ _ _ _ _ _ _
  refine gen_q ?_
  intro Qg hQg
  refine gen_a ?_
  intro Ag
  k_steps
  all_goals (try (refine hQg _ _ ?_; (try dsimp only)))
  k_steps
  exact hret _ _ _ _ (by k_asm) (news_drop2 (by k_asm)) (newPair_of (digit2 hd hd2 hw) (by assumption))

section
open PySem PySem.W PyProof.Rows PySem.Builtin PySem.Builtin._codecs
theorem loop2 {β : Type} {n : Nat} (hn : 1 ≤ n) (f : Nat → β → Sem (ForInStep β)) (b0 b1 : β) (h0 : ∀ i, f i b0 = pure (.yield b1)) (h1 : ∀ i, f i b1 = pure (.done b1)) : forIn [:n] b0 f = pure b1 := by
  rw [Std.Legacy.Range.forIn_eq_forIn_range']
  simp only [Std.Legacy.Range.size]
  match n, hn with
  | 1, _ => simp [h0]
  | k + 2, _ =>
    have e : (k + 2 - 0 + 1 - 1) / 1 = k + 2 := by simp
    rw [e]
    simp [List.range', h0, h1]
theorem loop2b {β γ : Type} {n : Nat} (hn : 1 ≤ n) (f : Nat → β → Sem (ForInStep β)) (g : β → Sem γ) (b0 b1 : β) (h0 : ∀ i, f i b0 = pure (.yield b1)) (h1 : ∀ i, f i b1 = pure (.done b1)) : (forIn [:n] b0 f >>= g) = g b1 := by
  rw [loop2 hn f b0 b1 h0 h1, pure_bind]
theorem enc_narrow (id : String) (self : Value) (x : PySem.Str) (hx : ∀ c ∈ x.cps.toList, c < 128) (h0 : 1 ≤ x.length) (h1 : x.length ≤ 100) : encodeNarrow id asciiCodec none self x = pure (x.cps.map (·.toUInt8)) := by
  have hb : ∀ c ∈ x.cps.toList, asciiCodec.bad c = false := fun c hc => by
    have := hx c hc
    simp [asciiCodec]; lia
  unfold encodeNarrow
  refine loop2b h0 _ _ _ (x.length, x.cps.map (·.toUInt8), ({} : Faults)) (fun i => ?_) (fun i => ?_)
  · obtain ⟨⟨l⟩⟩ := x
    cases l with
    | nil => exact absurd h0 (by simp [PySem.Str.length])
    | cons c r =>
      have hc : asciiCodec.bad c = false := hb c (by simp)
      rw [if_neg (by simp)]
      simp only [List.getElem?_toArray, List.getElem?_cons_zero, hc, Bool.not_false, if_true]
      have e0 : (({ toList := c :: r } : Array Nat)).extract = { toList := c :: r } := by simp
      rw [e0]
      have e1 : Array.findIdx? asciiCodec.bad { toList := c :: r } = none := by
        rw [Array.findIdx?_eq_none_iff]
        intro y hy
        exact hb y (by simpa using hy)
      rw [e1]
      simp only [Option.getD_none, Nat.zero_add]
      have e2 : (({ toList := c :: r } : Array Nat)).extract 0 (({ toList := c :: r } : Array Nat)).size = { toList := c :: r } := by simp
      rw [e2]
      have e3 : ∀ (l : List Nat) (a : Array UInt8), Array.foldl (fun acc y => acc ++ (asciiCodec.bytesOf y).toArray) a { toList := l } = a ++ (({ toList := l } : Array Nat)).map (·.toUInt8) := by
        intro l
        induction l with
        | nil => intro a; simp
        | cons y q ih =>
          intro a
          have := ih (a ++ #[y.toUInt8])
          simpa [asciiCodec] using this
      rw [e3]
      simp [PySem.Str.length]
  · have h2 : x.cps[x.length]? = none := by simp [PySem.Str.length]
    rw [if_neg (by simp [PySem.sizeLine_eq]; simp [PySem.Str.length] at h1; lia)]
    dsimp only
    rw [h2]
section
set_option maxRecDepth 100000
theorem encode_entry (x : PySem.Str) (t u : Tok) : «str.encode» ⟨[.str x t, .str (PySem.Str.ofString "ascii") u], []⟩ = (do ret (← encodeRoad "str.encode" (.str x t) x (PySem.Str.ofString "ascii") none)) := by kernel_rfl
theorem encode_road (id : String) (self : Value) (x : PySem.Str) (errors : Option PySem.Str) : encodeRoad id self x (PySem.Str.ofString "ascii") errors = (do mkBytes (← encodeNarrow id asciiCodec errors self x)) := by
  first | kernel_rfl | rfl | (unfold encodeRoad; rfl)
variable {prog : Program} {w : World} {A : Around} {E : Value → Shared → Prop} {s : Shared} {x : PySem.Str} {t u : Tok} {Q : Value → Shared → Prop}
theorem call_encode (hx : ∀ c ∈ x.cps.toList, c < 128) (h0 : 1 ≤ x.length) (h1 : x.length ≤ 100) (h : Q (.bytes (x.cps.map (·.toUInt8)) s.toks) { s with toks := s.toks + 1 }) :
    wpAny (model prog w) A (PySem.call (.builtin "str.encode") [.str x t, .str (PySem.Str.ofString "ascii") u]) Q E s := by
  refine wpAny_call_entry F.slot_str_encode rfl F.entry_str_encode ?_ (F.args_str_encode_2 _ _)
  rw [encode_entry, encode_road, enc_narrow _ _ x hx h0 h1]
  refine wpAny_bind (wpAny_bind (wpAny_pure ?_))
  exact wpAny_mkBytes (wpAny_pure ⟨_, rfl, h⟩) (by rw [PySem.sizeLine_eq]; simp [PySem.Str.length] at h1 ⊢; lia)
theorem method_encode {M : Model} {pl : Sem Bool} {Q : Value × List Value → Shared → Prop} (h : Q (.builtin "str.encode", [.str x t]) s) : wpAny M A (getMethod (.str x t) (PySem.Str.ofString "encode") pl) Q E s :=
  getMethod_builtin (T := "str") rfl F.plainAttrs_str F.slot_str_encode F.type_str_encode (fun _ e => nomatch e) h
end

/-- the octets of an int's text -/
def numT (n : Int) : Array UInt8 := (PySem.Str.ofString (toString n)).cps.map (·.toUInt8)
def numCheck (n : Int) : Bool :=
  decide (∀ c ∈ (PySem.Str.ofString (toString n)).cps.toList, c < 128) && decide (1 ≤ (PySem.Str.ofString (toString n)).length) && decide ((PySem.Str.ofString (toString n)).length ≤ 100) &&
  match KBw.bInts (numT n) with
  | [d] => decide (48 ≤ d ∧ d ≤ 57 ∧ n = d - 48)
  | [d, e] => decide ((48 ≤ d ∧ d ≤ 57 ∧ 48 ≤ e ∧ e ≤ 57 ∧ n = 10 * (d - 48) + (e - 48)) ∨ (d = 45 ∧ 48 ≤ e ∧ e ≤ 57 ∧ n = - (e - 48)))
  | [s, d, e] => decide (s = 45 ∧ 48 ≤ d ∧ d ≤ 57 ∧ 48 ≤ e ∧ e ≤ 57 ∧ n = - (10 * (d - 48) + (e - 48)))
  | _ => false
theorem num_all : ∀ k : Fin 199, numCheck ((k.val : Int) - 99) = true := by decide +kernel
theorem num_check {n : Int} (h0 : -99 ≤ n) (h1 : n ≤ 99) : numCheck n = true := by
  have h : numCheck ((((n + 99).toNat : Nat) : Int) - 99) = true := num_all ⟨(n + 99).toNat, by lia⟩
  have e : (((n + 99).toNat : Nat) : Int) - 99 = n := by lia
  rwa [e] at h
theorem num_plain {n : Int} (h0 : -99 ≤ n) (h1 : n ≤ 99) : (∀ c ∈ (PySem.Str.ofString (toString n)).cps.toList, c < 128) ∧ 1 ≤ (PySem.Str.ofString (toString n)).length ∧ (PySem.Str.ofString (toString n)).length ≤ 100 := by
  have h := num_check h0 h1
  unfold numCheck at h
  simp only [Bool.and_eq_true, decide_eq_true_eq] at h
  exact ⟨h.1.1.1, h.1.1.2, h.1.2⟩
section
variable {prog : Program} {w : World} {A : Around} {E : Value → Shared → Prop} {s : Shared} {n : Int} {t u : Tok} {Q : Value → Shared → Prop}
theorem call_encode_num (h0 : -99 ≤ n) (h1 : n ≤ 99) (h : Q (.bytes (numT n) s.toks) { s with toks := s.toks + 1 }) :
    wpAny (model prog w) A (PySem.call (.builtin "str.encode") [.str (PySem.Str.ofString (toString n)) t, .str (PySem.Str.ofString "ascii") u]) Q E s :=
  call_encode (num_plain h0 h1).1 (num_plain h0 h1).2.1 (num_plain h0 h1).2.2 h
end
end

section
open PySem PySem.W PyProof.Rows PySem.Spec PySem.Calls PyProof.Rows.LCg
section
set_option maxRecDepth 100000
variable {prog : Program} {w : World} {A : Around} {E : Value → Shared → Prop} {s : Shared} {h₀ : Heap} {L : Addr} {m : PySem.Str → Option Value} {env : Env} {news : Led}

/-- what enumerate of a list at l hands back -/
def EnumPost (s : Shared) (l : Addr) (xv : Value) (s₁ : Shared) : Prop :=
  ∃ e it h' tk, xv = .ref e ∧ s₁ = { s with heap := h', toks := tk } ∧ IsEnum h' e it 0 .none ∧ h'.IsListIter it l 0 ∧ (∀ b o, s.heap.get? b = some o → h'.get? b = some o) ∧ s.heap.get? e = none ∧ s.heap.get? it = none ∧ e ≠ it
theorem enum_post {l : Addr} {tk : Nat} {lits : Array Value} (hL : s.heap.IsList l lits) : wpAny (model prog w) A (PySem.call (.type "enumerate") [.ref l]) (EnumPost s l) E { s with toks := tk } := by
  refine call_enumerate_list hL fun h' hE hI hsz hk => ⟨_, _, h', tk, rfl, rfl, hE, hI, hk, ?_, ?_, Nat.succ_ne_self _⟩
  · cases q : s.heap.get? (s.heap.objs.size + 1) with
    | none => rfl
    | some o => exact absurd (Heap.lt_size q) (Nat.not_lt.mpr (Nat.le_succ _))
  · cases q : s.heap.get? s.heap.objs.size with
    | none => rfl
    | some o => exact absurd (Heap.lt_size q) (Nat.lt_irrefl _)

theorem ne_of_get {h : Heap} {a b : Addr} {o : Obj} (h1 : h.get? a = some o) (h2 : h.get? b = none) : a ≠ b := fun q => by rw [q, h2] at h1; cases h1
theorem news_cons {h₀ h : Heap} {L a : Addr} {o : Obj} {l : List (Addr × Obj)} (g : h.get? a = some o ∧ a ≠ L ∧ h₀.get? a = none) (N : News h₀ L h l) : News h₀ L h ((a, o) :: l) := fun p hp => by
  rcases List.mem_cons.mp hp with rfl | hp
  · exact g
  · exact N p hp
theorem snoc_get {items ys : List Value} {i : Nat} {P : Nat → Value → Value → Prop} {x v : Value} (hyl : ys.length = i) (hx : items[i]? = some x) (hP : ∀ (j : Nat) (x v : Value), items[j]? = some x → ys[j]? = some v → P j x v) (hv : P i x v) :
    ∀ (j : Nat) (x' v' : Value), items[j]? = some x' → (ys ++ [v])[j]? = some v' → P j x' v' := fun j x' v' hx' hv' => by
  by_cases hj : j < ys.length
  · rw [List.getElem?_append_left hj] at hv'
    exact hP j x' v' hx' hv'
  · have hj' : j = i := by
      have := (List.getElem?_eq_some_iff.mp hv').1
      simp at this
      lia
    subst hj'
    rw [List.getElem?_append_right (by lia)] at hv'
    simp [hyl] at hv'
    subst hv'
    rw [hx] at hx'
    cases hx'
    exact hv
theorem enum_comp {elt iter : Expr} {a b y : PySem.Str} {pa pb tp py : Pos} {kk : Nat} {scope : Scope} {cl : List (PySem.Str × Addr)} {pos spos : Pos} {Q : Flow → Shared → Prop} {l : Addr} {items : List Value} {lo : Obj} {n : Nat} (P : Nat → Value → Value → Prop)
    (hh : A.handled = none) (hLe : env.locals = L)
    (hsw : swapsWith (.ListComp elt [⟨.Tuple [.Name a pa, .Name b pb] kk tp, iter, [], 0⟩] scope pos) (some (.Name y py)) spos.line env = pure true)
    (hclos : closureFor scope env = pure cl) (hcell : ∀ z ∈ scope.names, z.2 ≠ .cell) (hkind : scope.kind = .function)
    (hnames : ∀ z ∈ scope.names, z.2 = .local → scope.names.lookup z.1 = some .local) (hxa : scope.names.lookup a = some .local) (hxb : scope.names.lookup b = some .local) (hab : ¬ a = b)
    (hy : env.kindOf y = some .local) (hp : (env.scope.kind == .class || (env.scope.kind == .module && env.locals != env.globals)) = false)
    (F : Fr h₀ L s.heap m) (N : News h₀ L s.heap news) (hm : (l, lo) ∈ news) (hc : lo.cls = .type "list") (hd : lo.data = .seq items.toArray n) (hsz : items.length ≤ 100)
    (h : wpAny (model prog w) A (eval iter env) (EnumPost s l) E s)
    (helt : ∀ (i : Nat) (x : Value) (t : Tok) (e : Addr) (oe : Obj) (it : Addr) (oi : Obj) (C : Addr) (oC : Obj) (D : Addr) (od : Obj) (m₂ : PySem.Str → Option Value) (h : Heap) (tk : Nat) (E' : Value → Shared → Prop) (Q' : Value → Shared → Prop), items[i]? = some x → NsObj oC m₂ → m₂ a = some (.int i t) → m₂ b = some x →
      Fr h₀ L h m → News h₀ L h ((e, oe) :: (it, oi) :: (C, oC) :: (D, od) :: news) →
      (∀ v h' tk', Fr h₀ L h' m → News h₀ L h' ((e, oe) :: (it, oi) :: (C, oC) :: (D, od) :: news) → P i x v → Q' v { s with heap := h', toks := tk' }) →
      wpAny (model prog w) A (eval elt (compEnvC scope cl C env)) Q' E' { s with heap := h, toks := tk })
    (k : ∀ D ys h' tk', Fr h₀ L h' (fun z => if z = y then some (.ref D) else m z) → News h₀ L h' ((D, lst ys) :: news) → (∀ p ∈ news, p.1 < D) → ys.length = items.length → (∀ i x v, items[i]? = some x → ys[i]? = some v → P i x v) → Q .next { s with heap := h', toks := tk' })
    (hs : ∀ x, foldedSetIterable iter env x = pure x := by intro _; rfl) :
    wpAny (model prog w) A (exec (.Assign [.Name y py] (.ListComp elt [⟨.Tuple [.Name a pa, .Name b pb] kk tp, iter, [], 0⟩] scope pos) spos) env) Q E s := by
  subst hLe
  rw [exec_Assign_Name_used _ _ _ _ hsw]
  refine wpAny_bind (wpAny_standAt (wpAny_bind ?_))
  show wpAny _ A (do let _ ← comprehension (.ListComp elt [⟨.Tuple [.Name a pa, .Name b pb] kk tp, iter, [], 0⟩] scope pos) scope env _ (newList []) false (eval iter env) (some (assign (.Name y py) env))) _ _ s
  refine wpAny_bind (wpAny_mono (wpAny_comprehension_free (use := some (assign (.Name y py) env)) (Q := fun _ s' => Q .next s') rfl hs hclos hkind hnames
    (wpAny_mono h (fun xv s₁ h₁ => ?_) fun _ _ e => e)) (fun _ s' hq => wpAny_pure (wpAny_pure hq)) fun _ _ e => e)
  obtain ⟨e, it, H, tkH, rfl, rfl, hE, hI, hk, he0, hi0, hei⟩ := h₁
  refine wpAny_pyIter_enum hE ?_
  refine wpAny_newObj_type (wpAny_newFunctionEnv hcell (by intro y hy; simp at hy) (fun h₁ hns₁ hsb₁ => ?_) hkind)
  dsimp only at hns₁ hsb₁ ⊢
  generalize hH2 : H.push { cls := .type "list", dict := none, data := .seq ([] : List Value).toArray } = H2 at hns₁ hsb₁ ⊢
  have hC : H2.objs.size = H.objs.size + 1 := by rw [← hH2, Heap.size_push]
  -- what stood keeps
  have fresh₀ : ∀ a, s.heap.get? a = none → h₀.get? a = none := fun a ha => by
    cases q : h₀.get? a with
    | none => rfl
    | some o' => have := F.keep a o' q; rw [ha] at this; cases this
  have freshH : ∀ a, H.objs.size ≤ a → s.heap.get? a = none := fun a ha => by
    cases q : s.heap.get? a with
    | none => rfl
    | some o' => exact absurd (Heap.lt_size (hk _ _ q)) (Nat.not_lt.mpr ha)
  have ne1 : ∀ b : Addr, b < H.objs.size → b ≠ H2.objs.size ∧ b ≠ H.objs.size := fun b hb => ⟨by rw [hC]; exact Nat.ne_of_lt (Nat.lt_succ_of_lt hb), Nat.ne_of_lt hb⟩
  have hDC : H.objs.size ≠ H2.objs.size := by rw [hC]; exact Nat.ne_of_lt (Nat.lt_succ_self _)
  have oldH : ∀ b o, H.get? b = some o → h₁.get? b = some o := fun b o q => hsb₁.extBut b o (ne1 b (Heap.lt_size q)).1 (Heap.get?_push_of_some _ (by rw [← hH2]; exact Heap.get?_push_of_some _ q))
  have hacc : h₁.get? H.objs.size = some (lst []) := hsb₁.extBut _ _ hDC (Heap.get?_push_of_some _ (by rw [← hH2]; exact Heap.get?_push_size _ rfl))
  have ltH : ∀ b o, s.heap.get? b = some o → b < H.objs.size := fun b o q => Heap.lt_size (hk b o q)
  have heH : e < H.objs.size := Heap.lt_size hE
  have hiH : it < H.objs.size := by obtain ⟨_, q, _⟩ := hI; exact Heap.lt_size q
  have hLL : ∃ o, s.heap.get? env.locals = some o := by obtain ⟨o, _, _, q, _⟩ := F.ns; exact ⟨o, q⟩
  obtain ⟨oL, hoL⟩ := hLL
  have hLe' : env.locals ≠ e := ne_of_get hoL he0
  have hLi' : env.locals ≠ it := ne_of_get hoL hi0
  have hLH := ne1 _ (ltH _ _ hoL)
  have hlN := N _ hm
  have hle : l ≠ e := ne_of_get hlN.1 he0
  have hli : l ≠ it := ne_of_get hlN.1 hi0
  have hlH := ne1 _ (ltH _ _ hlN.1)
  have nH : ∀ p ∈ news, p.1 < H.objs.size ∧ p.1 ≠ e ∧ p.1 ≠ it := fun p hp => ⟨ltH _ _ (N p hp).1, ne_of_get (N p hp).1 he0, ne_of_get (N p hp).1 hi0⟩
  have W := WalksT.enumerate (prog := prog) (w := w) hh e it l hei hle hli items.toArray
  have hC0 : h₀.get? H2.objs.size = none := fresh₀ _ (freshH _ (by rw [hC]; exact Nat.le_succ _))
  have hD0 : h₀.get? H.objs.size = none := fresh₀ _ (freshH _ (Nat.le_refl _))
  have he00 := fresh₀ _ he0
  have hi00 := fresh₀ _ hi0
  -- a heap where all but four objects stand as they stood
  have FK : ∀ h h' : Heap, (∀ b o, b ≠ e → b ≠ it → b ≠ H2.objs.size → b ≠ H.objs.size → h.get? b = some o → h'.get? b = some o) → Fr h₀ env.locals h m → Fr h₀ env.locals h' m := fun h h' hh' F =>
    ⟨F.ns.at' fun o q => hh' _ o hLe' hLi' hLH.1 hLH.2 q, fun b o q => hh' b o (ne_of_get q he00) (ne_of_get q hi00) (ne_of_get q hC0) (ne_of_get q hD0) (F.keep b o q), F.above⟩
  have NK : ∀ h h' : Heap, (∀ b o, b ≠ e → b ≠ it → b ≠ H2.objs.size → b ≠ H.objs.size → h.get? b = some o → h'.get? b = some o) → News h₀ env.locals h news → News h₀ env.locals h' news := fun h h' hh' N p hp =>
    ⟨hh' _ _ (nH p hp).2.1 (nH p hp).2.2 (ne1 _ (nH p hp).1).1 (ne1 _ (nH p hp).1).2 (N p hp).1, (N p hp).2⟩
  have start : ∀ b o, s.heap.get? b = some o → h₁.get? b = some o := fun b o q => oldH b o (hk b o q)
  have wr_of : ∀ b : Addr, b ∉ [e, it] ↔ (b ≠ e ∧ b ≠ it) := fun b => by simp
  have loop : ∀ s₃ : Shared, s₃ = { s with heap := h₁, toks := s₃.toks } →
      codeAny (model prog w) A (.compLoop (.ListComp elt [⟨.Tuple [.Name a pa, .Name b pb] kk tp, iter, [], 0⟩] scope pos) 0 (.ref e) (.ref H.objs.size) (compEnvC scope cl H2.objs.size env))
        (compPost (model prog w) A E (some (assign (.Name y py) env)) (fun _ s' => Q .next s') (.ref H.objs.size) H2.objs.size) s₃ := by
    intro s₃ hs₃
    refine kcp_loop
      (fun k s' => ∃ h' tk i ys m', s' = { s with heap := h', toks := tk } ∧ i ≤ items.length ∧ k = items.length + 1 - i ∧ ys.length = i ∧
        (∃ old, IsEnum h' e it i old) ∧ h'.IsListIter it l i ∧ h'.Ns H2.objs.size m' ∧ h'.get? H.objs.size = some (lst ys) ∧
        Fr h₀ env.locals h' m ∧ News h₀ env.locals h' news ∧ (∀ j x v, items[j]? = some x → ys[j]? = some v → P j x v)) ?_ (items.length + 1) ?_
    · rintro k' s' ⟨h', tk, i, ys, m', rfl, hi, rfl, hyl, hen, hIt, hn, hD, F₁, N₁, hP⟩
      have hL₁ : h'.IsList l items.toArray := ⟨lo, (N₁ _ hm).1, hc, n, hd⟩
      by_cases hlt : i < items.length
      · refine W.toU.item i _ _ _ (by simpa using hlt) ⟨hen, hIt, hL₁⟩ fun T vals h₂ tk₂ hPt hT hMid hk₂ => ?_
        obtain ⟨t, x, hx, rfl⟩ := hPt
        have hTw := W.apart i T h₂ hMid
        refine W.go _ _ _ i T _ _ _ hMid fun h₃ hSt hk₃ => ?_
        have hT₃ : h₃.IsTuple T #[.int i t, x] := hT.at fun o q => hk₃ _ o hTw q
        have up : ∀ b o, b ≠ e → b ≠ it → h'.get? b = some o → h₃.get? b = some o := fun b o h1 h2 q => hk₃ b o ((wr_of b).mpr ⟨h1, h2⟩) (hk₂ b o ((wr_of b).mpr ⟨h1, h2⟩) q)
        have hCe : H2.objs.size ≠ e := Ne.symm (ne1 e heH).1
        have hCi : H2.objs.size ≠ it := Ne.symm (ne1 it hiH).1
        have hDe : H.objs.size ≠ e := Ne.symm (ne1 e heH).2
        have hDi : H.objs.size ≠ it := Ne.symm (ne1 it hiH).2
        refine kcp_assign (env := compEnvC scope cl H2.objs.size env) hh hT₃ (lookup_relabel_local hxa) (lookup_relabel_local hxb) (by simp [compEnvC, relabel, hkind]) (hn.at' fun o q => up _ o hCe hCi q) fun h₄ tk₄ hn₄ hs₄ => ?_
        have up₄ : ∀ b o, b ≠ e → b ≠ it → b ≠ H2.objs.size → b ≠ H.objs.size → h'.get? b = some o → h₄.get? b = some o := fun b o h1 h2 h3 _ q => hs₄ b o h3 (up b o h1 h2 q)
        obtain ⟨⟨old₃, hE₃⟩, hI₃, _⟩ := hSt
        obtain ⟨oE, hE₄, hoE⟩ : ∃ oE : Obj, h₄.get? e = some oE ∧ ∀ h : Heap, h.get? e = some oE → ∃ old, IsEnum h e it ((i + 1 : Nat) : Int) old := ⟨_, hs₄ e _ (Ne.symm hCe) hE₃, fun _ q => ⟨_, q⟩⟩
        obtain ⟨oI, hI₄, hIc, hId⟩ := hI₃
        obtain ⟨oC, hC₄, hoC⟩ := ns_obj hn₄
        have F₄ := FK h' h₄ up₄ F₁
        have N₄ := NK h' h₄ up₄ N₁
        have hD₄ : h₄.get? H.objs.size = some (lst ys) := hs₄ _ _ hDC (up _ _ hDe hDi hD)
        have NN : News h₀ env.locals h₄ ((e, oE) :: (it, oI) :: (H2.objs.size, oC) :: (H.objs.size, lst ys) :: news) :=
          news_cons ⟨hE₄, Ne.symm hLe', he00⟩ (news_cons ⟨hs₄ it _ (Ne.symm hCi) hI₄, Ne.symm hLi', hi00⟩ (news_cons ⟨hC₄, Ne.symm hLH.1, hC0⟩ (news_cons ⟨hD₄, Ne.symm hLH.2, hD0⟩ N₄)))
        refine helt i x t e oE it oI H2.objs.size oC H.objs.size (lst ys) _ h₄ _ _ _ (by simpa using hx) hoC (by simp [hab]) (by simp) F₄ NN fun v h₅ tk₅ F₅ N₅ hPv => ?_
        have zE := N₅ (e, oE) (.head _)
        have zI := N₅ (it, oI) (.tail _ (.head _))
        have zC := N₅ (H2.objs.size, oC) (.tail _ (.tail _ (.head _)))
        have zD := N₅ (H.objs.size, lst ys) (.tail _ (.tail _ (.tail _ (.head _))))
        have N₅' : News h₀ env.locals h₅ news := fun p hp => N₅ p (.tail _ (.tail _ (.tail _ (.tail _ hp))))
        refine append_at (hsz := by show ys.toArray.size ≤ sizeLine; rw [List.size_toArray, hyl, PySem.sizeLine_eq]; lia) zD.1 fun h₆ hs₆ hD₆ => ?_
        have up₆ : ∀ b o, b ≠ H.objs.size → h₅.get? b = some o → h₆.get? b = some o := fun b o h1 q => hs₆.extBut b o h1 q
        refine ⟨items.length + 1 - (i + 1), by lia, h₆, tk₅, i + 1, ys ++ [v], _, rfl, hlt, rfl, by rw [List.length_append, List.length_singleton, hyl], hoE h₆ (up₆ e _ (Ne.symm hDe) zE.1), ⟨oI, up₆ it _ (Ne.symm hDi) zI.1, hIc, hId⟩,
          hoC.ns (up₆ _ _ (Ne.symm hDC) zC.1), hD₆.trans (congrArg some (lst_snoc ys v)), FK h₅ h₆ (fun b o _ _ _ h4 q => up₆ b o h4 q) F₅, NK h₅ h₆ (fun b o _ _ _ h4 q => up₆ b o h4 q) N₅', snoc_get hyl (by simpa using hx) hP hPv⟩
      · have hin : i = items.length := Nat.le_antisymm hi (Nat.not_lt.mp hlt)
        refine W.done _ _ _ (by simpa using ⟨hin ▸ hen, hin ▸ hIt, hL₁⟩) fun h₂ tk₂ hk₂ => ?_
        have up₂ : ∀ b o, b ≠ e → b ≠ it → h'.get? b = some o → h₂.get? b = some o := fun b o h1 h2 q => hk₂ b o ((wr_of b).mpr ⟨h1, h2⟩) q
        have F₂ := FK h' h₂ (fun b o h1 h2 _ _ q => up₂ b o h1 h2 q) F₁
        have N₂ := NK h' h₂ (fun b o h1 h2 _ _ q => up₂ b o h1 h2 q) N₁
        have hn₂ : h₂.Ns H2.objs.size m' := hn.at' fun o q => up₂ _ o (Ne.symm (ne1 e heH).1) (Ne.symm (ne1 it hiH).1) q
        have hD₂ : h₂.get? H.objs.size = some (lst ys) := up₂ _ _ (Ne.symm (ne1 e heH).2) (Ne.symm (ne1 it hiH).2) hD
        show wpAny _ A (assign (.Name y py) env (.ref H.objs.size)) _ _ _
        refine wpAny_assign_Name (wpAny_storeName_local hy F₂.ns (fun h₃ hn₃ hs₃ => ?_) hp)
        have hL₀ : h₀.get? env.locals = none := Heap.get?_none_of_le F₂.above
        have F₃ : Fr h₀ env.locals h₃ (fun z => if z = y then some (.ref H.objs.size) else m z) := ⟨hn₃, fun b o q => hs₃.extBut b o (ne_of_get q hL₀) (F₂.keep b o q), F₂.above⟩
        refine ⟨m', hn₂.sameBut hs₃ (Ne.symm hLH.1), fun h₄ hs₄ => k _ ys h₄ _ (F₃.change hs₄ (Ne.symm hLH.1) hC0) (news_cons ⟨hs₄.extBut _ _ hDC (hs₃.extBut _ _ (Ne.symm hLH.2) hD₂), Ne.symm hLH.2, hD0⟩ fun p hp => ⟨hs₄.extBut _ _ (ne1 _ (nH p hp).1).1 (hs₃.extBut _ _ (N₂ p hp).2.1 (N₂ p hp).1), (N₂ p hp).2⟩) (fun p hp => (nH p hp).1) (hyl.trans hin) hP⟩
    · exact ⟨h₁, s₃.toks, 0, [], _, hs₃, Nat.zero_le _, rfl, rfl, ⟨.none, oldH _ _ hE⟩, hI.at fun o q => oldH _ o q, hns₁, hacc, FK s.heap h₁ (fun b o _ _ _ _ q => start b o q) F, NK s.heap h₁ (fun b o _ _ _ _ q => start b o q) N, fun j x v _ hv => by simp at hv⟩
  refine codeAny_compStart_list (loop _ rfl) (wpAny_pyIter_enum (oldH _ _ hE) (loop _ rfl))
end
/-- an int, or the octets of its text -/
def NumV (v : Value) (x : Int) : Prop := (∃ t, v = .int x t) ∨ (∃ t, v = .bytes (numT x) t)
theorem three_items {x0 x1 x2 : Int} {t0 t1 t2 : Tok} {i : Nat} {x : Value} (h : ([.int x0 t0, .int x1 t1, .int x2 t2] : List Value)[i]? = some x) : ∃ n t, x = .int n t ∧ (n = x0 ∨ n = x1 ∨ n = x2) := by
  match i, h with
  | 0, h => cases h; exact ⟨_, _, rfl, .inl rfl⟩
  | 1, h => cases h; exact ⟨_, _, rfl, .inr (.inl rfl)⟩
  | 2, h => cases h; exact ⟨_, _, rfl, .inr (.inr rfl)⟩
  | k + 3, h => simp at h
section
set_option maxRecDepth 100000
variable {prog : Program} {w : World} {A : Around} {E : Value → Shared → Prop} {s : Shared} {h₀ : Heap} {L : Addr} {m : PySem.Str → Option Value} {env : Env} {news : Led}
theorem list_three {ys : List Value} (h : ys.length = 3) : ∃ a b c, ys = [a, b, c] := by
  cases ys with
  | nil => cases h
  | cons a ys => cases ys with
    | nil => cases h
    | cons b ys => cases ys with
      | nil => cases h
      | cons c ys => cases ys with
        | nil => exact ⟨a, b, c, rfl⟩
        | cons d ys => simp at h
theorem values_comp {elt iter : Expr} {a b y : PySem.Str} {pa pb tp py : Pos} {kk : Nat} {scope : Scope} {cl : List (PySem.Str × Addr)} {pos spos : Pos} {Q : Flow → Shared → Prop} {l : Addr} {x0 x1 x2 : Int} {t0 t1 t2 : Tok} {n : Nat}
    (hh : A.handled = none) (hLe : env.locals = L)
    (hsw : swapsWith (.ListComp elt [⟨.Tuple [.Name a pa, .Name b pb] kk tp, iter, [], 0⟩] scope pos) (some (.Name y py)) spos.line env = pure true)
    (hclos : closureFor scope env = pure cl) (hcell : ∀ z ∈ scope.names, z.2 ≠ .cell) (hkind : scope.kind = .function)
    (hnames : ∀ z ∈ scope.names, z.2 = .local → scope.names.lookup z.1 = some .local) (hxa : scope.names.lookup a = some .local) (hxb : scope.names.lookup b = some .local) (hab : ¬ a = b)
    (hy : env.kindOf y = some .local) (hp : (env.scope.kind == .class || (env.scope.kind == .module && env.locals != env.globals)) = false)
    (F : Fr h₀ L s.heap m) (N : News h₀ L s.heap news) (hl : m (PySem.Str.ofString "three") = some (.ref l)) (hm : (l, listOf (#[.int x0 t0, .int x1 t1, .int x2 t2] : Array Value) n) ∈ news)
    (hb : (-99 ≤ x0 ∧ x0 ≤ 99) ∧ (-99 ≤ x1 ∧ x1 ≤ 99) ∧ (-99 ≤ x2 ∧ x2 ≤ 99))
    (hs : ∀ x, foldedSetIterable iter env x = pure x)
    (h : wpAny (model prog w) A (eval iter env) (EnumPost s l) E s)
    (helt : ∀ (i : Nat) (x : Int) (tx t : Tok) (e : Addr) (oe : Obj) (it : Addr) (oi : Obj) (C : Addr) (oC : Obj) (D : Addr) (od : Obj) (m₂ : PySem.Str → Option Value) (h : Heap) (tk : Nat) (E' : Value → Shared → Prop) (Q' : Value → Shared → Prop), -99 ≤ x → x ≤ 99 → NsObj oC m₂ → m₂ a = some (.int i t) → m₂ b = some (.int x tx) →
      Fr h₀ L h m → News h₀ L h ((e, oe) :: (it, oi) :: (C, oC) :: (D, od) :: news) →
      (∀ v h' tk', Fr h₀ L h' m → News h₀ L h' ((e, oe) :: (it, oi) :: (C, oC) :: (D, od) :: news) → NumV v x → Q' v { s with heap := h', toks := tk' }) →
      wpAny (model prog w) A (eval elt (compEnvC scope cl C env)) Q' E' { s with heap := h, toks := tk })
    (k : ∀ D v0 v1 v2 h' tk', Fr h₀ L h' (fun z => if z = y then some (.ref D) else m z) → News h₀ L h' ((D, listOf (#[v0, v1, v2] : Array Value) 3) :: news) → (∀ p ∈ news, p.1 < D) → NumV v0 x0 → NumV v1 x1 → NumV v2 x2 → Q .next { s with heap := h', toks := tk' }) :
    wpAny (model prog w) A (exec (.Assign [.Name y py] (.ListComp elt [⟨.Tuple [.Name a pa, .Name b pb] kk tp, iter, [], 0⟩] scope pos) spos) env) Q E s := by
  refine enum_comp (items := [.int x0 t0, .int x1 t1, .int x2 t2]) (fun _ x v => ∀ n t, x = Value.int n t → NumV v n) hh hLe hsw hclos hcell hkind hnames hxa hxb hab hy hp F N hm rfl rfl (by simp) h ?_ ?_ hs
  · intro i x t e oe it oi C oC D od m₂ h tk E' Q' hx hC ha hb' F' N' hQ
    obtain ⟨n, t', rfl, hn⟩ := three_items hx
    refine helt i n t' t e oe it oi C oC D od m₂ h tk E' Q' (by rcases hn with rfl | rfl | rfl <;> lia) (by rcases hn with rfl | rfl | rfl <;> lia) hC ha hb' F' N' fun v h' tk' F'' N'' hv => ?_
    exact hQ v h' tk' F'' N'' fun n t e => by cases e; exact hv
  · intro D ys h' tk' F' N' hlt hlen hP
    obtain ⟨v0, v1, v2, rfl⟩ := list_three hlen
    exact k D v0 v1 v2 h' tk' F' N' hlt (hP 0 _ v0 rfl rfl _ _ rfl) (hP 1 _ v1 rfl rfl _ _ rfl) (hP 2 _ v2 rfl rfl _ _ rfl)
end
end

section
theorem upd_mem {d : Addr} {o o' : Obj} {l l' : Led} (U : Upd d o o' l l') : ∀ p ∈ l', p = (d, o') ∨ (p ∈ l ∧ p.1 ≠ d) := by
  obtain ⟨pre, post, rfl, rfl, h1, h2⟩ := U.split
  intro p hp
  rcases List.mem_append.mp hp with hp | hp
  · exact .inr ⟨List.mem_append.mpr (.inl hp), h1 p hp⟩
  · rcases List.mem_cons.mp hp with rfl | hp
    · exact .inl rfl
    · exact .inr ⟨List.mem_append.mpr (.inr (.tail _ hp)), h2 p hp⟩

section
variable {w : World} {news : Led} {b l : Addr} {c wd : Int} {tc tw : Tok} {nb nl : Nat} {vs : List Value} {ns : List Int}
  {mean : ExcName → Option Value} {mg mb : PySem.Str → Option Value} {dp un : Nat} {gd : Option (List Code)} {cn : PySem.Str} {cs : Scope} {a : Addr} {ccd : Value} {cl : List (PySem.Str × Addr)} {outer : List Env} {A₀ : Around} {base h₀ : Heap} {L : Addr} {m : PySem.Str → Option Value} {s : Shared} {Q E : Value → Shared → Prop}
theorem take_use (B : Below A₀ base outer h₀) (F : Fr h₀ L s.heap m) (X : (hd.heap_39 w.params).In h₀) (N : News h₀ L s.heap news) (T : Top hd.view_39 (looseW hd.view_39 []) mean mg mb h₀) (hk : cs.kind = .function)
    (hd : dp + 1 ≤ 900) (hu : un + 8 * 1 ≤ 500)
    (hb : (b, boxOf l c tc nb) ∈ news) (hl : (l, listOf vs.toArray nl) ∈ news) (hlb : @LT.lt Nat _ l b) (hI : IntsAre vs ns) (hlen : vs.length ≤ 40) (h0 : 0 ≤ c) (h1 : c ≤ 200) (h2 : 0 < wd) (h3 : wd ≤ 1000)
    (h : ∀ (x : Int) (t tc' : Tok) (nb' nl' : Nat) (vs' : List Value) (ns' : List Int) (h' : Heap) (tk' : Nat), Fr h₀ L h' m →
      (∀ n1 n2, Upd b (boxOf l c tc nb) (boxOf l (c + 1) tc' nb') news n1 → Upd l (listOf vs.toArray nl) (listOf vs'.toArray nl') n1 n2 → News h₀ L h' n2) →
      0 ≤ x → x < wd → IntsAre vs' ns' → vs'.length ≤ 40 → Q (.int x t) { s with heap := h', toks := tk' }) :
    wpAny (model PySem.Challenge.rw_sm0055_01.row.prog w) (ktrTop dp un gd cn cs L a ccd cl outer) (PySem.call (.ref 160) [.ref b, .int wd tw]) Q E s := by
  let rest : Led := news.filter fun p => decide (p.1 ≠ b) && decide (p.1 ≠ l)
  have hr : ∀ p ∈ rest, p ∈ news ∧ p.1 ≠ b ∧ p.1 ≠ l := fun p hp => by
    have := List.mem_filter.mp hp
    simpa using this
  have hr' : ∀ p ∈ news, p.1 ≠ b → p.1 ≠ l → p ∈ rest := fun p hp h1 h2 => List.mem_filter.mpr ⟨hp, by simp [h1, h2]⟩
  have N1 : News h₀ L s.heap ((b, boxOf l c tc nb) :: (l, listOf vs.toArray nl) :: rest) := fun p hp => by
    rcases List.mem_cons.mp hp with rfl | hp
    · exact N _ hb
    · rcases List.mem_cons.mp hp with rfl | hp
      · exact N _ hl
      · exact N _ (hr p hp).1
  refine Con.use (take_c w rest b l c tc nb nl 40 vs ns wd tw hI hlen (Nat.le_refl _) h0 h1 h2 h3 (Nat.ne_of_gt hlb) (Nat.ne_of_lt hlb) (fun p hp => (hr p hp).2.1) (fun p hp => (hr p hp).2.2)) B F X N1 T hk hd hu ?_
  rintro r news' h' tk' F' N' ⟨x, t, tc', nb', nl', vs', ns', rfl, hx0, hx1, rfl, hI', hk'⟩
  refine h x t tc' nb' nl' vs' ns' h' tk' F' (fun n1 n2 U1 U2 p hp => ?_) hx0 hx1 hI' hk'
  rcases upd_mem U2 p hp with rfl | ⟨hp, hne⟩
  · exact N' _ (.tail _ (.head _))
  · rcases upd_mem U1 p hp with rfl | ⟨hp, hne'⟩
    · exact N' _ (.head _)
    · exact N' _ (.tail _ (.tail _ (hr' p hp hne' hne)))
end

theorem ite_y {c : Prop} [Decidable c] {T F : Prop} (h : c) (t : T) : if c then T else F := by rw [if_pos h]; exact t
theorem ite_n {c : Prop} [Decidable c] {T F : Prop} (h : ¬ c) (f : F) : if c then T else F := by rw [if_neg h]; exact f
theorem prod_b {s m : Int} (hm0 : 0 ≤ m) (hm1 : m < 9) (hs0 : 0 ≤ s) (hs1 : s < 7) : 0 ≤ (1 + s) * m ∧ (1 + s) * m ≤ 56 :=
  ⟨Int.mul_nonneg (by lia) hm0, Int.le_trans (Int.mul_le_mul_of_nonneg_left (show m ≤ 8 by lia) (by lia)) (by lia)⟩
theorem neg_prod {s m : Int} : (0 - (1 + s)) * m = - ((1 + s) * m) := by rw [Int.zero_sub, Int.neg_mul]
theorem hb_down {f m s e : Int} (hf0 : 0 ≤ f) (hf1 : f < 61) (hm0 : 0 ≤ m) (hm1 : m < 9) (hs0 : 0 ≤ s) (hs1 : s < 7) (he0 : 0 ≤ e) (he1 : e < 1 + s) :
    (-99 ≤ f - 30 ∧ f - 30 ≤ 99) ∧ (-99 ≤ f - 30 + (0 - (1 + s)) * m + (1 + e) ∧ f - 30 + (0 - (1 + s)) * m + (1 + e) ≤ 99) ∧ (-99 ≤ 0 - (1 + s) ∧ 0 - (1 + s) ≤ 99) := by
  have := prod_b hm0 hm1 hs0 hs1
  rw [neg_prod]
  lia
theorem hb_up {f m s e : Int} (hf0 : 0 ≤ f) (hf1 : f < 61) (hm0 : 0 ≤ m) (hm1 : m < 9) (hs0 : 0 ≤ s) (hs1 : s < 7) (he0 : 0 ≤ e) (he1 : e < 1 + s) :
    (-99 ≤ f - 30 ∧ f - 30 ≤ 99) ∧ (-99 ≤ f - 30 + (1 + s) * m + (0 - (1 + e)) ∧ f - 30 + (1 + s) * m + (0 - (1 + e)) ≤ 99) ∧ (-99 ≤ 1 + s ∧ 1 + s ≤ 99) := by
  have := prod_b hm0 hm1 hs0 hs1
  lia
/-- the box and one thing more, its count -/
def BoxLed (b l i : Addr) (oi : Obj) (c : Int) (led : Led) : Prop :=
  ∃ (tc : Tok) (nb nl : Nat) (vs : List Value) (ns : List Int), led = [(i, oi), (b, boxOf l c tc nb), (l, listOf vs.toArray nl)] ∧ IntsAre vs ns ∧ vs.length ≤ 40
theorem box_end {h₀ h : Heap} {L b l i : Addr} {oi : Obj} {led : Led} {c c' : Int} {tc : Tok} {nb nl : Nat} {vs : List Value} {ns : List Int} (N : News h₀ L h led) (hi : (i, oi) ∈ led) (hb : (b, boxOf l c tc nb) ∈ led) (hl : (l, listOf vs.toArray nl) ∈ led) (hI : IntsAre vs ns) (hlen : vs.length ≤ 40) (hc : c = c') :
    ∃ led', News h₀ L h led' ∧ BoxLed b l i oi c' led' := by
  subst hc
  refine ⟨[(i, oi), (b, boxOf l c tc nb), (l, listOf vs.toArray nl)], fun p hp => ?_, tc, nb, nl, vs, ns, rfl, hI, hlen⟩
  rcases List.mem_cons.mp hp with rfl | hp
  · exact N _ hi
  · rcases List.mem_cons.mp hp with rfl | hp
    · exact N _ hb
    · rw [List.mem_singleton.mp hp]; exact N _ hl
theorem box_eq {b l i : Addr} {oi : Obj} {c c' : Int} {led : Led} (h : BoxLed b l i oi c led) (e : c = c') : BoxLed b l i oi c' led := e ▸ h
end

theorem any_toks {α : Type} {M : Model} {A : Around} {t : Sem α} {Q : α → Shared → Prop} {E : Value → Shared → Prop} {H : Heap} {g : Array GenState} {d : Drawn} {tk : Nat} {o : OsState} (h : ∀ tk', wpAny M A t Q E ⟨H, g, d, tk', o⟩) : wpAny M A t Q E ⟨H, g, d, tk, o⟩ := h tk

set_option maxRecDepth 100000 in
set_option maxHeartbeats 4000000 in
theorem lim_c {w : World} {news : Led} {wd : Int} {tw : Tok}
  {mean : ExcName → Option Value} {mg mb : PySem.Str → Option Value} {dp un : Nat} {gd : Option (List Code)} {cn : PySem.Str} {cs : Scope} {a : Addr} {ccd : Value} {cl : List (PySem.Str × Addr)} {outer : List Env} {A₀ : Around} {base h₀ : Heap} {L : Addr} {m : PySem.Str → Option Value} {s : Shared} {Q E : Value → Shared → Prop}
    (B : Below A₀ base outer h₀) (F : Fr h₀ L s.heap m) (X : (hd.heap_39 w.params).In h₀) (N : News h₀ L s.heap news) (T : Top hd.view_39 (looseW hd.view_39 []) mean mg mb h₀) (hk : cs.kind = .function)
    (hd : dp + 2 ≤ 900) (hu : un + 8 * 2 ≤ 500)
    (h : ∀ (x dx : Addr) (es : List DictEntry) (n : Nat) (tw' : Tok) (h' : Heap) (tk' : Nat), Fr h₀ L h' m → News h₀ L h' ((x, instObj 53 dx) :: (dx, dictOf es n) :: news) → (∀ p ∈ news, p.1 < dx) → @LT.lt Nat _ dx x →
      getL (PySem.Str.ofString "width") es = some (some (.int wd tw')) → Q (.ref x) { s with heap := h', toks := tk' }) :
    wpAny (model PySem.Challenge.rw_sm0055_01.row.prog w) (ktrTop dp un gd cn cs L a ccd cl outer) (PySem.call (.ref 53) [] [(PySem.Str.ofString "width", .int wd tw)]) Q E s := by
  w_top off
  k_with_none
  k_with "PU" => (first | with_reducible exact Pu.const | ((with_reducible show Pu _ _ _ (Expr.BinOp _ Operator.Add _ _) _); refine' Pu.add ?a ?b; (case a => walk_at "PU"); (case b => walk_at "PU")) | ((with_reducible show Pu _ _ _ (Expr.BinOp _ Operator.Sub _ _) _); refine' Pu.sub ?a ?b; (case a => walk_at "PU"); (case b => walk_at "PU")) | ((with_reducible show Pu _ _ _ (Expr.BinOp _ Operator.Mult _ _) _); refine' Pu.mul ?a ?b ?m; (case a => walk_at "PU"); (case b => walk_at "PU"); (case m => walk_at "MUL")) | (refine' Pu.loc ?F ?v ?k ?x ?d; (case F => k_asm); (case k => rfl); (case x => rfl); (case v => rfl); (case d => decide)) | (refine' Pu.ref ?F ?v ?k ?x ?d; (case F => k_asm); (case k => rfl); (case x => rfl); (case v => rfl); (case d => decide)) | (refine' Pu.cell ?N ?c ?m ?o ?k ?x ?d; (case k => rfl); (case x => rfl); (case N => k_asm); (case c => rfl); (case m => k_mem); (case o => k_asm); (case d => decide)) | (refine' Pu.cref ?N ?c ?m ?o ?k ?x ?d; (case k => rfl); (case x => rfl); (case N => k_asm); (case c => rfl); (case m => k_mem); (case o => k_asm); (case d => decide)))
  k_with "eval Call" => (k_here; (with_reducible show wpAny _ _ (eval (Expr.Call (Expr.Name _ _) [_, _] [] _) _) _ _ _); k_dflt (refine' call2 ?F ?hs ?X ?T ?ef ?kf ?hk ?hx ?hd ?p1 ?p2 ?_; (case F => k_asm); (case hs => exact rfl); (case X => k_asm); (case T => k_asm); (case hk => rfl); (case hx => rfl); (case hd => decide); (case ef => k_is); (case kf => k_is); (case p1 => walk_at "PU"); (case p2 => walk_at "PU")); intro t1 t2 tk; (try dsimp only))
  k_with "eval Call" => (k_here; (with_reducible show wpAny _ _ (eval (Expr.Call (Expr.Name _ _) [_, _, _, _] [] _) _) _ _ _); k_dflt (refine' call4 ?F ?hs ?X ?T ?ef ?kf ?hk ?hx ?hd ?p1 ?p2 ?p3 ?p4 ?_; (case F => k_asm); (case hs => exact rfl); (case X => k_asm); (case T => k_asm); (case hk => rfl); (case hx => rfl); (case hd => decide); (case ef => k_is); (case kf => k_is); (case p1 => walk_at "PU"); (case p2 => walk_at "PU"); (case p3 => walk_at "PU"); (case p4 => walk_at "PU")); intro t1 t2 t3 t4 tk; (try dsimp only))
  k_with "eval Call" => (k_here; (with_reducible show wpAny _ _ (eval (Expr.Call (Expr.Name _ _) [_, _, _, _, _] [] _) _) _ _ _); k_dflt (refine' call5 ?F ?hs ?X ?T ?ef ?kf ?hk ?hx ?hd ?p1 ?p2 ?p3 ?p4 ?p5 ?_; (case F => k_asm); (case hs => exact rfl); (case X => k_asm); (case T => k_asm); (case hk => rfl); (case hx => rfl); (case hd => decide); (case ef => k_is); (case kf => k_is); (case p1 => walk_at "PU"); (case p2 => walk_at "PU"); (case p3 => walk_at "PU"); (case p4 => walk_at "PU"); (case p5 => walk_at "PU")); intro t1 t2 t3 t4 t5 tk; (try dsimp only))
  k_with "eval Call" => (k_here; (with_reducible show wpAny _ _ (eval (Expr.Call (Expr.Name _ _) [_, _, _, _, _, _] [] _) _) _ _ _); k_dflt (refine' call6 ?F ?hs ?X ?T ?ef ?kf ?hk ?hx ?hd ?p1 ?p2 ?p3 ?p4 ?p5 ?p6 ?_; (case F => k_asm); (case hs => exact rfl); (case X => k_asm); (case T => k_asm); (case hk => rfl); (case hx => rfl); (case hd => decide); (case ef => k_is); (case kf => k_is); (case p1 => walk_at "PU"); (case p2 => walk_at "PU"); (case p3 => walk_at "PU"); (case p4 => walk_at "PU"); (case p5 => walk_at "PU"); (case p6 => walk_at "PU")); intro t1 t2 t3 t4 t5 t6 tk; (try dsimp only))
  k_with "LT" => ((repeat (first | (with_reducible refine as16 ?_; intro hz1 hz2 hz3 hz4 hz5 hz6 hz7 hz8 hz9 hz10 hz11 hz12 hz13 hz14 hz15 hz16) | (with_reducible refine as8 ?_; intro hz1 hz2 hz3 hz4 hz5 hz6 hz7 hz8) | (with_reducible refine as4 ?_; intro hz1 hz2 hz3 hz4) | (with_reducible refine as2 ?_; intro hz1 hz2) | (with_reducible refine as1 ?_; intro hz1))); intro hz0; (try (rename (∀ p ∈ ([] : List (Addr × Obj)), _) => hz0'; clear hz0')))
  k_with "PK" => with_reducible first | exact And.left (by assumption) | exact And.right (by assumption) | exact And.left (And.right (by assumption)) | exact And.right (And.right (by assumption)) | exact And.left (And.right (And.right (by assumption))) | exact And.right (And.right (And.right (by assumption))) | exact And.left (And.right (And.right (And.right (by assumption)))) | exact And.right (And.right (And.right (And.right (by assumption)))) | exact And.left (And.right (And.right (And.right (And.right (by assumption))))) | exact And.right (And.right (And.right (And.right (And.right (by assumption))))) | exact And.left (And.right (And.right (And.right (And.right (And.right (by assumption)))))) | exact And.right (And.right (And.right (And.right (And.right (And.right (by assumption)))))) | exact And.left (And.right (And.right (And.right (And.right (And.right (And.right (by assumption))))))) | exact And.right (And.right (And.right (And.right (And.right (And.right (And.right (by assumption))))))) | exact And.left (And.right (And.right (And.right (And.right (And.right (And.right (And.right (by assumption)))))))) | exact And.right (And.right (And.right (And.right (And.right (And.right (And.right (And.right (by assumption)))))))) | exact And.left (And.right (And.right (And.right (And.right (And.right (And.right (And.right (And.right (by assumption))))))))) | exact And.right (And.right (And.right (And.right (And.right (And.right (And.right (And.right (And.right (by assumption))))))))) | exact And.left (And.right (And.right (And.right (And.right (And.right (And.right (And.right (And.right (And.right (by assumption)))))))))) | exact And.right (And.right (And.right (And.right (And.right (And.right (And.right (And.right (And.right (And.right (by assumption)))))))))) | exact And.left (And.right (And.right (And.right (And.right (And.right (And.right (And.right (And.right (And.right (And.right (by assumption))))))))))) | exact And.right (And.right (And.right (And.right (And.right (And.right (And.right (And.right (And.right (And.right (And.right (by assumption))))))))))) | exact And.left (And.right (And.right (And.right (And.right (And.right (And.right (And.right (And.right (And.right (And.right (And.right (by assumption)))))))))))) | exact And.right (And.right (And.right (And.right (And.right (And.right (And.right (And.right (And.right (And.right (And.right (And.right (by assumption)))))))))))) | exact And.left (And.right (And.right (And.right (And.right (And.right (And.right (And.right (And.right (And.right (And.right (And.right (And.right (by assumption))))))))))))) | exact And.right (And.right (And.right (And.right (And.right (And.right (And.right (And.right (And.right (And.right (And.right (And.right (And.right (by assumption)))))))))))))
  k_with "k_ne" => (refine neN ?_; (try dsimp only); first | with_reducible (first | assumption | exact ne_gt (by assumption) | exact ne_lt (by assumption) | exact Ne.symm (by assumption) | exact nq (by assumption) | exact Ne.symm (nq (by assumption)) | exact ne_gt s_1 | exact ne_lt s_1 | exact ne_gt (lt_s s_1) | exact ne_lt (lt_s s_1) | exact ne_gt (lt_s (lt_s s_1)) | exact ne_lt (lt_s (lt_s s_1)) | exact ne_gt (lt_s (lt_s (lt_s s_1))) | exact ne_lt (lt_s (lt_s (lt_s s_1))) | exact ne_gt (lt_s (lt_s (lt_s (lt_s s_1)))) | exact ne_lt (lt_s (lt_s (lt_s (lt_s s_1)))) | exact ne_gt (lt_s (lt_s (lt_s (lt_s (lt_s s_1))))) | exact ne_lt (lt_s (lt_s (lt_s (lt_s (lt_s s_1))))) | exact ne_gt (lt_s (lt_s (lt_s (lt_s (lt_s (lt_s s_1)))))) | exact ne_lt (lt_s (lt_s (lt_s (lt_s (lt_s (lt_s s_1)))))) | exact ne_gt (lt_s (by assumption)) | exact ne_lt (lt_s (by assumption)) | exact ne_gt (lt_s (lt_s (by assumption))) | exact ne_lt (lt_s (lt_s (by assumption))) | exact ne_gt (lt_s (lt_s (lt_s (by assumption)))) | exact ne_lt (lt_s (lt_s (lt_s (by assumption)))) | exact ne_gt (lt_s (lt_s (lt_s (lt_s (by assumption))))) | exact ne_lt (lt_s (lt_s (lt_s (lt_s (by assumption))))) | exact ne_gt (lt_s (lt_s (lt_s (lt_s (lt_s (by assumption)))))) | exact ne_lt (lt_s (lt_s (lt_s (lt_s (lt_s (by assumption)))))) | exact ne_gt (lt_s (lt_s (lt_s (lt_s (lt_s (lt_s (by assumption))))))) | exact ne_lt (lt_s (lt_s (lt_s (lt_s (lt_s (lt_s (by assumption))))))) | exact ne_gt (lt_s (lt_s (lt_s (lt_s (lt_s (lt_s (lt_s (by assumption)))))))) | exact ne_lt (lt_s (lt_s (lt_s (lt_s (lt_s (lt_s (lt_s (by assumption))))))))) | with_reducible exact Nat.ne_of_lt (by assumption) | with_reducible exact Nat.ne_of_gt (by assumption) | walk_at "PK" | (refine Ne.symm ?_; walk_at "PK") | omega)
  k_with "ktr_room" => first | exact rm_depth (by assumption) (by decide) | exact rm_rec (by assumption) | exact rm_rec0 (by assumption)
  k_with "ktr_units" => exact rm_units (by assumption) (by decide)
  k_with "units_room" => exact rm_line (by assumption)
  k_with "MUL" => first | exact IntMulOk.of_left (by with_reducible assumption) | exact IntMulOk.of_right (by with_reducible assumption) | exact IntMulOk.of_right (times_b (by with_reducible assumption) (by with_reducible assumption)) | exact IntMulOk.of_left two_b | exact IntMulOk.of_left (v_b (by with_reducible assumption) (by with_reducible assumption)) | mul_fits
  k_with "k_all" => assumption
  k_with "setAttr ref" => (k_here; k_dflt (refine' set_dict ?k1 ?k2 ?k3 ?k4 ?k5 ?k6 ?k7 ?k8 ?k9 ?k10 ?k11 ?k12 ?k13 ?_; (case k1 => k_asm); (case k2 => k_asm); (case k3 => k_asm); (case k4 => k_inst); (case k5 => exact rfl); (case k6 => k_is); (case k7 => k_is); (case k8 => k_is); (case k9 => k_is); (case k10 => k_get); (case k11 => k_put); (case k12 => k_upd); (case k13 => exact Nat.le_of_ble_eq_true rfl); k_whole; intro h' F' N'; (try k_sweep)))
  revert X
  k_fill
  intro X
  k_dflt (refine' call_cls ?k1 ?k2 ?k3 ?k4 ?k5 ?k6 ?_; (case k1 => k_asm); (case k2 => k_asm); (case k3 => k_asm); (case k4 => k_is); (case k5 => k_is); (case k6 => k_is); k_whole)
  intro x' d' h' F' N' l1 l2
  k_dflt (refine' code_def (binds := [(PySem.Str.ofString "self", Value.ref x'), (PySem.Str.ofString "width", Value.int wd tw), (PySem.Str.ofString "registers", .int 250 211), (PySem.Str.ofString "upvalues", .int 60 212), (PySem.Str.ofString "local_names", .int 200 213), (PySem.Str.ofString "ccalls", .int 40 214), (PySem.Str.ofString "frames", .int 200 215), (PySem.Str.ofString "stack", .int 2000 216), (PySem.Str.ofString "flush", .int 50 217), (PySem.Str.ofString "steps", .int 1000000000 218), (PySem.Str.ofString "text", .int 1000000 219)]) ?k1 ?k2 ?k3 ?k4 ?k5 ?kA ?kF ?kK ?k6 ?k7 ?k8 ?k9 ?kB ?_ ?c2 ?c3 ?c4 ?c5; (case kA => exact rfl); (case kF => exact rfl); (case kK => assumption); (case k1 => k_asm); (case k2 => k_asm); (case k3 => k_asm); (case k4 => k_asm); (case k5 => k_asm); (case k6 => k_is); (case k7 => k_is); (case k8 => ktr_room); (case k9 => first | exact BindsTo.of_eq rfl | exact binds_K (by k_in) rfl (by k_is) rfl rfl rfl); (case c5 => decide); (case kB => exact locs rfl); (case c2 => exact rfl); (case c3 => exact rfl); (case c4 => exact rfl); k_whole; intro g' L' h' FG' F' N' B' X' T'; (try dsimp only); (try k_fold))
  refine any_toks fun tk0 => ?_
  k_lt2 l2
  have hne : ∀ p ∈ news, p.1 ≠ d' := fun p hp => Nat.ne_of_lt (l1 p hp)
  k_steps
  all_goals exact h _ _ _ _ _ _ _ (by k_asm) (by k_asm) l1 l2 (by k_get)

section
variable {w : World} {f : Addr} {dd : Nat} {news : Led} {vs : List Value} {x y : Int} {ns : List Int}
  {mean : ExcName → Option Value} {mg mb : PySem.Str → Option Value} {dp un : Nat} {gd : Option (List Code)} {cn : PySem.Str} {cs : Scope} {a : Addr} {ccd : Value} {cl : List (PySem.Str × Addr)} {outer : List Env} {A₀ : Around} {base h₀ : Heap} {L : Addr} {m : PySem.Str → Option Value} {s : Shared} {Q E : Value → Shared → Prop}
theorem Con.useP (C : Con w f dd news vs (NewPair news x y)) (B : Below A₀ base outer h₀) (F : Fr h₀ L s.heap m) (X : (hd.heap_39 w.params).In h₀) (N : News h₀ L s.heap news) (T : Top hd.view_39 (looseW hd.view_39 []) mean mg mb h₀) (hk : cs.kind = .function)
    (hd : dp + dd ≤ 900) (hu : un + 8 * dd ≤ 500)
    (h : ∀ (d : Addr) (tx ty : Tok) (n : Nat) (h' : Heap) (tk' : Nat), Fr h₀ L h' m → News h₀ L h' ((d, ({ cls := .type "tuple", data := .seq #[.int x tx, .int y ty] n } : Obj)) :: news) → (∀ p ∈ news, p.1 < d) → Q (.ref d) { s with heap := h', toks := tk' }) :
    wpAny (model PySem.Challenge.rw_sm0055_01.row.prog w) (ktrTop dp un gd cn cs L a ccd cl outer) (PySem.call (.ref f) vs) Q E s :=
  C.use B F X N T hk hd hu fun r l h' tk' F' N' P => by
    obtain ⟨d, tx, ty, n, rfl, rfl, hl⟩ := P
    exact h d tx ty n h' tk' F' N' hl
theorem Con.useL (C : Con w f dd news vs (NewInts news ns)) (B : Below A₀ base outer h₀) (F : Fr h₀ L s.heap m) (X : (hd.heap_39 w.params).In h₀) (N : News h₀ L s.heap news) (T : Top hd.view_39 (looseW hd.view_39 []) mean mg mb h₀) (hk : cs.kind = .function)
    (hd : dp + dd ≤ 900) (hu : un + 8 * dd ≤ 500)
    (h : ∀ (d : Addr) (vs : List Value) (n : Nat) (h' : Heap) (tk' : Nat), Fr h₀ L h' m → News h₀ L h' ((d, listOf vs.toArray n) :: news) → (∀ p ∈ news, p.1 < d) → IntsAre vs ns → Q (.ref d) { s with heap := h', toks := tk' }) :
    wpAny (model PySem.Challenge.rw_sm0055_01.row.prog w) (ktrTop dp un gd cn cs L a ccd cl outer) (PySem.call (.ref f) vs) Q E s :=
  C.use B F X N T hk hd hu fun r l h' tk' F' N' P => by
    obtain ⟨d, vs, n, rfl, rfl, hi, hl⟩ := P
    exact h d vs n h' tk' F' N' hl hi
end

theorem drop_all {h₀ h : Heap} {L : Addr} {p q : Addr × Obj} {l : Led} (N : News h₀ L h (q :: p :: l)) : News h₀ L h l := fun r hr => N _ (.tail _ (.tail _ hr))

set_option maxRecDepth 100000 in
set_option maxHeartbeats 2000000 in
theorem textp_c (w : World) (news : Led) (T : Array UInt8) (ks : List Int) (wd : Int) (tb t0 tw : Tok) (x dx : Addr) (es : List DictEntry) (n : Nat) (hx : (x, instObj 53 dx) ∈ news) (hdx : (dx, dictOf es n) ∈ news) (hw : getL (PySem.Str.ofString "width") es = some (some (.int wd tw)))
    (hw1 : 8 ≤ wd) (hw2 : wd ≤ 64) (hk : KBw.bInts T = ks) (v e : Int) (he : e = ks.length) (hz1 : 1 ≤ ks.length) (hz : ks.length ≤ 2) (hd : 48 ≤ ks.getD (Int.toNat 0) 0 ∧ ks.getD (Int.toNat 0) 0 ≤ 57)
    (hread : ∀ (news : Led) (t tt tw : Tok), Con w 92 2 news [.bytes T tb, .int 0 t, .int 10 tt, .int wd tw] (NewPair news v e)) :
    Con w 113 4 news [.bytes T tb, .int 0 t0, .ref x] (fun r l => (∃ t, r = .int (wrapf v wd) t) ∧ l = news) := by
  w_top off
  k_with_none
  k_with "PU" => (first | with_reducible exact Pu.const | ((with_reducible show Pu _ _ _ (Expr.BinOp _ Operator.Add _ _) _); refine' Pu.add ?a ?b; (case a => walk_at "PU"); (case b => walk_at "PU")) | ((with_reducible show Pu _ _ _ (Expr.BinOp _ Operator.Sub _ _) _); refine' Pu.sub ?a ?b; (case a => walk_at "PU"); (case b => walk_at "PU")) | ((with_reducible show Pu _ _ _ (Expr.BinOp _ Operator.Mult _ _) _); refine' Pu.mul ?a ?b ?m; (case a => walk_at "PU"); (case b => walk_at "PU"); (case m => walk_at "MUL")) | (refine' Pu.loc ?F ?v ?k ?x ?d; (case F => k_asm); (case k => rfl); (case x => rfl); (case v => rfl); (case d => decide)) | (refine' Pu.ref ?F ?v ?k ?x ?d; (case F => k_asm); (case k => rfl); (case x => rfl); (case v => rfl); (case d => decide)) | (refine' Pu.cell ?N ?c ?m ?o ?k ?x ?d; (case k => rfl); (case x => rfl); (case N => k_asm); (case c => rfl); (case m => k_mem); (case o => k_asm); (case d => decide)) | (refine' Pu.cref ?N ?c ?m ?o ?k ?x ?d; (case k => rfl); (case x => rfl); (case N => k_asm); (case c => rfl); (case m => k_mem); (case o => k_asm); (case d => decide)))
  k_with "eval Call" => (k_here; (with_reducible show wpAny _ _ (eval (Expr.Call (Expr.Name _ _) [_, _] [] _) _) _ _ _); k_dflt (refine' call2 ?F ?hs ?X ?T ?ef ?kf ?hk ?hx ?hd ?p1 ?p2 ?_; (case F => k_asm); (case hs => exact rfl); (case X => k_asm); (case T => k_asm); (case hk => rfl); (case hx => rfl); (case hd => decide); (case ef => k_is); (case kf => k_is); (case p1 => walk_at "PU"); (case p2 => walk_at "PU")); intro t1 t2 tk; (try dsimp only))
  k_with "eval Call" => (k_here; (with_reducible show wpAny _ _ (eval (Expr.Call (Expr.Name _ _) [_, _, _, _] [] _) _) _ _ _); k_dflt (refine' call4 ?F ?hs ?X ?T ?ef ?kf ?hk ?hx ?hd ?p1 ?p2 ?p3 ?p4 ?_; (case F => k_asm); (case hs => exact rfl); (case X => k_asm); (case T => k_asm); (case hk => rfl); (case hx => rfl); (case hd => decide); (case ef => k_is); (case kf => k_is); (case p1 => walk_at "PU"); (case p2 => walk_at "PU"); (case p3 => walk_at "PU"); (case p4 => walk_at "PU")); intro t1 t2 t3 t4 tk; (try dsimp only))
  k_with "eval Call" => (k_here; (with_reducible show wpAny _ _ (eval (Expr.Call (Expr.Name _ _) [_, _, _, _, _] [] _) _) _ _ _); k_dflt (refine' call5 ?F ?hs ?X ?T ?ef ?kf ?hk ?hx ?hd ?p1 ?p2 ?p3 ?p4 ?p5 ?_; (case F => k_asm); (case hs => exact rfl); (case X => k_asm); (case T => k_asm); (case hk => rfl); (case hx => rfl); (case hd => decide); (case ef => k_is); (case kf => k_is); (case p1 => walk_at "PU"); (case p2 => walk_at "PU"); (case p3 => walk_at "PU"); (case p4 => walk_at "PU"); (case p5 => walk_at "PU")); intro t1 t2 t3 t4 t5 tk; (try dsimp only))
  k_with "eval Call" => (k_here; (with_reducible show wpAny _ _ (eval (Expr.Call (Expr.Name _ _) [_, _, _, _, _, _] [] _) _) _ _ _); k_dflt (refine' call6 ?F ?hs ?X ?T ?ef ?kf ?hk ?hx ?hd ?p1 ?p2 ?p3 ?p4 ?p5 ?p6 ?_; (case F => k_asm); (case hs => exact rfl); (case X => k_asm); (case T => k_asm); (case hk => rfl); (case hx => rfl); (case hd => decide); (case ef => k_is); (case kf => k_is); (case p1 => walk_at "PU"); (case p2 => walk_at "PU"); (case p3 => walk_at "PU"); (case p4 => walk_at "PU"); (case p5 => walk_at "PU"); (case p6 => walk_at "PU")); intro t1 t2 t3 t4 t5 t6 tk; (try dsimp only))
  k_with "LT" => ((repeat (first | (with_reducible refine as16 ?_; intro hz1 hz2 hz3 hz4 hz5 hz6 hz7 hz8 hz9 hz10 hz11 hz12 hz13 hz14 hz15 hz16) | (with_reducible refine as8 ?_; intro hz1 hz2 hz3 hz4 hz5 hz6 hz7 hz8) | (with_reducible refine as4 ?_; intro hz1 hz2 hz3 hz4) | (with_reducible refine as2 ?_; intro hz1 hz2) | (with_reducible refine as1 ?_; intro hz1))); intro hz0; (try (rename (∀ p ∈ ([] : List (Addr × Obj)), _) => hz0'; clear hz0')))
  k_with "PK" => with_reducible first | exact And.left (by assumption) | exact And.right (by assumption) | exact And.left (And.right (by assumption)) | exact And.right (And.right (by assumption)) | exact And.left (And.right (And.right (by assumption))) | exact And.right (And.right (And.right (by assumption))) | exact And.left (And.right (And.right (And.right (by assumption)))) | exact And.right (And.right (And.right (And.right (by assumption)))) | exact And.left (And.right (And.right (And.right (And.right (by assumption))))) | exact And.right (And.right (And.right (And.right (And.right (by assumption))))) | exact And.left (And.right (And.right (And.right (And.right (And.right (by assumption)))))) | exact And.right (And.right (And.right (And.right (And.right (And.right (by assumption)))))) | exact And.left (And.right (And.right (And.right (And.right (And.right (And.right (by assumption))))))) | exact And.right (And.right (And.right (And.right (And.right (And.right (And.right (by assumption))))))) | exact And.left (And.right (And.right (And.right (And.right (And.right (And.right (And.right (by assumption)))))))) | exact And.right (And.right (And.right (And.right (And.right (And.right (And.right (And.right (by assumption)))))))) | exact And.left (And.right (And.right (And.right (And.right (And.right (And.right (And.right (And.right (by assumption))))))))) | exact And.right (And.right (And.right (And.right (And.right (And.right (And.right (And.right (And.right (by assumption))))))))) | exact And.left (And.right (And.right (And.right (And.right (And.right (And.right (And.right (And.right (And.right (by assumption)))))))))) | exact And.right (And.right (And.right (And.right (And.right (And.right (And.right (And.right (And.right (And.right (by assumption)))))))))) | exact And.left (And.right (And.right (And.right (And.right (And.right (And.right (And.right (And.right (And.right (And.right (by assumption))))))))))) | exact And.right (And.right (And.right (And.right (And.right (And.right (And.right (And.right (And.right (And.right (And.right (by assumption))))))))))) | exact And.left (And.right (And.right (And.right (And.right (And.right (And.right (And.right (And.right (And.right (And.right (And.right (by assumption)))))))))))) | exact And.right (And.right (And.right (And.right (And.right (And.right (And.right (And.right (And.right (And.right (And.right (And.right (by assumption)))))))))))) | exact And.left (And.right (And.right (And.right (And.right (And.right (And.right (And.right (And.right (And.right (And.right (And.right (And.right (by assumption))))))))))))) | exact And.right (And.right (And.right (And.right (And.right (And.right (And.right (And.right (And.right (And.right (And.right (And.right (And.right (by assumption)))))))))))))
  k_with "k_ne" => (refine neN ?_; (try dsimp only); first | with_reducible (first | assumption | exact ne_gt (by assumption) | exact ne_lt (by assumption) | exact Ne.symm (by assumption) | exact nq (by assumption) | exact Ne.symm (nq (by assumption)) | exact ne_gt s_1 | exact ne_lt s_1 | exact ne_gt (lt_s s_1) | exact ne_lt (lt_s s_1) | exact ne_gt (lt_s (lt_s s_1)) | exact ne_lt (lt_s (lt_s s_1)) | exact ne_gt (lt_s (lt_s (lt_s s_1))) | exact ne_lt (lt_s (lt_s (lt_s s_1))) | exact ne_gt (lt_s (lt_s (lt_s (lt_s s_1)))) | exact ne_lt (lt_s (lt_s (lt_s (lt_s s_1)))) | exact ne_gt (lt_s (lt_s (lt_s (lt_s (lt_s s_1))))) | exact ne_lt (lt_s (lt_s (lt_s (lt_s (lt_s s_1))))) | exact ne_gt (lt_s (lt_s (lt_s (lt_s (lt_s (lt_s s_1)))))) | exact ne_lt (lt_s (lt_s (lt_s (lt_s (lt_s (lt_s s_1)))))) | exact ne_gt (lt_s (by assumption)) | exact ne_lt (lt_s (by assumption)) | exact ne_gt (lt_s (lt_s (by assumption))) | exact ne_lt (lt_s (lt_s (by assumption))) | exact ne_gt (lt_s (lt_s (lt_s (by assumption)))) | exact ne_lt (lt_s (lt_s (lt_s (by assumption)))) | exact ne_gt (lt_s (lt_s (lt_s (lt_s (by assumption))))) | exact ne_lt (lt_s (lt_s (lt_s (lt_s (by assumption))))) | exact ne_gt (lt_s (lt_s (lt_s (lt_s (lt_s (by assumption)))))) | exact ne_lt (lt_s (lt_s (lt_s (lt_s (lt_s (by assumption)))))) | exact ne_gt (lt_s (lt_s (lt_s (lt_s (lt_s (lt_s (by assumption))))))) | exact ne_lt (lt_s (lt_s (lt_s (lt_s (lt_s (lt_s (by assumption))))))) | exact ne_gt (lt_s (lt_s (lt_s (lt_s (lt_s (lt_s (lt_s (by assumption)))))))) | exact ne_lt (lt_s (lt_s (lt_s (lt_s (lt_s (lt_s (lt_s (by assumption))))))))) | with_reducible exact Nat.ne_of_lt (by assumption) | with_reducible exact Nat.ne_of_gt (by assumption) | walk_at "PK" | (refine Ne.symm ?_; walk_at "PK") | omega)
  k_with "ktr_room" => first | exact rm_depth (by assumption) (by decide) | exact rm_rec (by assumption) | exact rm_rec0 (by assumption)
  k_with "ktr_units" => exact rm_units (by assumption) (by decide)
  k_with "units_room" => exact rm_line (by assumption)
  k_with "MUL" => first | exact IntMulOk.of_left (by with_reducible assumption) | exact IntMulOk.of_right (by with_reducible assumption) | exact IntMulOk.of_right (times_b (by with_reducible assumption) (by with_reducible assumption)) | exact IntMulOk.of_left two_b | exact IntMulOk.of_left (v_b (by with_reducible assumption) (by with_reducible assumption)) | mul_fits
  k_with "CON IN" => ( (try unfold ConV); unfold Con; k_fill; intros; refine wpAny_call ?_; k_dflt ktr_enter)
  k_with "CON USE" => ( (case k1 => k_asm); (case k2 => k_asm); (case k3 => k_asm); (case k4 => k_asm); (case k5 => k_asm); (case kK => first | exact rfl | assumption); (case kd => ktr_room); (case ku => ktr_units))
  k_with "CON ON" => (intro t9 h9 tk9 F9 N9; (try dsimp only); (try k_sweep); (try k_fold))
  k_with "CON ONP" => (intro d9 t9 u9 n9 h9 tk9 F9 N9 l9; (try k_lt l9); (try dsimp only); (try k_sweep); (try k_fold))
  k_with "call ref" => (k_here; refine' ConV.use (wrap_c _ _ _ _ _ ?p1 ?p2) ?k1 ?k2 ?k3 ?k4 ?k5 ?kK ?kd ?ku ?_; (case p1 => omega); (case p2 => omega); walk_at "CON USE"; walk_at "CON ON")
  k_with "call ref" => (k_here; refine' ConV.use (skip_c _ _ _ _ _ _ ?p1 ?p2 ?p3 ?p4 ?p5) ?k1 ?k2 ?k3 ?k4 ?k5 ?kK ?kd ?ku ?_; (case p1 => assumption); (case p2 => omega); (case p3 => omega); (case p4 => omega); (case p5 => omega); walk_at "CON USE"; walk_at "CON ON")
  k_with "compareOp In int bytes" => (k_here; refine' in_bytesE ?h0 ?h1 (signs_no ?h2 ?h3) ?_; (case h0 => omega); (case h1 => omega); (case h2 => omega); (case h3 => omega))
  k_with "compareOp In int bytes" => (k_here; refine' in_bytesE ?h0 ?h1 (signs_yes ?h2) ?_; (case h0 => omega); (case h1 => omega); (case h2 => omega))
  k_with "getAttr ref" => (k_here; k_dflt (refine' get_own ?k1 ?k2 ?k3 ?k4 ?k5 ?k6 ?k7 ?k8 ?k9 ?_; (case k1 => k_asm); (case k2 => k_asm); (case k3 => (refine' InstAt.of_news ?N ?h1 ?h2; (case N => k_asm); (case h1 => first | assumption | k_mem); (case h2 => first | assumption | k_mem))); (case k4 => k_is); (case k5 => k_is); (case k6 => k_is); (case k7 => k_is); (case k8 => assumption); (case k9 => k_handed); k_whole))
  k_with "k_mem" => first | assumption | (refine' List.Mem.tail _ ?_; assumption)
  walk_at "CON IN"
  rename (∀ (_ : Value) (_ : Led) (_ : Heap) (_ : Nat), _) => hret
  k_with "call ref" => (k_here; refine' Con.useP (hread _ _ _ _) ?k1 ?k2 ?k3 ?k4 ?k5 ?kK ?kd ?ku ?_; walk_at "CON USE"; walk_at "CON ONP")
  refine gen_q ?_
  intro Qg hQg
  refine gen_a ?_
  intro Ag
  k_steps
  all_goals (try (refine hQg _ _ ?_; (try dsimp only)))
  k_steps
  all_goals first
    | (exfalso; lia)
    | exact hret _ _ _ _ (by k_asm) (drop_all (by k_asm)) ⟨⟨_, rfl⟩, rfl⟩
set_option maxRecDepth 100000 in
set_option maxHeartbeats 2000000 in
theorem textm_c (w : World) (news : Led) (T : Array UInt8) (ks : List Int) (wd : Int) (tb t0 tw : Tok) (x dx : Addr) (es : List DictEntry) (n : Nat) (hx : (x, instObj 53 dx) ∈ news) (hdx : (dx, dictOf es n) ∈ news) (hw : getL (PySem.Str.ofString "width") es = some (some (.int wd tw)))
    (hw1 : 8 ≤ wd) (hw2 : wd ≤ 64) (hk : KBw.bInts T = ks) (v e : Int) (he : e = ks.length) (hz1 : 2 ≤ ks.length) (hz : ks.length ≤ 3) (hs : ks.getD (Int.toNat 0) 0 = 45) (hd : 48 ≤ ks.getD (Int.toNat (0 + 1)) 0 ∧ ks.getD (Int.toNat (0 + 1)) 0 ≤ 57)
    (hread : ∀ (news : Led) (t tt tw : Tok), Con w 92 2 news [.bytes T tb, .int (0 + 1) t, .int 10 tt, .int wd tw] (NewPair news v e)) :
    Con w 113 4 news [.bytes T tb, .int 0 t0, .ref x] (fun r l => (∃ t, r = .int (wrapf (-v) wd) t) ∧ l = news) := by
  w_top off
  k_with_none
  k_with "PU" => (first | with_reducible exact Pu.const | ((with_reducible show Pu _ _ _ (Expr.BinOp _ Operator.Add _ _) _); refine' Pu.add ?a ?b; (case a => walk_at "PU"); (case b => walk_at "PU")) | ((with_reducible show Pu _ _ _ (Expr.BinOp _ Operator.Sub _ _) _); refine' Pu.sub ?a ?b; (case a => walk_at "PU"); (case b => walk_at "PU")) | ((with_reducible show Pu _ _ _ (Expr.BinOp _ Operator.Mult _ _) _); refine' Pu.mul ?a ?b ?m; (case a => walk_at "PU"); (case b => walk_at "PU"); (case m => walk_at "MUL")) | (refine' Pu.loc ?F ?v ?k ?x ?d; (case F => k_asm); (case k => rfl); (case x => rfl); (case v => rfl); (case d => decide)) | (refine' Pu.ref ?F ?v ?k ?x ?d; (case F => k_asm); (case k => rfl); (case x => rfl); (case v => rfl); (case d => decide)) | (refine' Pu.cell ?N ?c ?m ?o ?k ?x ?d; (case k => rfl); (case x => rfl); (case N => k_asm); (case c => rfl); (case m => k_mem); (case o => k_asm); (case d => decide)) | (refine' Pu.cref ?N ?c ?m ?o ?k ?x ?d; (case k => rfl); (case x => rfl); (case N => k_asm); (case c => rfl); (case m => k_mem); (case o => k_asm); (case d => decide)))
  k_with "eval Call" => (k_here; (with_reducible show wpAny _ _ (eval (Expr.Call (Expr.Name _ _) [_, _] [] _) _) _ _ _); k_dflt (refine' call2 ?F ?hs ?X ?T ?ef ?kf ?hk ?hx ?hd ?p1 ?p2 ?_; (case F => k_asm); (case hs => exact rfl); (case X => k_asm); (case T => k_asm); (case hk => rfl); (case hx => rfl); (case hd => decide); (case ef => k_is); (case kf => k_is); (case p1 => walk_at "PU"); (case p2 => walk_at "PU")); intro t1 t2 tk; (try dsimp only))
  k_with "eval Call" => (k_here; (with_reducible show wpAny _ _ (eval (Expr.Call (Expr.Name _ _) [_, _, _, _] [] _) _) _ _ _); k_dflt (refine' call4 ?F ?hs ?X ?T ?ef ?kf ?hk ?hx ?hd ?p1 ?p2 ?p3 ?p4 ?_; (case F => k_asm); (case hs => exact rfl); (case X => k_asm); (case T => k_asm); (case hk => rfl); (case hx => rfl); (case hd => decide); (case ef => k_is); (case kf => k_is); (case p1 => walk_at "PU"); (case p2 => walk_at "PU"); (case p3 => walk_at "PU"); (case p4 => walk_at "PU")); intro t1 t2 t3 t4 tk; (try dsimp only))
  k_with "eval Call" => (k_here; (with_reducible show wpAny _ _ (eval (Expr.Call (Expr.Name _ _) [_, _, _, _, _] [] _) _) _ _ _); k_dflt (refine' call5 ?F ?hs ?X ?T ?ef ?kf ?hk ?hx ?hd ?p1 ?p2 ?p3 ?p4 ?p5 ?_; (case F => k_asm); (case hs => exact rfl); (case X => k_asm); (case T => k_asm); (case hk => rfl); (case hx => rfl); (case hd => decide); (case ef => k_is); (case kf => k_is); (case p1 => walk_at "PU"); (case p2 => walk_at "PU"); (case p3 => walk_at "PU"); (case p4 => walk_at "PU"); (case p5 => walk_at "PU")); intro t1 t2 t3 t4 t5 tk; (try dsimp only))
  k_with "eval Call" => (k_here; (with_reducible show wpAny _ _ (eval (Expr.Call (Expr.Name _ _) [_, _, _, _, _, _] [] _) _) _ _ _); k_dflt (refine' call6 ?F ?hs ?X ?T ?ef ?kf ?hk ?hx ?hd ?p1 ?p2 ?p3 ?p4 ?p5 ?p6 ?_; (case F => k_asm); (case hs => exact rfl); (case X => k_asm); (case T => k_asm); (case hk => rfl); (case hx => rfl); (case hd => decide); (case ef => k_is); (case kf => k_is); (case p1 => walk_at "PU"); (case p2 => walk_at "PU"); (case p3 => walk_at "PU"); (case p4 => walk_at "PU"); (case p5 => walk_at "PU"); (case p6 => walk_at "PU")); intro t1 t2 t3 t4 t5 t6 tk; (try dsimp only))
  k_with "LT" => ((repeat (first | (with_reducible refine as16 ?_; intro hz1 hz2 hz3 hz4 hz5 hz6 hz7 hz8 hz9 hz10 hz11 hz12 hz13 hz14 hz15 hz16) | (with_reducible refine as8 ?_; intro hz1 hz2 hz3 hz4 hz5 hz6 hz7 hz8) | (with_reducible refine as4 ?_; intro hz1 hz2 hz3 hz4) | (with_reducible refine as2 ?_; intro hz1 hz2) | (with_reducible refine as1 ?_; intro hz1))); intro hz0; (try (rename (∀ p ∈ ([] : List (Addr × Obj)), _) => hz0'; clear hz0')))
  k_with "PK" => with_reducible first | exact And.left (by assumption) | exact And.right (by assumption) | exact And.left (And.right (by assumption)) | exact And.right (And.right (by assumption)) | exact And.left (And.right (And.right (by assumption))) | exact And.right (And.right (And.right (by assumption))) | exact And.left (And.right (And.right (And.right (by assumption)))) | exact And.right (And.right (And.right (And.right (by assumption)))) | exact And.left (And.right (And.right (And.right (And.right (by assumption))))) | exact And.right (And.right (And.right (And.right (And.right (by assumption))))) | exact And.left (And.right (And.right (And.right (And.right (And.right (by assumption)))))) | exact And.right (And.right (And.right (And.right (And.right (And.right (by assumption)))))) | exact And.left (And.right (And.right (And.right (And.right (And.right (And.right (by assumption))))))) | exact And.right (And.right (And.right (And.right (And.right (And.right (And.right (by assumption))))))) | exact And.left (And.right (And.right (And.right (And.right (And.right (And.right (And.right (by assumption)))))))) | exact And.right (And.right (And.right (And.right (And.right (And.right (And.right (And.right (by assumption)))))))) | exact And.left (And.right (And.right (And.right (And.right (And.right (And.right (And.right (And.right (by assumption))))))))) | exact And.right (And.right (And.right (And.right (And.right (And.right (And.right (And.right (And.right (by assumption))))))))) | exact And.left (And.right (And.right (And.right (And.right (And.right (And.right (And.right (And.right (And.right (by assumption)))))))))) | exact And.right (And.right (And.right (And.right (And.right (And.right (And.right (And.right (And.right (And.right (by assumption)))))))))) | exact And.left (And.right (And.right (And.right (And.right (And.right (And.right (And.right (And.right (And.right (And.right (by assumption))))))))))) | exact And.right (And.right (And.right (And.right (And.right (And.right (And.right (And.right (And.right (And.right (And.right (by assumption))))))))))) | exact And.left (And.right (And.right (And.right (And.right (And.right (And.right (And.right (And.right (And.right (And.right (And.right (by assumption)))))))))))) | exact And.right (And.right (And.right (And.right (And.right (And.right (And.right (And.right (And.right (And.right (And.right (And.right (by assumption)))))))))))) | exact And.left (And.right (And.right (And.right (And.right (And.right (And.right (And.right (And.right (And.right (And.right (And.right (And.right (by assumption))))))))))))) | exact And.right (And.right (And.right (And.right (And.right (And.right (And.right (And.right (And.right (And.right (And.right (And.right (And.right (by assumption)))))))))))))
  k_with "k_ne" => (refine neN ?_; (try dsimp only); first | with_reducible (first | assumption | exact ne_gt (by assumption) | exact ne_lt (by assumption) | exact Ne.symm (by assumption) | exact nq (by assumption) | exact Ne.symm (nq (by assumption)) | exact ne_gt s_1 | exact ne_lt s_1 | exact ne_gt (lt_s s_1) | exact ne_lt (lt_s s_1) | exact ne_gt (lt_s (lt_s s_1)) | exact ne_lt (lt_s (lt_s s_1)) | exact ne_gt (lt_s (lt_s (lt_s s_1))) | exact ne_lt (lt_s (lt_s (lt_s s_1))) | exact ne_gt (lt_s (lt_s (lt_s (lt_s s_1)))) | exact ne_lt (lt_s (lt_s (lt_s (lt_s s_1)))) | exact ne_gt (lt_s (lt_s (lt_s (lt_s (lt_s s_1))))) | exact ne_lt (lt_s (lt_s (lt_s (lt_s (lt_s s_1))))) | exact ne_gt (lt_s (lt_s (lt_s (lt_s (lt_s (lt_s s_1)))))) | exact ne_lt (lt_s (lt_s (lt_s (lt_s (lt_s (lt_s s_1)))))) | exact ne_gt (lt_s (by assumption)) | exact ne_lt (lt_s (by assumption)) | exact ne_gt (lt_s (lt_s (by assumption))) | exact ne_lt (lt_s (lt_s (by assumption))) | exact ne_gt (lt_s (lt_s (lt_s (by assumption)))) | exact ne_lt (lt_s (lt_s (lt_s (by assumption)))) | exact ne_gt (lt_s (lt_s (lt_s (lt_s (by assumption))))) | exact ne_lt (lt_s (lt_s (lt_s (lt_s (by assumption))))) | exact ne_gt (lt_s (lt_s (lt_s (lt_s (lt_s (by assumption)))))) | exact ne_lt (lt_s (lt_s (lt_s (lt_s (lt_s (by assumption)))))) | exact ne_gt (lt_s (lt_s (lt_s (lt_s (lt_s (lt_s (by assumption))))))) | exact ne_lt (lt_s (lt_s (lt_s (lt_s (lt_s (lt_s (by assumption))))))) | exact ne_gt (lt_s (lt_s (lt_s (lt_s (lt_s (lt_s (lt_s (by assumption)))))))) | exact ne_lt (lt_s (lt_s (lt_s (lt_s (lt_s (lt_s (lt_s (by assumption))))))))) | with_reducible exact Nat.ne_of_lt (by assumption) | with_reducible exact Nat.ne_of_gt (by assumption) | walk_at "PK" | (refine Ne.symm ?_; walk_at "PK") | omega)
  k_with "ktr_room" => first | exact rm_depth (by assumption) (by decide) | exact rm_rec (by assumption) | exact rm_rec0 (by assumption)
  k_with "ktr_units" => exact rm_units (by assumption) (by decide)
  k_with "units_room" => exact rm_line (by assumption)
  k_with "MUL" => first | exact IntMulOk.of_left (by with_reducible assumption) | exact IntMulOk.of_right (by with_reducible assumption) | exact IntMulOk.of_right (times_b (by with_reducible assumption) (by with_reducible assumption)) | exact IntMulOk.of_left two_b | exact IntMulOk.of_left (v_b (by with_reducible assumption) (by with_reducible assumption)) | mul_fits
  k_with "CON IN" => ( (try unfold ConV); unfold Con; k_fill; intros; refine wpAny_call ?_; k_dflt ktr_enter)
  k_with "CON USE" => ( (case k1 => k_asm); (case k2 => k_asm); (case k3 => k_asm); (case k4 => k_asm); (case k5 => k_asm); (case kK => first | exact rfl | assumption); (case kd => ktr_room); (case ku => ktr_units))
  k_with "CON ON" => (intro t9 h9 tk9 F9 N9; (try dsimp only); (try k_sweep); (try k_fold))
  k_with "CON ONP" => (intro d9 t9 u9 n9 h9 tk9 F9 N9 l9; (try k_lt l9); (try dsimp only); (try k_sweep); (try k_fold))
  k_with "call ref" => (k_here; refine' ConV.use (wrap_c _ _ _ _ _ ?p1 ?p2) ?k1 ?k2 ?k3 ?k4 ?k5 ?kK ?kd ?ku ?_; (case p1 => omega); (case p2 => omega); walk_at "CON USE"; walk_at "CON ON")
  k_with "call ref" => (k_here; refine' ConV.use (skip_c _ _ _ _ _ _ ?p1 ?p2 ?p3 ?p4 ?p5) ?k1 ?k2 ?k3 ?k4 ?k5 ?kK ?kd ?ku ?_; (case p1 => assumption); (case p2 => omega); (case p3 => omega); (case p4 => omega); (case p5 => omega); walk_at "CON USE"; walk_at "CON ON")
  k_with "compareOp In int bytes" => (k_here; refine' in_bytesE ?h0 ?h1 (signs_no ?h2 ?h3) ?_; (case h0 => omega); (case h1 => omega); (case h2 => omega); (case h3 => omega))
  k_with "compareOp In int bytes" => (k_here; refine' in_bytesE ?h0 ?h1 (signs_yes ?h2) ?_; (case h0 => omega); (case h1 => omega); (case h2 => omega))
  k_with "getAttr ref" => (k_here; k_dflt (refine' get_own ?k1 ?k2 ?k3 ?k4 ?k5 ?k6 ?k7 ?k8 ?k9 ?_; (case k1 => k_asm); (case k2 => k_asm); (case k3 => (refine' InstAt.of_news ?N ?h1 ?h2; (case N => k_asm); (case h1 => first | assumption | k_mem); (case h2 => first | assumption | k_mem))); (case k4 => k_is); (case k5 => k_is); (case k6 => k_is); (case k7 => k_is); (case k8 => assumption); (case k9 => k_handed); k_whole))
  k_with "k_mem" => first | assumption | (refine' List.Mem.tail _ ?_; assumption)
  walk_at "CON IN"
  rename (∀ (_ : Value) (_ : Led) (_ : Heap) (_ : Nat), _) => hret
  k_with "call ref" => (k_here; refine' Con.useP (hread _ _ _ _) ?k1 ?k2 ?k3 ?k4 ?k5 ?kK ?kd ?ku ?_; walk_at "CON USE"; walk_at "CON ONP")
  refine gen_q ?_
  intro Qg hQg
  refine gen_a ?_
  intro Ag
  k_steps
  all_goals (try (refine hQg _ _ ?_; (try dsimp only)))
  k_steps
  all_goals first
    | (exfalso; lia)
    | exact hret _ _ _ _ (by k_asm) (drop_all (by k_asm)) ⟨⟨_, rfl⟩, rfl⟩
theorem text1_c (w : World) (news : Led) (T : Array UInt8) (ks : List Int) (wd : Int) (tb t0 tw : Tok) (x dx : Addr) (es : List DictEntry) (n : Nat) (hx : (x, instObj 53 dx) ∈ news) (hdx : (dx, dictOf es n) ∈ news) (hw : getL (PySem.Str.ofString "width") es = some (some (.int wd tw)))
    (hw1 : 8 ≤ wd) (hw2 : wd ≤ 64) (hk : KBw.bInts T = ks) (hz : ks.length = 1) (hd : 48 ≤ ks.getD (Int.toNat 0) 0 ∧ ks.getD (Int.toNat 0) 0 ≤ 57) :
    Con w 113 4 news [.bytes T tb, .int 0 t0, .ref x] (fun r l => (∃ t, r = .int (wrapf (ks.getD (Int.toNat 0) 0 - 48) wd) t) ∧ l = news) :=
  textp_c w news T ks wd tb t0 tw x dx es n hx hdx hw hw1 hw2 hk _ _ (by lia) (by lia) (by lia) hd fun news t tt tw => read1_c w news T ks 0 wd tb t tt tw hk (by decide) (by decide) (by lia) hd hw1 hw2
theorem text2_c (w : World) (news : Led) (T : Array UInt8) (ks : List Int) (wd : Int) (tb t0 tw : Tok) (x dx : Addr) (es : List DictEntry) (n : Nat) (hx : (x, instObj 53 dx) ∈ news) (hdx : (dx, dictOf es n) ∈ news) (hw : getL (PySem.Str.ofString "width") es = some (some (.int wd tw)))
    (hw1 : 8 ≤ wd) (hw2 : wd ≤ 64) (hk : KBw.bInts T = ks) (hz : ks.length = 2) (hd : 48 ≤ ks.getD (Int.toNat 0) 0 ∧ ks.getD (Int.toNat 0) 0 ≤ 57) (hd2 : 48 ≤ ks.getD (Int.toNat (0 + 1)) 0 ∧ ks.getD (Int.toNat (0 + 1)) 0 ≤ 57) :
    Con w 113 4 news [.bytes T tb, .int 0 t0, .ref x] (fun r l => (∃ t, r = .int (wrapf (10 * (ks.getD (Int.toNat 0) 0 - 48) + (ks.getD (Int.toNat (0 + 1)) 0 - 48)) wd) t) ∧ l = news) :=
  textp_c w news T ks wd tb t0 tw x dx es n hx hdx hw hw1 hw2 hk _ _ (by lia) (by lia) (by lia) hd fun news t tt tw => read2_c w news T ks 0 wd tb t tt tw hk (by decide) (by decide) (by lia) hd hd2 hw1 hw2
theorem text3_c (w : World) (news : Led) (T : Array UInt8) (ks : List Int) (wd : Int) (tb t0 tw : Tok) (x dx : Addr) (es : List DictEntry) (n : Nat) (hx : (x, instObj 53 dx) ∈ news) (hdx : (dx, dictOf es n) ∈ news) (hw : getL (PySem.Str.ofString "width") es = some (some (.int wd tw)))
    (hw1 : 8 ≤ wd) (hw2 : wd ≤ 64) (hk : KBw.bInts T = ks) (hz : ks.length = 2) (hs : ks.getD (Int.toNat 0) 0 = 45) (hd : 48 ≤ ks.getD (Int.toNat (0 + 1)) 0 ∧ ks.getD (Int.toNat (0 + 1)) 0 ≤ 57) :
    Con w 113 4 news [.bytes T tb, .int 0 t0, .ref x] (fun r l => (∃ t, r = .int (wrapf (-(ks.getD (Int.toNat (0 + 1)) 0 - 48)) wd) t) ∧ l = news) :=
  textm_c w news T ks wd tb t0 tw x dx es n hx hdx hw hw1 hw2 hk _ _ (by lia) (by lia) (by lia) hs hd fun news t tt tw => read1_c w news T ks (0 + 1) wd tb t tt tw hk (by decide) (by decide) (by lia) hd hw1 hw2
theorem text4_c (w : World) (news : Led) (T : Array UInt8) (ks : List Int) (wd : Int) (tb t0 tw : Tok) (x dx : Addr) (es : List DictEntry) (n : Nat) (hx : (x, instObj 53 dx) ∈ news) (hdx : (dx, dictOf es n) ∈ news) (hw : getL (PySem.Str.ofString "width") es = some (some (.int wd tw)))
    (hw1 : 8 ≤ wd) (hw2 : wd ≤ 64) (hk : KBw.bInts T = ks) (hz : ks.length = 3) (hs : ks.getD (Int.toNat 0) 0 = 45) (hd : 48 ≤ ks.getD (Int.toNat (0 + 1)) 0 ∧ ks.getD (Int.toNat (0 + 1)) 0 ≤ 57) (hd2 : 48 ≤ ks.getD (Int.toNat (0 + 1 + 1)) 0 ∧ ks.getD (Int.toNat (0 + 1 + 1)) 0 ≤ 57) :
    Con w 113 4 news [.bytes T tb, .int 0 t0, .ref x] (fun r l => (∃ t, r = .int (wrapf (-(10 * (ks.getD (Int.toNat (0 + 1)) 0 - 48) + (ks.getD (Int.toNat (0 + 1 + 1)) 0 - 48))) wd) t) ∧ l = news) :=
  textm_c w news T ks wd tb t0 tw x dx es n hx hdx hw hw1 hw2 hk _ _ (by lia) (by lia) (by lia) hs hd fun news t tt tw => read2_c w news T ks (0 + 1) wd tb t tt tw hk (by decide) (by decide) (by lia) hd hd2 hw1 hw2

theorem wrap_small {n w : Int} (h0 : -128 ≤ n) (h1 : n ≤ 127) (hw : 8 ≤ w) : wrapf n w = n := by
  obtain ⟨k, hk⟩ : ∃ k : Nat, w.toNat = k + 1 ∧ (w - 1).toNat = k ∧ 7 ≤ k := ⟨w.toNat - 1, by lia⟩
  have e : (2 : Int) ^ (k + 1) = 2 * 2 ^ k := by rw [Int.pow_succ, Int.mul_comm]
  have hp : 128 ≤ (2 : Int) ^ k := by
    have h1 : 2 ^ 7 ≤ 2 ^ k := Nat.pow_le_pow_right (by decide) hk.2.2
    have e : ((2 ^ k : Nat) : Int) = (2 : Int) ^ k := by simp
    rw [← e]
    exact Int.ofNat_le.mpr h1
  unfold wrapf
  rw [hk.1, hk.2.1, e]
  generalize (2 : Int) ^ k = p at *
  by_cases hn : 0 ≤ n
  · rw [Int.emod_eq_of_lt hn (by lia), if_neg (by lia)]
  · have : n % (2 * p) = n + 2 * p := by
      rw [← Int.add_emod_right, Int.emod_eq_of_lt (by lia) (by lia)]
    rw [this, if_pos (by lia)]
    lia
theorem text_c (w : World) (news : Led) (k : Int) (wd : Int) (tb t0 tw : Tok) (x dx : Addr) (es : List DictEntry) (n : Nat) (hx : (x, instObj 53 dx) ∈ news) (hdx : (dx, dictOf es n) ∈ news) (hw : getL (PySem.Str.ofString "width") es = some (some (.int wd tw)))
    (hw1 : 8 ≤ wd) (hw2 : wd ≤ 64) (h0 : -99 ≤ k) (h1 : k ≤ 99) :
    Con w 113 4 news [.bytes (numT k) tb, .int 0 t0, .ref x] (fun r l => (∃ t, r = .int k t) ∧ l = news) := by
  have hc := num_check h0 h1
  have hwr := wrap_small (n := k) (w := wd) (by lia) (by lia) hw1
  unfold numCheck at hc
  simp only [Bool.and_eq_true] at hc
  have hm := hc.2
  generalize hks : KBw.bInts (numT k) = ks at hm
  match ks, hm with
  | [d], hm =>
    have hm : 48 ≤ d ∧ d ≤ 57 ∧ k = d - 48 := by simpa using hm
    have := text1_c w news (numT k) [d] wd tb t0 tw x dx es n hx hdx hw hw1 hw2 hks rfl ⟨hm.1, hm.2.1⟩
    have e : ([d] : List Int).getD (Int.toNat 0) 0 - 48 = k := by simp; lia
    rw [e, hwr] at this
    exact this
  | [d, e], hm =>
    have hm : (48 ≤ d ∧ d ≤ 57 ∧ 48 ≤ e ∧ e ≤ 57 ∧ k = 10 * (d - 48) + (e - 48)) ∨ (d = 45 ∧ 48 ≤ e ∧ e ≤ 57 ∧ k = - (e - 48)) := of_decide_eq_true hm
    rcases hm with hm | hm
    · have := text2_c w news (numT k) [d, e] wd tb t0 tw x dx es n hx hdx hw hw1 hw2 hks rfl ⟨hm.1, hm.2.1⟩ ⟨hm.2.2.1, hm.2.2.2.1⟩
      have e : 10 * (([d, e] : List Int).getD (Int.toNat 0) 0 - 48) + (([d, e] : List Int).getD (Int.toNat (0 + 1)) 0 - 48) = k := by show 10 * (d - 48) + (e - 48) = k; lia
      rw [e, hwr] at this
      exact this
    · have := text3_c w news (numT k) [d, e] wd tb t0 tw x dx es n hx hdx hw hw1 hw2 hks rfl hm.1 ⟨hm.2.1, hm.2.2.1⟩
      have e : -(([d, e] : List Int).getD (Int.toNat (0 + 1)) 0 - 48) = k := by show -(e - 48) = k; lia
      rw [e, hwr] at this
      exact this
  | [s, d, e], hm =>
    have hm : s = 45 ∧ 48 ≤ d ∧ d ≤ 57 ∧ 48 ≤ e ∧ e ≤ 57 ∧ k = - (10 * (d - 48) + (e - 48)) := of_decide_eq_true hm
    have := text4_c w news (numT k) [s, d, e] wd tb t0 tw x dx es n hx hdx hw hw1 hw2 hks rfl hm.1 ⟨hm.2.1, hm.2.2.1⟩ ⟨hm.2.2.2.1, hm.2.2.2.2.1⟩
    have e : -(10 * (([s, d, e] : List Int).getD (Int.toNat (0 + 1)) 0 - 48) + (([s, d, e] : List Int).getD (Int.toNat (0 + 1 + 1)) 0 - 48)) = k := by show -(10 * (d - 48) + (e - 48)) = k; lia
    rw [e, hwr] at this
    exact this
/-- a call that changes nothing over this ledger -/
theorem Con.useV {w : World} {f : Addr} {dd : Nat} {news : Led} {vs : List Value} {R : Tok → Value}
  {mean : ExcName → Option Value} {mg mb : PySem.Str → Option Value} {dp un : Nat} {gd : Option (List Code)} {cn : PySem.Str} {cs : Scope} {a : Addr} {ccd : Value} {cl : List (PySem.Str × Addr)} {outer : List Env} {A₀ : Around} {base h₀ : Heap} {L : Addr} {m : PySem.Str → Option Value} {s : Shared} {Q E : Value → Shared → Prop}
    (C : Con w f dd news vs (fun r l => (∃ t, r = R t) ∧ l = news)) (B : Below A₀ base outer h₀) (F : Fr h₀ L s.heap m) (X : (hd.heap_39 w.params).In h₀) (N : News h₀ L s.heap news) (T : Top hd.view_39 (looseW hd.view_39 []) mean mg mb h₀) (hk : cs.kind = .function)
    (hd : dp + dd ≤ 900) (hu : un + 8 * dd ≤ 500)
    (h : ∀ (t : Tok) (h' : Heap) (tk' : Nat), Fr h₀ L h' m → News h₀ L h' news → Q (R t) { s with heap := h', toks := tk' }) :
    wpAny (model PySem.Challenge.rw_sm0055_01.row.prog w) (ktrTop dp un gd cn cs L a ccd cl outer) (PySem.call (.ref f) vs) Q E s :=
  C.use B F X N T hk hd hu fun r l h' tk' F' N' P => by
    obtain ⟨⟨t, rfl⟩, rfl⟩ := P
    exact h t h' tk' F' N'

set_option maxRecDepth 100000 in
set_option maxHeartbeats 2000000 in
theorem toint_c (w : World) (news : Led) (k : Int) (t : Tok) (x : Addr) :
    Con w 120 6 news [.int k t, .ref x] (fun r l => (∃ t, r = .int k t) ∧ l = news) := by
  w_top off
  k_with_none
  k_with "PU" => (first | with_reducible exact Pu.const | ((with_reducible show Pu _ _ _ (Expr.BinOp _ Operator.Add _ _) _); refine' Pu.add ?a ?b; (case a => walk_at "PU"); (case b => walk_at "PU")) | ((with_reducible show Pu _ _ _ (Expr.BinOp _ Operator.Sub _ _) _); refine' Pu.sub ?a ?b; (case a => walk_at "PU"); (case b => walk_at "PU")) | ((with_reducible show Pu _ _ _ (Expr.BinOp _ Operator.Mult _ _) _); refine' Pu.mul ?a ?b ?m; (case a => walk_at "PU"); (case b => walk_at "PU"); (case m => walk_at "MUL")) | (refine' Pu.loc ?F ?v ?k ?x ?d; (case F => k_asm); (case k => rfl); (case x => rfl); (case v => rfl); (case d => decide)) | (refine' Pu.ref ?F ?v ?k ?x ?d; (case F => k_asm); (case k => rfl); (case x => rfl); (case v => rfl); (case d => decide)) | (refine' Pu.cell ?N ?c ?m ?o ?k ?x ?d; (case k => rfl); (case x => rfl); (case N => k_asm); (case c => rfl); (case m => k_mem); (case o => k_asm); (case d => decide)) | (refine' Pu.cref ?N ?c ?m ?o ?k ?x ?d; (case k => rfl); (case x => rfl); (case N => k_asm); (case c => rfl); (case m => k_mem); (case o => k_asm); (case d => decide)))
  k_with "eval Call" => (k_here; (with_reducible show wpAny _ _ (eval (Expr.Call (Expr.Name _ _) [_, _] [] _) _) _ _ _); k_dflt (refine' call2 ?F ?hs ?X ?T ?ef ?kf ?hk ?hx ?hd ?p1 ?p2 ?_; (case F => k_asm); (case hs => exact rfl); (case X => k_asm); (case T => k_asm); (case hk => rfl); (case hx => rfl); (case hd => decide); (case ef => k_is); (case kf => k_is); (case p1 => walk_at "PU"); (case p2 => walk_at "PU")); intro t1 t2 tk; (try dsimp only))
  k_with "eval Call" => (k_here; (with_reducible show wpAny _ _ (eval (Expr.Call (Expr.Name _ _) [_, _, _, _] [] _) _) _ _ _); k_dflt (refine' call4 ?F ?hs ?X ?T ?ef ?kf ?hk ?hx ?hd ?p1 ?p2 ?p3 ?p4 ?_; (case F => k_asm); (case hs => exact rfl); (case X => k_asm); (case T => k_asm); (case hk => rfl); (case hx => rfl); (case hd => decide); (case ef => k_is); (case kf => k_is); (case p1 => walk_at "PU"); (case p2 => walk_at "PU"); (case p3 => walk_at "PU"); (case p4 => walk_at "PU")); intro t1 t2 t3 t4 tk; (try dsimp only))
  k_with "eval Call" => (k_here; (with_reducible show wpAny _ _ (eval (Expr.Call (Expr.Name _ _) [_, _, _, _, _] [] _) _) _ _ _); k_dflt (refine' call5 ?F ?hs ?X ?T ?ef ?kf ?hk ?hx ?hd ?p1 ?p2 ?p3 ?p4 ?p5 ?_; (case F => k_asm); (case hs => exact rfl); (case X => k_asm); (case T => k_asm); (case hk => rfl); (case hx => rfl); (case hd => decide); (case ef => k_is); (case kf => k_is); (case p1 => walk_at "PU"); (case p2 => walk_at "PU"); (case p3 => walk_at "PU"); (case p4 => walk_at "PU"); (case p5 => walk_at "PU")); intro t1 t2 t3 t4 t5 tk; (try dsimp only))
  k_with "eval Call" => (k_here; (with_reducible show wpAny _ _ (eval (Expr.Call (Expr.Name _ _) [_, _, _, _, _, _] [] _) _) _ _ _); k_dflt (refine' call6 ?F ?hs ?X ?T ?ef ?kf ?hk ?hx ?hd ?p1 ?p2 ?p3 ?p4 ?p5 ?p6 ?_; (case F => k_asm); (case hs => exact rfl); (case X => k_asm); (case T => k_asm); (case hk => rfl); (case hx => rfl); (case hd => decide); (case ef => k_is); (case kf => k_is); (case p1 => walk_at "PU"); (case p2 => walk_at "PU"); (case p3 => walk_at "PU"); (case p4 => walk_at "PU"); (case p5 => walk_at "PU"); (case p6 => walk_at "PU")); intro t1 t2 t3 t4 t5 t6 tk; (try dsimp only))
  k_with "LT" => ((repeat (first | (with_reducible refine as16 ?_; intro hz1 hz2 hz3 hz4 hz5 hz6 hz7 hz8 hz9 hz10 hz11 hz12 hz13 hz14 hz15 hz16) | (with_reducible refine as8 ?_; intro hz1 hz2 hz3 hz4 hz5 hz6 hz7 hz8) | (with_reducible refine as4 ?_; intro hz1 hz2 hz3 hz4) | (with_reducible refine as2 ?_; intro hz1 hz2) | (with_reducible refine as1 ?_; intro hz1))); intro hz0; (try (rename (∀ p ∈ ([] : List (Addr × Obj)), _) => hz0'; clear hz0')))
  k_with "PK" => with_reducible first | exact And.left (by assumption) | exact And.right (by assumption) | exact And.left (And.right (by assumption)) | exact And.right (And.right (by assumption)) | exact And.left (And.right (And.right (by assumption))) | exact And.right (And.right (And.right (by assumption))) | exact And.left (And.right (And.right (And.right (by assumption)))) | exact And.right (And.right (And.right (And.right (by assumption)))) | exact And.left (And.right (And.right (And.right (And.right (by assumption))))) | exact And.right (And.right (And.right (And.right (And.right (by assumption))))) | exact And.left (And.right (And.right (And.right (And.right (And.right (by assumption)))))) | exact And.right (And.right (And.right (And.right (And.right (And.right (by assumption)))))) | exact And.left (And.right (And.right (And.right (And.right (And.right (And.right (by assumption))))))) | exact And.right (And.right (And.right (And.right (And.right (And.right (And.right (by assumption))))))) | exact And.left (And.right (And.right (And.right (And.right (And.right (And.right (And.right (by assumption)))))))) | exact And.right (And.right (And.right (And.right (And.right (And.right (And.right (And.right (by assumption)))))))) | exact And.left (And.right (And.right (And.right (And.right (And.right (And.right (And.right (And.right (by assumption))))))))) | exact And.right (And.right (And.right (And.right (And.right (And.right (And.right (And.right (And.right (by assumption))))))))) | exact And.left (And.right (And.right (And.right (And.right (And.right (And.right (And.right (And.right (And.right (by assumption)))))))))) | exact And.right (And.right (And.right (And.right (And.right (And.right (And.right (And.right (And.right (And.right (by assumption)))))))))) | exact And.left (And.right (And.right (And.right (And.right (And.right (And.right (And.right (And.right (And.right (And.right (by assumption))))))))))) | exact And.right (And.right (And.right (And.right (And.right (And.right (And.right (And.right (And.right (And.right (And.right (by assumption))))))))))) | exact And.left (And.right (And.right (And.right (And.right (And.right (And.right (And.right (And.right (And.right (And.right (And.right (by assumption)))))))))))) | exact And.right (And.right (And.right (And.right (And.right (And.right (And.right (And.right (And.right (And.right (And.right (And.right (by assumption)))))))))))) | exact And.left (And.right (And.right (And.right (And.right (And.right (And.right (And.right (And.right (And.right (And.right (And.right (And.right (by assumption))))))))))))) | exact And.right (And.right (And.right (And.right (And.right (And.right (And.right (And.right (And.right (And.right (And.right (And.right (And.right (by assumption)))))))))))))
  k_with "k_ne" => (refine neN ?_; (try dsimp only); first | with_reducible (first | assumption | exact ne_gt (by assumption) | exact ne_lt (by assumption) | exact Ne.symm (by assumption) | exact nq (by assumption) | exact Ne.symm (nq (by assumption)) | exact ne_gt s_1 | exact ne_lt s_1 | exact ne_gt (lt_s s_1) | exact ne_lt (lt_s s_1) | exact ne_gt (lt_s (lt_s s_1)) | exact ne_lt (lt_s (lt_s s_1)) | exact ne_gt (lt_s (lt_s (lt_s s_1))) | exact ne_lt (lt_s (lt_s (lt_s s_1))) | exact ne_gt (lt_s (lt_s (lt_s (lt_s s_1)))) | exact ne_lt (lt_s (lt_s (lt_s (lt_s s_1)))) | exact ne_gt (lt_s (lt_s (lt_s (lt_s (lt_s s_1))))) | exact ne_lt (lt_s (lt_s (lt_s (lt_s (lt_s s_1))))) | exact ne_gt (lt_s (lt_s (lt_s (lt_s (lt_s (lt_s s_1)))))) | exact ne_lt (lt_s (lt_s (lt_s (lt_s (lt_s (lt_s s_1)))))) | exact ne_gt (lt_s (by assumption)) | exact ne_lt (lt_s (by assumption)) | exact ne_gt (lt_s (lt_s (by assumption))) | exact ne_lt (lt_s (lt_s (by assumption))) | exact ne_gt (lt_s (lt_s (lt_s (by assumption)))) | exact ne_lt (lt_s (lt_s (lt_s (by assumption)))) | exact ne_gt (lt_s (lt_s (lt_s (lt_s (by assumption))))) | exact ne_lt (lt_s (lt_s (lt_s (lt_s (by assumption))))) | exact ne_gt (lt_s (lt_s (lt_s (lt_s (lt_s (by assumption)))))) | exact ne_lt (lt_s (lt_s (lt_s (lt_s (lt_s (by assumption)))))) | exact ne_gt (lt_s (lt_s (lt_s (lt_s (lt_s (lt_s (by assumption))))))) | exact ne_lt (lt_s (lt_s (lt_s (lt_s (lt_s (lt_s (by assumption))))))) | exact ne_gt (lt_s (lt_s (lt_s (lt_s (lt_s (lt_s (lt_s (by assumption)))))))) | exact ne_lt (lt_s (lt_s (lt_s (lt_s (lt_s (lt_s (lt_s (by assumption))))))))) | with_reducible exact Nat.ne_of_lt (by assumption) | with_reducible exact Nat.ne_of_gt (by assumption) | walk_at "PK" | (refine Ne.symm ?_; walk_at "PK") | omega)
  k_with "ktr_room" => first | exact rm_depth (by assumption) (by decide) | exact rm_rec (by assumption) | exact rm_rec0 (by assumption)
  k_with "ktr_units" => exact rm_units (by assumption) (by decide)
  k_with "units_room" => exact rm_line (by assumption)
  k_with "MUL" => first | exact IntMulOk.of_left (by with_reducible assumption) | exact IntMulOk.of_right (by with_reducible assumption) | exact IntMulOk.of_right (times_b (by with_reducible assumption) (by with_reducible assumption)) | exact IntMulOk.of_left two_b | exact IntMulOk.of_left (v_b (by with_reducible assumption) (by with_reducible assumption)) | mul_fits
  k_with "CON IN" => ( (try unfold ConV); unfold Con; k_fill; intros; refine wpAny_call ?_; k_dflt ktr_enter)
  k_with "CON USE" => ( (case k1 => k_asm); (case k2 => k_asm); (case k3 => k_asm); (case k4 => k_asm); (case k5 => k_asm); (case kK => first | exact rfl | assumption); (case kd => ktr_room); (case ku => ktr_units))
  k_with "CON ON" => (intro t9 h9 tk9 F9 N9; (try dsimp only); (try k_sweep); (try k_fold))
  k_with "CON ONP" => (intro d9 t9 u9 n9 h9 tk9 F9 N9 l9; (try k_lt l9); (try dsimp only); (try k_sweep); (try k_fold))
  k_with "call ref" => (k_here; refine wpAny_call ?_; k_dflt (refine' code_def ?k1 ?k2 ?k3 ?k4 ?k5 ?kA ?kF ?kK ?k6 ?k7 ?k8 ?k9 ?kB ?_ ?c2 ?c3 ?c4 ?c5; (case kA => exact rfl); (case kF => exact rfl); (case kK => first | exact rfl | assumption); (case k1 => k_asm); (case k2 => k_asm); (case k3 => k_asm); (case k4 => k_asm); (case k5 => k_asm); (case k6 => k_is); (case k7 => k_is); (case k8 => ktr_room); (case k9 => exact BindsTo.of_eq rfl); (case c5 => decide); (case kB => exact locs rfl); (case c2 => exact rfl); (case c3 => exact rfl); (case c4 => exact rfl); k_whole; intro g' L' h' FG' F' N' B' X' T'; (try dsimp only); (try k_fold)))
  k_with "k_mem" => first | assumption | (refine' List.Mem.tail _ ?_; assumption)
  k_with "call ref" => (k_here; k_dflt (refine' Con.useV (text_c _ _ _ _ _ _ _ _ _ _ _ ?p1 ?p2 ?p3 ?p4 ?p5 ?p6 ?p7) ?k1 ?k2 ?k3 ?k4 ?k5 ?kK ?kd ?ku ?_; (case p1 => assumption); (case p2 => assumption); (case p3 => assumption); (case p4 => omega); (case p5 => omega); (case p6 => omega); (case p7 => omega); walk_at "CON USE"; walk_at "CON ON"))
  walk_at "CON IN"
  rename (∀ (_ : Value) (_ : Led) (_ : Heap) (_ : Nat), _) => hret
  refine gen_q ?_
  intro Qg hQg
  k_steps
  all_goals (try (refine hQg _ _ ?_; (try dsimp only)))
  k_steps
  all_goals exact hret _ _ _ _ (by k_asm) (by k_asm) ⟨⟨_, rfl⟩, rfl⟩
set_option maxRecDepth 100000 in
set_option maxHeartbeats 2000000 in
theorem tobytes_c (w : World) (news : Led) (k : Int) (wd : Int) (tb tw : Tok) (x dx : Addr) (es : List DictEntry) (n : Nat) (hx : (x, instObj 53 dx) ∈ news) (hdx : (dx, dictOf es n) ∈ news) (hw : getL (PySem.Str.ofString "width") es = some (some (.int wd tw)))
    (hw1 : 8 ≤ wd) (hw2 : wd ≤ 64) (h0 : -99 ≤ k) (h1 : k ≤ 99) :
    Con w 120 6 news [.bytes (numT k) tb, .ref x] (fun r l => (∃ t, r = .int k t) ∧ l = news) := by
  w_top off
  k_with_none
  k_with "PU" => (first | with_reducible exact Pu.const | ((with_reducible show Pu _ _ _ (Expr.BinOp _ Operator.Add _ _) _); refine' Pu.add ?a ?b; (case a => walk_at "PU"); (case b => walk_at "PU")) | ((with_reducible show Pu _ _ _ (Expr.BinOp _ Operator.Sub _ _) _); refine' Pu.sub ?a ?b; (case a => walk_at "PU"); (case b => walk_at "PU")) | ((with_reducible show Pu _ _ _ (Expr.BinOp _ Operator.Mult _ _) _); refine' Pu.mul ?a ?b ?m; (case a => walk_at "PU"); (case b => walk_at "PU"); (case m => walk_at "MUL")) | (refine' Pu.loc ?F ?v ?k ?x ?d; (case F => k_asm); (case k => rfl); (case x => rfl); (case v => rfl); (case d => decide)) | (refine' Pu.ref ?F ?v ?k ?x ?d; (case F => k_asm); (case k => rfl); (case x => rfl); (case v => rfl); (case d => decide)) | (refine' Pu.cell ?N ?c ?m ?o ?k ?x ?d; (case k => rfl); (case x => rfl); (case N => k_asm); (case c => rfl); (case m => k_mem); (case o => k_asm); (case d => decide)) | (refine' Pu.cref ?N ?c ?m ?o ?k ?x ?d; (case k => rfl); (case x => rfl); (case N => k_asm); (case c => rfl); (case m => k_mem); (case o => k_asm); (case d => decide)))
  k_with "eval Call" => (k_here; (with_reducible show wpAny _ _ (eval (Expr.Call (Expr.Name _ _) [_, _] [] _) _) _ _ _); k_dflt (refine' call2 ?F ?hs ?X ?T ?ef ?kf ?hk ?hx ?hd ?p1 ?p2 ?_; (case F => k_asm); (case hs => exact rfl); (case X => k_asm); (case T => k_asm); (case hk => rfl); (case hx => rfl); (case hd => decide); (case ef => k_is); (case kf => k_is); (case p1 => walk_at "PU"); (case p2 => walk_at "PU")); intro t1 t2 tk; (try dsimp only))
  k_with "eval Call" => (k_here; (with_reducible show wpAny _ _ (eval (Expr.Call (Expr.Name _ _) [_, _, _, _] [] _) _) _ _ _); k_dflt (refine' call4 ?F ?hs ?X ?T ?ef ?kf ?hk ?hx ?hd ?p1 ?p2 ?p3 ?p4 ?_; (case F => k_asm); (case hs => exact rfl); (case X => k_asm); (case T => k_asm); (case hk => rfl); (case hx => rfl); (case hd => decide); (case ef => k_is); (case kf => k_is); (case p1 => walk_at "PU"); (case p2 => walk_at "PU"); (case p3 => walk_at "PU"); (case p4 => walk_at "PU")); intro t1 t2 t3 t4 tk; (try dsimp only))
  k_with "eval Call" => (k_here; (with_reducible show wpAny _ _ (eval (Expr.Call (Expr.Name _ _) [_, _, _, _, _] [] _) _) _ _ _); k_dflt (refine' call5 ?F ?hs ?X ?T ?ef ?kf ?hk ?hx ?hd ?p1 ?p2 ?p3 ?p4 ?p5 ?_; (case F => k_asm); (case hs => exact rfl); (case X => k_asm); (case T => k_asm); (case hk => rfl); (case hx => rfl); (case hd => decide); (case ef => k_is); (case kf => k_is); (case p1 => walk_at "PU"); (case p2 => walk_at "PU"); (case p3 => walk_at "PU"); (case p4 => walk_at "PU"); (case p5 => walk_at "PU")); intro t1 t2 t3 t4 t5 tk; (try dsimp only))
  k_with "eval Call" => (k_here; (with_reducible show wpAny _ _ (eval (Expr.Call (Expr.Name _ _) [_, _, _, _, _, _] [] _) _) _ _ _); k_dflt (refine' call6 ?F ?hs ?X ?T ?ef ?kf ?hk ?hx ?hd ?p1 ?p2 ?p3 ?p4 ?p5 ?p6 ?_; (case F => k_asm); (case hs => exact rfl); (case X => k_asm); (case T => k_asm); (case hk => rfl); (case hx => rfl); (case hd => decide); (case ef => k_is); (case kf => k_is); (case p1 => walk_at "PU"); (case p2 => walk_at "PU"); (case p3 => walk_at "PU"); (case p4 => walk_at "PU"); (case p5 => walk_at "PU"); (case p6 => walk_at "PU")); intro t1 t2 t3 t4 t5 t6 tk; (try dsimp only))
  k_with "LT" => ((repeat (first | (with_reducible refine as16 ?_; intro hz1 hz2 hz3 hz4 hz5 hz6 hz7 hz8 hz9 hz10 hz11 hz12 hz13 hz14 hz15 hz16) | (with_reducible refine as8 ?_; intro hz1 hz2 hz3 hz4 hz5 hz6 hz7 hz8) | (with_reducible refine as4 ?_; intro hz1 hz2 hz3 hz4) | (with_reducible refine as2 ?_; intro hz1 hz2) | (with_reducible refine as1 ?_; intro hz1))); intro hz0; (try (rename (∀ p ∈ ([] : List (Addr × Obj)), _) => hz0'; clear hz0')))
  k_with "PK" => with_reducible first | exact And.left (by assumption) | exact And.right (by assumption) | exact And.left (And.right (by assumption)) | exact And.right (And.right (by assumption)) | exact And.left (And.right (And.right (by assumption))) | exact And.right (And.right (And.right (by assumption))) | exact And.left (And.right (And.right (And.right (by assumption)))) | exact And.right (And.right (And.right (And.right (by assumption)))) | exact And.left (And.right (And.right (And.right (And.right (by assumption))))) | exact And.right (And.right (And.right (And.right (And.right (by assumption))))) | exact And.left (And.right (And.right (And.right (And.right (And.right (by assumption)))))) | exact And.right (And.right (And.right (And.right (And.right (And.right (by assumption)))))) | exact And.left (And.right (And.right (And.right (And.right (And.right (And.right (by assumption))))))) | exact And.right (And.right (And.right (And.right (And.right (And.right (And.right (by assumption))))))) | exact And.left (And.right (And.right (And.right (And.right (And.right (And.right (And.right (by assumption)))))))) | exact And.right (And.right (And.right (And.right (And.right (And.right (And.right (And.right (by assumption)))))))) | exact And.left (And.right (And.right (And.right (And.right (And.right (And.right (And.right (And.right (by assumption))))))))) | exact And.right (And.right (And.right (And.right (And.right (And.right (And.right (And.right (And.right (by assumption))))))))) | exact And.left (And.right (And.right (And.right (And.right (And.right (And.right (And.right (And.right (And.right (by assumption)))))))))) | exact And.right (And.right (And.right (And.right (And.right (And.right (And.right (And.right (And.right (And.right (by assumption)))))))))) | exact And.left (And.right (And.right (And.right (And.right (And.right (And.right (And.right (And.right (And.right (And.right (by assumption))))))))))) | exact And.right (And.right (And.right (And.right (And.right (And.right (And.right (And.right (And.right (And.right (And.right (by assumption))))))))))) | exact And.left (And.right (And.right (And.right (And.right (And.right (And.right (And.right (And.right (And.right (And.right (And.right (by assumption)))))))))))) | exact And.right (And.right (And.right (And.right (And.right (And.right (And.right (And.right (And.right (And.right (And.right (And.right (by assumption)))))))))))) | exact And.left (And.right (And.right (And.right (And.right (And.right (And.right (And.right (And.right (And.right (And.right (And.right (And.right (by assumption))))))))))))) | exact And.right (And.right (And.right (And.right (And.right (And.right (And.right (And.right (And.right (And.right (And.right (And.right (And.right (by assumption)))))))))))))
  k_with "k_ne" => (refine neN ?_; (try dsimp only); first | with_reducible (first | assumption | exact ne_gt (by assumption) | exact ne_lt (by assumption) | exact Ne.symm (by assumption) | exact nq (by assumption) | exact Ne.symm (nq (by assumption)) | exact ne_gt s_1 | exact ne_lt s_1 | exact ne_gt (lt_s s_1) | exact ne_lt (lt_s s_1) | exact ne_gt (lt_s (lt_s s_1)) | exact ne_lt (lt_s (lt_s s_1)) | exact ne_gt (lt_s (lt_s (lt_s s_1))) | exact ne_lt (lt_s (lt_s (lt_s s_1))) | exact ne_gt (lt_s (lt_s (lt_s (lt_s s_1)))) | exact ne_lt (lt_s (lt_s (lt_s (lt_s s_1)))) | exact ne_gt (lt_s (lt_s (lt_s (lt_s (lt_s s_1))))) | exact ne_lt (lt_s (lt_s (lt_s (lt_s (lt_s s_1))))) | exact ne_gt (lt_s (lt_s (lt_s (lt_s (lt_s (lt_s s_1)))))) | exact ne_lt (lt_s (lt_s (lt_s (lt_s (lt_s (lt_s s_1)))))) | exact ne_gt (lt_s (by assumption)) | exact ne_lt (lt_s (by assumption)) | exact ne_gt (lt_s (lt_s (by assumption))) | exact ne_lt (lt_s (lt_s (by assumption))) | exact ne_gt (lt_s (lt_s (lt_s (by assumption)))) | exact ne_lt (lt_s (lt_s (lt_s (by assumption)))) | exact ne_gt (lt_s (lt_s (lt_s (lt_s (by assumption))))) | exact ne_lt (lt_s (lt_s (lt_s (lt_s (by assumption))))) | exact ne_gt (lt_s (lt_s (lt_s (lt_s (lt_s (by assumption)))))) | exact ne_lt (lt_s (lt_s (lt_s (lt_s (lt_s (by assumption)))))) | exact ne_gt (lt_s (lt_s (lt_s (lt_s (lt_s (lt_s (by assumption))))))) | exact ne_lt (lt_s (lt_s (lt_s (lt_s (lt_s (lt_s (by assumption))))))) | exact ne_gt (lt_s (lt_s (lt_s (lt_s (lt_s (lt_s (lt_s (by assumption)))))))) | exact ne_lt (lt_s (lt_s (lt_s (lt_s (lt_s (lt_s (lt_s (by assumption))))))))) | with_reducible exact Nat.ne_of_lt (by assumption) | with_reducible exact Nat.ne_of_gt (by assumption) | walk_at "PK" | (refine Ne.symm ?_; walk_at "PK") | omega)
  k_with "ktr_room" => first | exact rm_depth (by assumption) (by decide) | exact rm_rec (by assumption) | exact rm_rec0 (by assumption)
  k_with "ktr_units" => exact rm_units (by assumption) (by decide)
  k_with "units_room" => exact rm_line (by assumption)
  k_with "MUL" => first | exact IntMulOk.of_left (by with_reducible assumption) | exact IntMulOk.of_right (by with_reducible assumption) | exact IntMulOk.of_right (times_b (by with_reducible assumption) (by with_reducible assumption)) | exact IntMulOk.of_left two_b | exact IntMulOk.of_left (v_b (by with_reducible assumption) (by with_reducible assumption)) | mul_fits
  k_with "CON IN" => ( (try unfold ConV); unfold Con; k_fill; intros; refine wpAny_call ?_; k_dflt ktr_enter)
  k_with "CON USE" => ( (case k1 => k_asm); (case k2 => k_asm); (case k3 => k_asm); (case k4 => k_asm); (case k5 => k_asm); (case kK => first | exact rfl | assumption); (case kd => ktr_room); (case ku => ktr_units))
  k_with "CON ON" => (intro t9 h9 tk9 F9 N9; (try dsimp only); (try k_sweep); (try k_fold))
  k_with "CON ONP" => (intro d9 t9 u9 n9 h9 tk9 F9 N9 l9; (try k_lt l9); (try dsimp only); (try k_sweep); (try k_fold))
  k_with "call ref" => (k_here; refine wpAny_call ?_; k_dflt (refine' code_def ?k1 ?k2 ?k3 ?k4 ?k5 ?kA ?kF ?kK ?k6 ?k7 ?k8 ?k9 ?kB ?_ ?c2 ?c3 ?c4 ?c5; (case kA => exact rfl); (case kF => exact rfl); (case kK => first | exact rfl | assumption); (case k1 => k_asm); (case k2 => k_asm); (case k3 => k_asm); (case k4 => k_asm); (case k5 => k_asm); (case k6 => k_is); (case k7 => k_is); (case k8 => ktr_room); (case k9 => exact BindsTo.of_eq rfl); (case c5 => decide); (case kB => exact locs rfl); (case c2 => exact rfl); (case c3 => exact rfl); (case c4 => exact rfl); k_whole; intro g' L' h' FG' F' N' B' X' T'; (try dsimp only); (try k_fold)))
  k_with "k_mem" => first | assumption | (refine' List.Mem.tail _ ?_; assumption)
  k_with "call ref" => (k_here; k_dflt (refine' Con.useV (text_c _ _ _ _ _ _ _ _ _ _ _ ?p1 ?p2 ?p3 ?p4 ?p5 ?p6 ?p7) ?k1 ?k2 ?k3 ?k4 ?k5 ?kK ?kd ?ku ?_; (case p1 => assumption); (case p2 => assumption); (case p3 => assumption); (case p4 => omega); (case p5 => omega); (case p6 => omega); (case p7 => omega); walk_at "CON USE"; walk_at "CON ON"))
  walk_at "CON IN"
  rename (∀ (_ : Value) (_ : Led) (_ : Heap) (_ : Nat), _) => hret
  refine gen_q ?_
  intro Qg hQg
  k_steps
  all_goals (try (refine hQg _ _ ?_; (try dsimp only)))
  k_steps
  all_goals exact hret _ _ _ _ (by k_asm) (by k_asm) ⟨⟨_, rfl⟩, rfl⟩
theorem tonum_c (w : World) (news : Led) (v : Value) (k : Int) (wd : Int) (tw : Tok) (x dx : Addr) (es : List DictEntry) (n : Nat) (hx : (x, instObj 53 dx) ∈ news) (hdx : (dx, dictOf es n) ∈ news) (hw : getL (PySem.Str.ofString "width") es = some (some (.int wd tw)))
    (hw1 : 8 ≤ wd) (hw2 : wd ≤ 64) (h0 : -99 ≤ k) (h1 : k ≤ 99) (hv : NumV v k) :
    Con w 120 6 news [v, .ref x] (fun r l => (∃ t, r = .int k t) ∧ l = news) := by
  rcases hv with ⟨t, rfl⟩ | ⟨t, rfl⟩
  · exact toint_c w news k t x
  · exact tobytes_c w news k wd t tw x dx es n hx hdx hw hw1 hw2 h0 h1

def NewThree (news : Led) (x0 x1 x2 : Int) (r : Value) (l : Led) : Prop :=
  ∃ d t0 t1 t2 n, r = .ref d ∧ l = (d, listOf (#[.int x0 t0, .int x1 t1, .int x2 t2] : Array Value) n) :: news ∧ LCg.Off1 d news
theorem srcAt_of {h₀ : Heap} {ax : Addr} {its : Array Value} {n : Nat} {news : Led} (hm : (ax, listOf its n) ∈ news) : LCg.SrcAt h₀ ax its news := .inr ⟨_, hm, rfl, _, rfl⟩
theorem cend {h₀ : Heap} {L I C D : Addr} {m : PySem.Str → Option Value} {s₁ : Shared} {oI oC oD : Obj} {S : Led → Prop} {rest : Value → Led → Prop} {y : Value} {h' : Heap} {tk : Nat} {news' : Led}
    (F : Fr h₀ L h' m) (N : News h₀ L h' ((I, oI) :: (C, oC) :: (D, oD) :: news')) (off : LCg.Off3 I C D news') (hS : S news') (r : rest y news') :
    LCg.CompEnd h₀ L m s₁ I oI C oC D oD S rest y { s₁ with heap := h', toks := tk } := ⟨h', tk, news', rfl, F, N, off, hS, r⟩

set_option maxRecDepth 100000 in
set_option maxHeartbeats 2000000 in
theorem loopn_c (w : World) (rest : Led) (v0 v1 v2 : Value) (x0 x1 x2 : Int) (wd : Int) (tw : Tok) (x dx dv : Addr) (es : List DictEntry) (n nv : Nat) (hw : getL (PySem.Str.ofString "width") es = some (some (.int wd tw)))
    (hw1 : 8 ≤ wd) (hw2 : wd ≤ 64) (h0 : (-99 ≤ x0 ∧ x0 ≤ 99) ∧ (-99 ≤ x1 ∧ x1 ≤ 99) ∧ (-99 ≤ x2 ∧ x2 ≤ 99)) (hv0 : NumV v0 x0) (hv1 : NumV v1 x1) (hv2 : NumV v2 x2) :
    Con w 125 8 ((x, instObj 53 dx) :: (dx, dictOf es n) :: (dv, listOf (#[v0, v1, v2] : Array Value) nv) :: rest) [.ref dv, .ref x] (NewThree ((x, instObj 53 dx) :: (dx, dictOf es n) :: (dv, listOf (#[v0, v1, v2] : Array Value) nv) :: rest) x0 x1 x2) := by
  w_top off
  k_with_none
  k_with "PU" => (first | with_reducible exact Pu.const | ((with_reducible show Pu _ _ _ (Expr.BinOp _ Operator.Add _ _) _); refine' Pu.add ?a ?b; (case a => walk_at "PU"); (case b => walk_at "PU")) | ((with_reducible show Pu _ _ _ (Expr.BinOp _ Operator.Sub _ _) _); refine' Pu.sub ?a ?b; (case a => walk_at "PU"); (case b => walk_at "PU")) | ((with_reducible show Pu _ _ _ (Expr.BinOp _ Operator.Mult _ _) _); refine' Pu.mul ?a ?b ?m; (case a => walk_at "PU"); (case b => walk_at "PU"); (case m => walk_at "MUL")) | (refine' Pu.loc ?F ?v ?k ?x ?d; (case F => k_asm); (case k => rfl); (case x => rfl); (case v => rfl); (case d => decide)) | (refine' Pu.ref ?F ?v ?k ?x ?d; (case F => k_asm); (case k => rfl); (case x => rfl); (case v => rfl); (case d => decide)) | (refine' Pu.cell ?N ?c ?m ?o ?k ?x ?d; (case k => rfl); (case x => rfl); (case N => k_asm); (case c => rfl); (case m => k_mem); (case o => k_asm); (case d => decide)) | (refine' Pu.cref ?N ?c ?m ?o ?k ?x ?d; (case k => rfl); (case x => rfl); (case N => k_asm); (case c => rfl); (case m => k_mem); (case o => k_asm); (case d => decide)))
  k_with "eval Call" => (k_here; (with_reducible show wpAny _ _ (eval (Expr.Call (Expr.Name _ _) [_, _] [] _) _) _ _ _); k_dflt (refine' call2 ?F ?hs ?X ?T ?ef ?kf ?hk ?hx ?hd ?p1 ?p2 ?_; (case F => k_asm); (case hs => exact rfl); (case X => k_asm); (case T => k_asm); (case hk => rfl); (case hx => rfl); (case hd => decide); (case ef => k_is); (case kf => k_is); (case p1 => walk_at "PU"); (case p2 => walk_at "PU")); intro t1 t2 tk; (try dsimp only))
  k_with "eval Call" => (k_here; (with_reducible show wpAny _ _ (eval (Expr.Call (Expr.Name _ _) [_, _, _, _] [] _) _) _ _ _); k_dflt (refine' call4 ?F ?hs ?X ?T ?ef ?kf ?hk ?hx ?hd ?p1 ?p2 ?p3 ?p4 ?_; (case F => k_asm); (case hs => exact rfl); (case X => k_asm); (case T => k_asm); (case hk => rfl); (case hx => rfl); (case hd => decide); (case ef => k_is); (case kf => k_is); (case p1 => walk_at "PU"); (case p2 => walk_at "PU"); (case p3 => walk_at "PU"); (case p4 => walk_at "PU")); intro t1 t2 t3 t4 tk; (try dsimp only))
  k_with "eval Call" => (k_here; (with_reducible show wpAny _ _ (eval (Expr.Call (Expr.Name _ _) [_, _, _, _, _] [] _) _) _ _ _); k_dflt (refine' call5 ?F ?hs ?X ?T ?ef ?kf ?hk ?hx ?hd ?p1 ?p2 ?p3 ?p4 ?p5 ?_; (case F => k_asm); (case hs => exact rfl); (case X => k_asm); (case T => k_asm); (case hk => rfl); (case hx => rfl); (case hd => decide); (case ef => k_is); (case kf => k_is); (case p1 => walk_at "PU"); (case p2 => walk_at "PU"); (case p3 => walk_at "PU"); (case p4 => walk_at "PU"); (case p5 => walk_at "PU")); intro t1 t2 t3 t4 t5 tk; (try dsimp only))
  k_with "eval Call" => (k_here; (with_reducible show wpAny _ _ (eval (Expr.Call (Expr.Name _ _) [_, _, _, _, _, _] [] _) _) _ _ _); k_dflt (refine' call6 ?F ?hs ?X ?T ?ef ?kf ?hk ?hx ?hd ?p1 ?p2 ?p3 ?p4 ?p5 ?p6 ?_; (case F => k_asm); (case hs => exact rfl); (case X => k_asm); (case T => k_asm); (case hk => rfl); (case hx => rfl); (case hd => decide); (case ef => k_is); (case kf => k_is); (case p1 => walk_at "PU"); (case p2 => walk_at "PU"); (case p3 => walk_at "PU"); (case p4 => walk_at "PU"); (case p5 => walk_at "PU"); (case p6 => walk_at "PU")); intro t1 t2 t3 t4 t5 t6 tk; (try dsimp only))
  k_with "LT" => ((repeat (first | (with_reducible refine as16 ?_; intro hz1 hz2 hz3 hz4 hz5 hz6 hz7 hz8 hz9 hz10 hz11 hz12 hz13 hz14 hz15 hz16) | (with_reducible refine as8 ?_; intro hz1 hz2 hz3 hz4 hz5 hz6 hz7 hz8) | (with_reducible refine as4 ?_; intro hz1 hz2 hz3 hz4) | (with_reducible refine as2 ?_; intro hz1 hz2) | (with_reducible refine as1 ?_; intro hz1))); intro hz0; (try (rename (∀ p ∈ ([] : List (Addr × Obj)), _) => hz0'; clear hz0')))
  k_with "PK" => with_reducible first | exact And.left (by assumption) | exact And.right (by assumption) | exact And.left (And.right (by assumption)) | exact And.right (And.right (by assumption)) | exact And.left (And.right (And.right (by assumption))) | exact And.right (And.right (And.right (by assumption))) | exact And.left (And.right (And.right (And.right (by assumption)))) | exact And.right (And.right (And.right (And.right (by assumption)))) | exact And.left (And.right (And.right (And.right (And.right (by assumption))))) | exact And.right (And.right (And.right (And.right (And.right (by assumption))))) | exact And.left (And.right (And.right (And.right (And.right (And.right (by assumption)))))) | exact And.right (And.right (And.right (And.right (And.right (And.right (by assumption)))))) | exact And.left (And.right (And.right (And.right (And.right (And.right (And.right (by assumption))))))) | exact And.right (And.right (And.right (And.right (And.right (And.right (And.right (by assumption))))))) | exact And.left (And.right (And.right (And.right (And.right (And.right (And.right (And.right (by assumption)))))))) | exact And.right (And.right (And.right (And.right (And.right (And.right (And.right (And.right (by assumption)))))))) | exact And.left (And.right (And.right (And.right (And.right (And.right (And.right (And.right (And.right (by assumption))))))))) | exact And.right (And.right (And.right (And.right (And.right (And.right (And.right (And.right (And.right (by assumption))))))))) | exact And.left (And.right (And.right (And.right (And.right (And.right (And.right (And.right (And.right (And.right (by assumption)))))))))) | exact And.right (And.right (And.right (And.right (And.right (And.right (And.right (And.right (And.right (And.right (by assumption)))))))))) | exact And.left (And.right (And.right (And.right (And.right (And.right (And.right (And.right (And.right (And.right (And.right (by assumption))))))))))) | exact And.right (And.right (And.right (And.right (And.right (And.right (And.right (And.right (And.right (And.right (And.right (by assumption))))))))))) | exact And.left (And.right (And.right (And.right (And.right (And.right (And.right (And.right (And.right (And.right (And.right (And.right (by assumption)))))))))))) | exact And.right (And.right (And.right (And.right (And.right (And.right (And.right (And.right (And.right (And.right (And.right (And.right (by assumption)))))))))))) | exact And.left (And.right (And.right (And.right (And.right (And.right (And.right (And.right (And.right (And.right (And.right (And.right (And.right (by assumption))))))))))))) | exact And.right (And.right (And.right (And.right (And.right (And.right (And.right (And.right (And.right (And.right (And.right (And.right (And.right (by assumption)))))))))))))
  k_with "k_ne" => (refine neN ?_; (try dsimp only); first | with_reducible (first | assumption | exact ne_gt (by assumption) | exact ne_lt (by assumption) | exact Ne.symm (by assumption) | exact nq (by assumption) | exact Ne.symm (nq (by assumption)) | exact ne_gt s_1 | exact ne_lt s_1 | exact ne_gt (lt_s s_1) | exact ne_lt (lt_s s_1) | exact ne_gt (lt_s (lt_s s_1)) | exact ne_lt (lt_s (lt_s s_1)) | exact ne_gt (lt_s (lt_s (lt_s s_1))) | exact ne_lt (lt_s (lt_s (lt_s s_1))) | exact ne_gt (lt_s (lt_s (lt_s (lt_s s_1)))) | exact ne_lt (lt_s (lt_s (lt_s (lt_s s_1)))) | exact ne_gt (lt_s (lt_s (lt_s (lt_s (lt_s s_1))))) | exact ne_lt (lt_s (lt_s (lt_s (lt_s (lt_s s_1))))) | exact ne_gt (lt_s (lt_s (lt_s (lt_s (lt_s (lt_s s_1)))))) | exact ne_lt (lt_s (lt_s (lt_s (lt_s (lt_s (lt_s s_1)))))) | exact ne_gt (lt_s (by assumption)) | exact ne_lt (lt_s (by assumption)) | exact ne_gt (lt_s (lt_s (by assumption))) | exact ne_lt (lt_s (lt_s (by assumption))) | exact ne_gt (lt_s (lt_s (lt_s (by assumption)))) | exact ne_lt (lt_s (lt_s (lt_s (by assumption)))) | exact ne_gt (lt_s (lt_s (lt_s (lt_s (by assumption))))) | exact ne_lt (lt_s (lt_s (lt_s (lt_s (by assumption))))) | exact ne_gt (lt_s (lt_s (lt_s (lt_s (lt_s (by assumption)))))) | exact ne_lt (lt_s (lt_s (lt_s (lt_s (lt_s (by assumption)))))) | exact ne_gt (lt_s (lt_s (lt_s (lt_s (lt_s (lt_s (by assumption))))))) | exact ne_lt (lt_s (lt_s (lt_s (lt_s (lt_s (lt_s (by assumption))))))) | exact ne_gt (lt_s (lt_s (lt_s (lt_s (lt_s (lt_s (lt_s (by assumption)))))))) | exact ne_lt (lt_s (lt_s (lt_s (lt_s (lt_s (lt_s (lt_s (by assumption))))))))) | with_reducible exact Nat.ne_of_lt (by assumption) | with_reducible exact Nat.ne_of_gt (by assumption) | walk_at "PK" | (refine Ne.symm ?_; walk_at "PK") | omega)
  k_with "ktr_room" => first | exact rm_depth (by assumption) (by decide) | exact rm_rec (by assumption) | exact rm_rec0 (by assumption)
  k_with "ktr_units" => exact rm_units (by assumption) (by decide)
  k_with "units_room" => exact rm_line (by assumption)
  k_with "MUL" => first | exact IntMulOk.of_left (by with_reducible assumption) | exact IntMulOk.of_right (by with_reducible assumption) | exact IntMulOk.of_right (times_b (by with_reducible assumption) (by with_reducible assumption)) | exact IntMulOk.of_left two_b | exact IntMulOk.of_left (v_b (by with_reducible assumption) (by with_reducible assumption)) | mul_fits
  k_with "CON IN" => ( (try unfold ConV); unfold Con; k_fill; intros; refine wpAny_call ?_; k_dflt ktr_enter)
  k_with "CON USE" => ( (case k1 => k_asm); (case k2 => k_asm); (case k3 => k_asm); (case k4 => k_asm); (case k5 => k_asm); (case kK => first | exact rfl | assumption); (case kd => ktr_room); (case ku => ktr_units))
  k_with "CON ON" => (intro t9 h9 tk9 F9 N9; (try dsimp only); (try k_sweep); (try k_fold))
  k_with "CON ONP" => (intro d9 t9 u9 n9 h9 tk9 F9 N9 l9; (try k_lt l9); (try dsimp only); (try k_sweep); (try k_fold))
  k_with "call ref" => (k_here; refine wpAny_call ?_; k_dflt (refine' code_def ?k1 ?k2 ?k3 ?k4 ?k5 ?kA ?kF ?kK ?k6 ?k7 ?k8 ?k9 ?kB ?_ ?c2 ?c3 ?c4 ?c5; (case kA => exact rfl); (case kF => exact rfl); (case kK => first | exact rfl | assumption); (case k1 => k_asm); (case k2 => k_asm); (case k3 => k_asm); (case k4 => k_asm); (case k5 => k_asm); (case k6 => k_is); (case k7 => k_is); (case k8 => ktr_room); (case k9 => exact BindsTo.of_eq rfl); (case c5 => decide); (case kB => exact locs rfl); (case c2 => exact rfl); (case c3 => exact rfl); (case c4 => exact rfl); k_whole; intro g' L' h' FG' F' N' B' X' T'; (try dsimp only); (try k_fold)))
  k_with "k_mem" => first | assumption | (refine' List.Mem.tail _ ?_; assumption)
  k_with "call ref" => (k_here; k_dflt (refine' Con.useV (text_c _ _ _ _ _ _ _ _ _ _ _ ?p1 ?p2 ?p3 ?p4 ?p5 ?p6 ?p7) ?k1 ?k2 ?k3 ?k4 ?k5 ?kK ?kd ?ku ?_; (case p1 => assumption); (case p2 => assumption); (case p3 => assumption); (case p4 => omega); (case p5 => omega); (case p6 => omega); (case p7 => omega); walk_at "CON USE"; walk_at "CON ON"))
  k_with "CompEnd" => (k_here; k_dflt (refine' cend ?F ?N ?off ?S ?_; (case F => k_asm); (case N => k_asm); (case off => first | (simp only [LCg.Off3, and_true]; assumption) | ktn_no "off"); (case S => (refine' srcAt_of ?mm; (case mm => k_mem)))))
  k_with "call ref" => (k_here; k_dflt (refine' Con.useV (tonum_c _ _ _ _ _ _ _ _ _ _ ?p1 ?p2 ?p3 ?p4 ?p5 ?p6 ?p7 ?p8) ?k1 ?k2 ?k3 ?k4 ?k5 ?kK ?kd ?ku ?_; walk_at "CON USE"; (case p8 => assumption); (case p3 => assumption); (case p1 => k_mem); (case p2 => k_mem); (case p4 => omega); (case p5 => omega); (case p6 => omega); (case p7 => omega); walk_at "CON ON"))
  k_with "k_all" => assumption
  k_with "CON INC" => ( unfold Con; k_fill; intros; rename_i hret; refine wpAny_call ?_; k_dflt (refine' code_defC ?k1 ?k2 ?k3 ?k4 ?k5 ?kA ?kF ?kK ?k6 ?k7 ?k8 ?k9 ?kB ?kD ?_ ?c2 ?c3 ?c4; (case kA => exact rfl); (case kF => exact rfl); (case kK => assumption); (case k1 => k_asm); (case k2 => k_asm); (case k3 => k_asm); (case k4 => k_asm); (case k5 => k_asm); (case k6 => k_is); (case k7 => k_is); (case k8 => ktr_room); (case k9 => exact BindsTo.of_eq rfl); (case kB => exact rfl); (case kD => decide +kernel); (case c2 => exact rfl); (case c3 => exact rfl); (case c4 => exact rfl); k_whole; intro g' L' h' tk' cells' FG' F' N' Y' B' X' T' l1; (try k_lt l1); k_cells Y'; (try simp only [List.cons_append, List.nil_append] at N'); (try dsimp only); (try k_fold)))
  walk_at "CON INC"
  rename (∀ (_ : Value) (_ : Led) (_ : Heap) (_ : Nat), _) => hret
  refine gen_q ?_
  intro Qg hQg
  k_steps
  all_goals (try (refine hQg _ _ ?_; (try dsimp only)))
  k_steps
  (rename _ ∧ _ ∧ _ ∧ _ ∧ LCg.Off1 _ _ => o1)
  exact hret _ _ _ _ (by k_asm) (news_drop2 (by k_asm)) ⟨_, _, _, _, 3, rfl, rfl, o1.2⟩

theorem ints_last {us : List Value} {l : List Int} (hi : IntsAre us l) (hne : l ≠ []) : ∃ t, us[((-1 : Int) + (us.length : Int)).toNat]? = some (.int (l.getLastD 0) t) := by
  have hpos : 0 < us.length := by
    rw [hi.length]; exact List.length_pos_iff.mpr hne
  obtain ⟨y, t, h1, h2, _⟩ := kpa_ints hi hpos
  refine ⟨t, ?_⟩
  have e : ((-1 : Int) + (us.length : Int)).toNat = us.dropLast.length := by rw [List.length_dropLast]; omega
  rw [e]
  generalize us.dropLast = d at *
  rw [h1, h2]
  simp
theorem item_last {prog : Program} {w : World} {A : Around} {E : Value → Shared → Prop} {s : Shared} {h₀ : Heap} {L : Addr} {news : Led} {value slice : Expr} {a : Addr} {us : List Value} {l : List Int} {n : Nat} {u : Tok} {Q : Value → Shared → Prop}
    (N : News h₀ L s.heap news) (hm : (a, listOf us.toArray n) ∈ news) (hi : IntsAre us l) (hne : decide (l = []) = false) (h : ∀ t, Q (.int (l.getLastD 0) t) s)
    (hs : subscripted slice false (.ref a) (.int (-1) u) = operate [.ref a, .int (-1) u] (getItem (.ref a) (.int (-1) u))) (hg : ∀ r, letTemporaryGo value (.ref a) r = pure ()) :
    wpAny (model prog w) A (subscriptTail value slice (.ref a) (.int (-1) u)) Q E s := by
  have hne' : l ≠ [] := of_decide_eq_false hne
  have hpos : 0 < us.length := by rw [hi.length]; exact List.length_pos_iff.mpr hne'
  obtain ⟨t, e⟩ := ints_last hi hne'
  exact kim_back N hm rfl rfl (by decide) (by omega) (by decide) e (h t) hs hg

section
variable {w : World} {h₀ : Heap} {L a b : Addr} {m : PySem.Str → Option Value} {s : Shared} {A : Around} {E Q : Value → Shared → Prop} {news : Led} {vs us : List Value} {ns l : List Int} {n k : Nat} {lo hi st : Option Int} {prog : Program}
/-- two new lists are compared and forgotten -/
theorem ne_dropP (N : News h₀ L s.heap ((b, listOf (slicePick us.toArray lo hi st) k) :: (a, listOf vs.toArray n) :: news)) (hv : IntsAre vs ns) (hu : IntsAre us l) (hr : A.units + 64 < cLine)
    (h : News h₀ L s.heap news → Q (.bool (!decide (ns = pickI l lo hi st))) s) : wpAny (model prog w) A (compareOp .NotEq (.ref a) (.ref b)) Q E s :=
  ne_pick N (.tail _ (.head _)) hv (.head _) hu hr (h fun p hp => N p (.tail _ (.tail _ hp)))
theorem ne_dropL (N : News h₀ L s.heap ((b, listOf us.toArray k) :: (a, listOf vs.toArray n) :: news)) (hv : IntsAre vs ns) (hu : IntsAre us l) (hr : A.units + 64 < cLine)
    (h : News h₀ L s.heap news → Q (.bool (!decide (ns = l))) s) : wpAny (model prog w) A (compareOp .NotEq (.ref a) (.ref b)) Q E s :=
  ne_intsK (N.isList (.tail _ (.head _))) hv (N.isList (.head _)) hu hr (h fun p hp => N p (.tail _ (.tail _ hp)))
end

set_option maxRecDepth 100000 in
set_option maxHeartbeats 8000000 in
theorem kin_c (w : World) (f b l i : Addr) (oi : Obj) (c : Int) (tc : Tok) (nb nl nf : Nat) (vs fv : List Value) (ns fs : List Int) (hlb : @LT.lt Nat _ l b) (hbf : @LT.lt Nat _ b f) (hbi : @LT.lt Nat _ b i) (hli : @LT.lt Nat _ l i) (hif : @LT.lt Nat _ i f) (hI : IntsAre vs ns) (hlen : vs.length ≤ 40) (h0 : 0 ≤ c) (h1 : c ≤ 150)
    (hf : IntsAre fv fs) (first limit step wd : Int) (t1 t2 t3 t4 : Tok) (H : KinHyp first limit step wd fs) :
    Con w 172 8 [(f, listOf fv.toArray nf), (i, oi), (b, boxOf l c tc nb), (l, listOf vs.toArray nl)] [.ref b, .int first t1, .int limit t2, .int step t3, .int wd t4, .ref f] (fun r led => r = .bool true ∧ BoxLed b l i oi (c + 3) led) := by
  obtain ⟨hfl, hw1, hw2, ⟨hf1, hf2⟩, ⟨hl1, hl2⟩, ⟨hs1, hs2⟩, k1, k2, k3, k4, k5, k6, k7, k8⟩ := H
  have hlf := IntsAre.length hf
  have hBf : Builtin.Int.intBits first ≤ 64 := PySem.intBits_le_64 (by omega) (by omega)
  have hBl : Builtin.Int.intBits limit ≤ 64 := PySem.intBits_le_64 (by omega) (by omega)
  have hBs : Builtin.Int.intBits step ≤ 64 := PySem.intBits_le_64 (by omega) (by omega)
  have hzs : fs.length ≤ sizeLine := by rw [PySem.sizeLine_eq]; omega
  have hzv : fv.length ≤ sizeLine := by rw [hlf]; exact hzs
  have hAp : Ap l f := Nat.lt_trans hlb hbf
  w_top off
  k_with_none
  k_with "PU" => (first | with_reducible exact Pu.const | ((with_reducible show Pu _ _ _ (Expr.BinOp _ Operator.Add _ _) _); refine' Pu.add ?a ?b; (case a => walk_at "PU"); (case b => walk_at "PU")) | ((with_reducible show Pu _ _ _ (Expr.BinOp _ Operator.Sub _ _) _); refine' Pu.sub ?a ?b; (case a => walk_at "PU"); (case b => walk_at "PU")) | ((with_reducible show Pu _ _ _ (Expr.BinOp _ Operator.Mult _ _) _); refine' Pu.mul ?a ?b ?m; (case a => walk_at "PU"); (case b => walk_at "PU"); (case m => walk_at "MUL")) | (refine' Pu.loc ?F ?v ?k ?x ?d; (case F => k_asm); (case k => rfl); (case x => rfl); (case v => rfl); (case d => decide)) | (refine' Pu.ref ?F ?v ?k ?x ?d; (case F => k_asm); (case k => rfl); (case x => rfl); (case v => rfl); (case d => decide)) | (refine' Pu.cell ?N ?c ?m ?o ?k ?x ?d; (case k => rfl); (case x => rfl); (case N => k_asm); (case c => rfl); (case m => k_mem); (case o => k_asm); (case d => decide)) | (refine' Pu.cref ?N ?c ?m ?o ?k ?x ?d; (case k => rfl); (case x => rfl); (case N => k_asm); (case c => rfl); (case m => k_mem); (case o => k_asm); (case d => decide)))
  k_with "eval Call" => (k_here; (with_reducible show wpAny _ _ (eval (Expr.Call (Expr.Name _ _) [_, _] [] _) _) _ _ _); k_dflt (refine' call2 ?F ?hs ?X ?T ?ef ?kf ?hk ?hx ?hd ?p1 ?p2 ?_; (case F => k_asm); (case hs => exact rfl); (case X => k_asm); (case T => k_asm); (case hk => rfl); (case hx => rfl); (case hd => decide); (case ef => k_is); (case kf => k_is); (case p1 => walk_at "PU"); (case p2 => walk_at "PU")); intro t1 t2 tk; (try dsimp only))
  k_with "eval Call" => (k_here; (with_reducible show wpAny _ _ (eval (Expr.Call (Expr.Name _ _) [_, _, _, _] [] _) _) _ _ _); k_dflt (refine' call4 ?F ?hs ?X ?T ?ef ?kf ?hk ?hx ?hd ?p1 ?p2 ?p3 ?p4 ?_; (case F => k_asm); (case hs => exact rfl); (case X => k_asm); (case T => k_asm); (case hk => rfl); (case hx => rfl); (case hd => decide); (case ef => k_is); (case kf => k_is); (case p1 => walk_at "PU"); (case p2 => walk_at "PU"); (case p3 => walk_at "PU"); (case p4 => walk_at "PU")); intro t1 t2 t3 t4 tk; (try dsimp only))
  k_with "eval Call" => (k_here; (with_reducible show wpAny _ _ (eval (Expr.Call (Expr.Name _ _) [_, _, _, _, _] [] _) _) _ _ _); k_dflt (refine' call5 ?F ?hs ?X ?T ?ef ?kf ?hk ?hx ?hd ?p1 ?p2 ?p3 ?p4 ?p5 ?_; (case F => k_asm); (case hs => exact rfl); (case X => k_asm); (case T => k_asm); (case hk => rfl); (case hx => rfl); (case hd => decide); (case ef => k_is); (case kf => k_is); (case p1 => walk_at "PU"); (case p2 => walk_at "PU"); (case p3 => walk_at "PU"); (case p4 => walk_at "PU"); (case p5 => walk_at "PU")); intro t1 t2 t3 t4 t5 tk; (try dsimp only))
  k_with "eval Call" => (k_here; (with_reducible show wpAny _ _ (eval (Expr.Call (Expr.Name _ _) [_, _, _, _, _, _] [] _) _) _ _ _); k_dflt (refine' call6 ?F ?hs ?X ?T ?ef ?kf ?hk ?hx ?hd ?p1 ?p2 ?p3 ?p4 ?p5 ?p6 ?_; (case F => k_asm); (case hs => exact rfl); (case X => k_asm); (case T => k_asm); (case hk => rfl); (case hx => rfl); (case hd => decide); (case ef => k_is); (case kf => k_is); (case p1 => walk_at "PU"); (case p2 => walk_at "PU"); (case p3 => walk_at "PU"); (case p4 => walk_at "PU"); (case p5 => walk_at "PU"); (case p6 => walk_at "PU")); intro t1 t2 t3 t4 t5 t6 tk; (try dsimp only))
  k_with "LT" => ((repeat (first | (with_reducible refine as16 ?_; intro hz1 hz2 hz3 hz4 hz5 hz6 hz7 hz8 hz9 hz10 hz11 hz12 hz13 hz14 hz15 hz16) | (with_reducible refine as8 ?_; intro hz1 hz2 hz3 hz4 hz5 hz6 hz7 hz8) | (with_reducible refine as4 ?_; intro hz1 hz2 hz3 hz4) | (with_reducible refine as2 ?_; intro hz1 hz2) | (with_reducible refine as1 ?_; intro hz1))); intro hz0; (try (rename (∀ p ∈ ([] : List (Addr × Obj)), _) => hz0'; clear hz0')))
  k_with "OFF3" => ((repeat (first | (with_reducible refine of3_8 ?_; intro hz1 hz2 hz3 hz4 hz5 hz6 hz7 hz8 hz9 hz10 hz11 hz12 hz13 hz14 hz15 hz16 hz17 hz18 hz19 hz20 hz21 hz22 hz23 hz24) | (with_reducible refine of3_4 ?_; intro hz1 hz2 hz3 hz4 hz5 hz6 hz7 hz8 hz9 hz10 hz11 hz12) | (with_reducible refine of3_2 ?_; intro hz1 hz2 hz3 hz4 hz5 hz6) | (with_reducible refine of3_1 ?_; intro hz1 hz2 hz3))); intro hz0; clear hz0)
  k_with "OFF1" => ((repeat (first | (with_reducible refine of1_16 ?_; intro hz1 hz2 hz3 hz4 hz5 hz6 hz7 hz8 hz9 hz10 hz11 hz12 hz13 hz14 hz15 hz16) | (with_reducible refine of1_8 ?_; intro hz1 hz2 hz3 hz4 hz5 hz6 hz7 hz8) | (with_reducible refine of1_4 ?_; intro hz1 hz2 hz3 hz4) | (with_reducible refine of1_2 ?_; intro hz1 hz2) | (with_reducible refine of1_1 ?_; intro hz1))); intro hz0; clear hz0)
  k_with "FinE" => (intro D' h' tk' F' N'; walk_at "OFF1"; (try simp only [List.nil_append, List.cons_append] at N'); (try dsimp only))
  k_with "FinA" => (intro D' h' tk' F' N'; walk_at "OFF1"; (try simp only [List.nil_append, List.cons_append] at N'); (try dsimp only))
  k_with "PK" => with_reducible first | exact And.left (by assumption) | exact And.right (by assumption) | exact And.left (And.right (by assumption)) | exact And.right (And.right (by assumption)) | exact And.left (And.right (And.right (by assumption))) | exact And.right (And.right (And.right (by assumption))) | exact And.left (And.right (And.right (And.right (by assumption)))) | exact And.right (And.right (And.right (And.right (by assumption)))) | exact And.left (And.right (And.right (And.right (And.right (by assumption))))) | exact And.right (And.right (And.right (And.right (And.right (by assumption))))) | exact And.left (And.right (And.right (And.right (And.right (And.right (by assumption)))))) | exact And.right (And.right (And.right (And.right (And.right (And.right (by assumption)))))) | exact And.left (And.right (And.right (And.right (And.right (And.right (And.right (by assumption))))))) | exact And.right (And.right (And.right (And.right (And.right (And.right (And.right (by assumption))))))) | exact And.left (And.right (And.right (And.right (And.right (And.right (And.right (And.right (by assumption)))))))) | exact And.right (And.right (And.right (And.right (And.right (And.right (And.right (And.right (by assumption)))))))) | exact And.left (And.right (And.right (And.right (And.right (And.right (And.right (And.right (And.right (by assumption))))))))) | exact And.right (And.right (And.right (And.right (And.right (And.right (And.right (And.right (And.right (by assumption))))))))) | exact And.left (And.right (And.right (And.right (And.right (And.right (And.right (And.right (And.right (And.right (by assumption)))))))))) | exact And.right (And.right (And.right (And.right (And.right (And.right (And.right (And.right (And.right (And.right (by assumption)))))))))) | exact And.left (And.right (And.right (And.right (And.right (And.right (And.right (And.right (And.right (And.right (And.right (by assumption))))))))))) | exact And.right (And.right (And.right (And.right (And.right (And.right (And.right (And.right (And.right (And.right (And.right (by assumption))))))))))) | exact And.left (And.right (And.right (And.right (And.right (And.right (And.right (And.right (And.right (And.right (And.right (And.right (by assumption)))))))))))) | exact And.right (And.right (And.right (And.right (And.right (And.right (And.right (And.right (And.right (And.right (And.right (And.right (by assumption)))))))))))) | exact And.left (And.right (And.right (And.right (And.right (And.right (And.right (And.right (And.right (And.right (And.right (And.right (And.right (by assumption))))))))))))) | exact And.right (And.right (And.right (And.right (And.right (And.right (And.right (And.right (And.right (And.right (And.right (And.right (And.right (by assumption)))))))))))))
  k_with "k_ne" => (refine neN ?_; (try dsimp only); first | with_reducible (first | assumption | exact ne_gt (by assumption) | exact ne_lt (by assumption) | exact Ne.symm (by assumption) | exact nq (by assumption) | exact Ne.symm (nq (by assumption)) | exact ne_gt s_1 | exact ne_lt s_1 | exact ne_gt (lt_s s_1) | exact ne_lt (lt_s s_1) | exact ne_gt (lt_s (lt_s s_1)) | exact ne_lt (lt_s (lt_s s_1)) | exact ne_gt (lt_s (lt_s (lt_s s_1))) | exact ne_lt (lt_s (lt_s (lt_s s_1))) | exact ne_gt (lt_s (lt_s (lt_s (lt_s s_1)))) | exact ne_lt (lt_s (lt_s (lt_s (lt_s s_1)))) | exact ne_gt (lt_s (lt_s (lt_s (lt_s (lt_s s_1))))) | exact ne_lt (lt_s (lt_s (lt_s (lt_s (lt_s s_1))))) | exact ne_gt (lt_s (lt_s (lt_s (lt_s (lt_s (lt_s s_1)))))) | exact ne_lt (lt_s (lt_s (lt_s (lt_s (lt_s (lt_s s_1)))))) | exact ne_gt (lt_s (by assumption)) | exact ne_lt (lt_s (by assumption)) | exact ne_gt (lt_s (lt_s (by assumption))) | exact ne_lt (lt_s (lt_s (by assumption))) | exact ne_gt (lt_s (lt_s (lt_s (by assumption)))) | exact ne_lt (lt_s (lt_s (lt_s (by assumption)))) | exact ne_gt (lt_s (lt_s (lt_s (lt_s (by assumption))))) | exact ne_lt (lt_s (lt_s (lt_s (lt_s (by assumption))))) | exact ne_gt (lt_s (lt_s (lt_s (lt_s (lt_s (by assumption)))))) | exact ne_lt (lt_s (lt_s (lt_s (lt_s (lt_s (by assumption)))))) | exact ne_gt (lt_s (lt_s (lt_s (lt_s (lt_s (lt_s (by assumption))))))) | exact ne_lt (lt_s (lt_s (lt_s (lt_s (lt_s (lt_s (by assumption))))))) | exact ne_gt (lt_s (lt_s (lt_s (lt_s (lt_s (lt_s (lt_s (by assumption)))))))) | exact ne_lt (lt_s (lt_s (lt_s (lt_s (lt_s (lt_s (lt_s (by assumption))))))))) | with_reducible exact Nat.ne_of_lt (by assumption) | with_reducible exact Nat.ne_of_gt (by assumption) | walk_at "PK" | (refine Ne.symm ?_; walk_at "PK") | omega)
  k_with "ktr_room" => first | exact rm_depth (by assumption) (by decide) | exact rm_rec (by assumption) | exact rm_rec0 (by assumption)
  k_with "ktr_units" => exact rm_units (by assumption) (by decide)
  k_with "units_room" => exact rm_line (by assumption)
  k_with "CompRest" => (with_unfolding_all first | (refine LCg.CompRest.succ ?_; intro v' I' oI' C' oC' D' m' h' tk' E' hv' hC' hx' F' N' off' ne'; (first | lcg_open hv' | (obtain ⟨t9', hv9'⟩ := hv'; subst hv9')); (try ((have off'' := off'); revert off'; walk_at "OFF3"))) | refine LCg.CompRest.zero ?_)
  k_with "CB0" => (first | assumption | ((repeat (with_reducible refine Int.le_add_one ?_)); with_reducible assumption) | omega)
  k_with "CB1" => (first | with_reducible assumption | exact Int.le_trans (by with_reducible assumption) (by decide) | exact Int.le_trans (cb1 (by with_reducible assumption)) (by decide) | exact Int.le_trans (cb1 (cb1 (by with_reducible assumption))) (by decide) | exact Int.le_trans (cb1 (cb1 (cb1 (by with_reducible assumption)))) (by decide) | exact Int.le_trans (cb1 (cb1 (cb1 (cb1 (by with_reducible assumption))))) (by decide) | exact Int.le_trans (cb1 (cb1 (cb1 (cb1 (cb1 (by with_reducible assumption)))))) (by decide) | exact Int.le_trans (cb1 (cb1 (cb1 (cb1 (cb1 (cb1 (by with_reducible assumption))))))) (by decide) | exact Int.le_trans (cb1 (cb1 (cb1 (cb1 (cb1 (cb1 (cb1 (by with_reducible assumption)))))))) (by decide) | omega)
  k_with "size_fits" => assumption
  k_with "MUL" => first | exact IntMulOk.of_left (by with_reducible assumption) | exact IntMulOk.of_right (by with_reducible assumption) | exact IntMulOk.of_right (times_b (by with_reducible assumption) (by with_reducible assumption)) | exact IntMulOk.of_left two_b | exact IntMulOk.of_left (v_b (by with_reducible assumption) (by with_reducible assumption)) | mul_fits
  k_with "binaryOp Mult int int" => (refine' mul_int ?_ ?m; (case m => walk_at "MUL"))
  k_with "CON IN" => ( (try unfold ConV); unfold Con; k_fill; intros; refine wpAny_call ?_; k_dflt ktr_enter)
  k_with "CON INC" => ( unfold Con; k_fill; intros; rename_i hret; refine wpAny_call ?_; k_dflt (refine' code_defC ?k1 ?k2 ?k3 ?k4 ?k5 ?kA ?kF ?kK ?k6 ?k7 ?k8 ?k9 ?kB ?kD ?_ ?c2 ?c3 ?c4; (case kA => exact rfl); (case kF => exact rfl); (case kK => assumption); (case k1 => k_asm); (case k2 => k_asm); (case k3 => k_asm); (case k4 => k_asm); (case k5 => k_asm); (case k6 => k_is); (case k7 => k_is); (case k8 => ktr_room); (case k9 => exact BindsTo.of_eq rfl); (case kB => exact rfl); (case kD => decide +kernel); (case c2 => exact rfl); (case c3 => exact rfl); (case c4 => exact rfl); k_whole; intro g' L' h' tk' cells' FG' F' N' Y' B' X' T' l1; (try k_lt l1); k_cells Y'; (try simp only [List.cons_append, List.nil_append] at N'); (try dsimp only); (try k_fold)))
  k_with "CON USE" => ( (case k1 => k_asm); (case k2 => k_asm); (case k3 => k_asm); (case k4 => k_asm); (case k5 => k_asm); (case kK => first | exact rfl | assumption); (case kd => ktr_room); (case ku => ktr_units); intro t9 h9 tk9 F9 N9; (try dsimp only); (try k_sweep); (try k_fold))
  k_with "call ref" => ( k_here; k_dflt (refine' take_use ?k1 ?k2 ?k3 ?k4 ?k5 ?kK ?kd ?ku ?hb ?hl ?hne ?hI ?hlen ?h0 ?h1 ?h2 ?h3 ?_; (case k1 => k_asm); (case k2 => k_asm); (case k3 => k_asm); (case k4 => k_asm); (case k5 => k_asm); (case hb => k_mem); (case hl => k_mem); (case kK => first | exact rfl | assumption); (case kd => ktr_room); (case ku => ktr_units); (case hne => assumption); (case hI => assumption); (case hlen => first | with_reducible assumption | omega); (case h0 => walk_at "CB0"); (case h1 => walk_at "CB1"); (case h2 => first | with_reducible assumption | decide | omega); (case h3 => first | with_reducible assumption | decide | omega); intro x9 t9 tc9 nb9 nl9 vs9 ns9 h9 tk9 F9 NN9 hx9 hy9 hI9 hk9; have N9 := NN9 _ _ (by k_upd) (by k_upd); clear NN9; (try dsimp only); (try k_sweep);(try k_fold)))
  k_with "ite" => (k_here; k_dflt (first | refine ite_y (by first | with_reducible assumption | exact decide_eq_true (by with_reducible assumption)) ?_ | refine ite_n (by first | with_reducible assumption | exact mt of_decide_eq_true (by with_reducible assumption)) ?_))
  k_with "getMethod str" => (k_here; refine' method_encode ?_)
  k_with "call builtin:str.encode" => (k_here; refine' call_encode_num ?h0 ?h1 ?_; (case h0 => omega); (case h1 => omega))
  k_with "exec Assign cons ListComp" => ( k_here; lcp_look; (rename Fr _ _ _ _ => lF'); (rename News _ _ _ _ => lN'); k_dflt (refine' values_comp ?hh ?hLe ?hsw ?hclos ?hcell ?hkind ?hnames ?hxa ?hxb ?hab ?hy ?hp lF' lN' ?hl ?hm ?hb ?hs ?_ ?_ ?_; (case hh => rfl); (case hLe => rfl); (case hsw => with_unfolding_all rfl); (case hclos => with_unfolding_all rfl); (case hcell => decide); (case hkind => rfl); (case hnames => decide); (case hxa => rfl); (case hxb => rfl); (case hab => decide); (case hy => rfl); (case hp => rfl); (case hl => exact rfl); (case hm => k_mem); (case hb => first | exact hb_down (by assumption) (by assumption) (by assumption) (by assumption) (by assumption) (by assumption) (by assumption) (by assumption) | exact hb_up (by assumption) (by assumption) (by assumption) (by assumption) (by assumption) (by assumption) (by assumption) (by assumption) | ktn_no "hb"); (case hs => (intro _; rfl))); (all_goals intros); (all_goals (try (rename (∀ p ∈ _, _) => hl9; k_lt hl9))); (all_goals (try k_sweep)); (all_goals (try k_fold)))
  k_with "call type:enumerate" => (k_here; (k_dflt (refine' enum_post (News.isList ?N ?M); (case N => k_asm); (case M => k_mem))))
  k_with "exec For Tuple Call" => (k_here; (rename Fr _ _ _ _ => lF'); (with_unfolding_all refine' For_turns lF' ?_; k_whole))
  k_with "CON USE" => ( (case k1 => k_asm); (case k2 => k_asm); (case k3 => k_asm); (case k4 => k_asm); (case k5 => k_asm); (case kK => first | exact rfl | assumption); (case kd => ktr_room); (case ku => ktr_units))
  k_with "call ref" => (k_here; k_dflt (refine' lim_c ?k1 ?k2 ?k3 ?k4 ?k5 ?kK ?kd ?ku ?_; walk_at "CON USE"; intro x9 d9 es9 n9 tw9 h9 tk9 F9 N9 l19 l29 hw9; (try k_lt l19); replace l29 := apN l29; (try dsimp only); (try k_sweep); (try k_fold)))
  k_with "call ref" => (k_here; k_dflt (refine' Con.useL (rounds_c _ _ _ _ _ _ _ _ _ _ _ _ ?p1 ?p2 ?p3 ?p4) ?k1 ?k2 ?k3 ?k4 ?k5 ?kK ?kd ?ku ?_; walk_at "CON USE"; (case p1 => first | exact w_lo (by assumption) | exact w_lo2 (by assumption) | omega); (case p2 => first | exact w_hi (by assumption) | exact w_hi2 (by assumption) | omega); (case p3 => first | decide | omega); (case p4 => first | decide | omega); intro d9 vs9 n9 h9 tk9 F9 N9 l9 hi9; (try k_lt l9); (try dsimp only); (try k_sweep); (try k_fold)))
  k_with "subscriptTail" => (k_here; k_dflt (refine' item_last ?N ?m ?i ?e ?_ ?hs ?hg; (case N => k_asm); (case m => k_mem); (case i => assumption); (case e => assumption); (case hs => with_unfolding_all rfl); (case hg => (intro _; with_unfolding_all rfl)); intro t9))
  k_with "eval ListComp" => (k_here; k_dflt (refine LCg.ListComp_U (F₀ := by k_asm) (by with_unfolding_all rfl) (by decide) (by rfl) (by decide) (by rfl) ?_))
  k_with "compareOp NotEq ref ref" => (k_here; k_dflt (refine' ne_pick ?N ?ha ?hv ?hb ?hu ?hr ?_; (case N => k_asm); (case hb => k_mem); (case ha => k_mem); (case hv => assumption); (case hu => assumption); (case hr => units_room)))
  k_with "compareOp Eq ref ref" => (k_here; k_dflt (refine' eq_pick ?N ?ha ?hv ?hb ?hu ?hr ?_; (case N => k_asm); (case hb => k_mem); (case ha => k_mem); (case hv => assumption); (case hu => assumption); (case hr => units_room)))
  k_with "compareOp NotEq ref ref" => (k_here; (rename News _ _ _ _ => nF9); k_dflt (first | (refine' ne_dropP nF9 ?hv ?hu ?hr ?_; (case hv => assumption); (case hu => assumption); (case hr => units_room)) | (refine' ne_dropL nF9 ?hv ?hu ?hr ?_; (case hv => assumption); (case hu => assumption); (case hr => units_room))); intro nG9; clear nF9)
  walk_at "CON INC"
  rename (∀ (_ : Value) (_ : Led) (_ : Heap) (_ : Nat), _) => hret
  refine gen_q ?_
  intro Qg hQg
  refine gen_a ?_
  intro Ag
  k_steps
  all_goals (try (refine hQg _ _ ?_; (try dsimp only)))
  k_steps
  all_goals first
    | (exfalso; (rename ¬ (_ = _) => hn); first | exact hn k3 | exact hn k5 | exact hn k6 | exact hn (k2 _ (by omega) (by omega)) | exact hn (k4 _ (by omega) (by omega)) | exact hn (k7 _ (by omega) (by omega)) | exact hn (k1 (by assumption)))
    | (obtain ⟨led', N', B'⟩ := box_end (i := i) (oi := oi) (b := b) (l := l) (by k_asm) (by k_mem) (by k_mem) (by k_mem) (by assumption) (by assumption) count3
       exact hret _ led' _ _ (by k_asm) N' ⟨congrArg Value.bool (decide_eq_true (k8 _ (by omega) (by omega))), B'⟩)
    | skip

section
def arith (f s : Int) (n : Nat) : List Int := (List.range n).map (fun (k : Nat) => f + s * k)
theorem arith_len {f s : Int} {n : Nat} : (arith f s n).length = n := by simp [arith]
theorem arith_get {f s : Int} {n i : Nat} (h : i < (arith f s n).length) : (arith f s n)[i] = f + s * i := by simp [arith]
theorem arith_ext {l : List Int} {f s : Int} {n : Nat} (hn : l.length = n) (h : ∀ (i : Nat) (hi : i < l.length), l[i] = f + s * i) : l = arith f s n := by
  refine List.ext_getElem (by rw [hn, arith_len]) (fun i h1 h2 => ?_)
  rw [arith_get, h i h1]
/-- a loop that crosses no end and has n rounds -/
def PlainN (f lim s : Int) (n : Nat) : Prop :=
  (0 < s ∧ (n = 0 ∨ f + s * n - s ≤ lim) ∧ lim < f + s * n) ∨ (s < 0 ∧ (n = 0 ∨ lim ≤ f + s * n - s) ∧ f + s * n < lim)
theorem plain_any {f lim s w most : Int} {n : Nat} (H : Int) (h : 1 ≤ w) (hH : H ≤ 2 ^ (w - 1).toNat) (hm : n ≤ most.toNat) (P : PlainN f lim s n) (h1 : -H ≤ f ∧ f < H) (h2 : -H ≤ f + s * n ∧ f + s * n < H) :
    roundsf f lim s w most = arith f s n := by
  rcases P with ⟨hs, h3, h4⟩ | ⟨hs, h3, h4⟩
  · exact plain_up n h hH hs hm h1.1 h2.2 h3 h4
  · exact plain_down n h hH hs hm h1.2 h2.1 h3 h4
theorem arith_rev {f s : Int} {n : Nat} : (arith f s (n + 1)).reverse = arith (f + s * n) (0 - s) (n + 1) := by
  refine arith_ext (by simp [arith_len]) (fun i hi => ?_)
  rw [List.getElem_reverse, arith_get]
  simp only [List.length_reverse, arith_len] at hi ⊢
  have e : ((n + 1 - 1 - i : Nat) : Int) = (n : Int) - i := by lia
  rw [e, Int.mul_sub, Int.sub_mul]
  lia
theorem arith_add {f s w : Int} {n : Nat} : (arith f s n).map (fun k => k + w) = arith (f + w) s n := by
  refine arith_ext (by simp [arith_len]) (fun i hi => ?_)
  rw [List.getElem_map, arith_get]; lia
theorem arith_neg {f s : Int} {n : Nat} : (arith f s n).map (fun k => 0 - k) = arith (0 - f) (0 - s) n := by
  refine arith_ext (by simp [arith_len]) (fun i hi => ?_)
  rw [List.getElem_map, arith_get, Int.sub_mul]; lia
theorem arith_mul {f s t : Int} {n : Nat} : (arith f s n).map (fun k => k * t) = arith (f * t) (s * t) n := by
  refine arith_ext (by simp [arith_len]) (fun i hi => ?_)
  rw [List.getElem_map, arith_get, Int.add_mul, Int.mul_assoc, Int.mul_comm (i : Int) t, Int.mul_assoc]
theorem arith_take {f s : Int} {n x : Nat} (hx : x ≤ n) : (arith f s n).take x = arith f s x := by
  refine arith_ext (by simp [arith_len]; lia) (fun i hi => ?_)
  rw [List.getElem_take, arith_get]
theorem arith_drop {f s : Int} {n x : Nat} (hx : x ≤ n) : (arith f s n).drop x = arith (f + s * x) s (n - x) := by
  refine arith_ext (by simp [arith_len]) (fun i hi => ?_)
  rw [List.getElem_drop, arith_get, Int.natCast_add, Int.mul_add]; lia
theorem getD_at {l : List Int} {k : Nat} (h : k < l.length) : l.getD k 0 = l[k] := by
  rw [List.getD_eq_getElem?_getD, List.getElem?_eq_getElem h, Option.getD_some]
theorem pick_at {l : List Int} : ∀ {idx : List Nat}, (∀ k ∈ idx, k < l.length) → idx.filterMap (l[·]?) = idx.map (fun k => l.getD k 0)
  | [], _ => rfl
  | k :: r, h => by
    have hk := h k (.head _)
    rw [List.filterMap_cons, List.getElem?_eq_getElem hk, List.map_cons, pick_at (fun j hj => h j (.tail _ hj)), getD_at hk]
theorem idx_even : ∀ n : Fin 9, sliceRange (sliceBounds none none (some 2) n.val).1 (sliceBounds none none (some 2) n.val).2.1 (sliceBounds none none (some 2) n.val).2.2 = (List.range ((n.val + 1) / 2)).map (fun i => 2 * i) := by decide +kernel
theorem idx_odd : ∀ n : Fin 9, sliceRange (sliceBounds (some 1) none (some 2) n.val).1 (sliceBounds (some 1) none (some 2) n.val).2.1 (sliceBounds (some 1) none (some 2) n.val).2.2 = (List.range (n.val / 2)).map (fun i => 2 * i + 1) := by decide +kernel
theorem arith_getD {f s : Int} {n i : Nat} (h : i < n) : (arith f s n).getD i 0 = f + s * i := by
  rw [getD_at (by rw [arith_len]; exact h), arith_get]
theorem arith_even {f s : Int} {n : Nat} (hn : n ≤ 8) : pickI (arith f s n) none none (some 2) = arith f (2 * s) ((n + 1) / 2) := by
  unfold pickI
  rw [arith_len, idx_even ⟨n, by lia⟩, pick_at (fun k hk => by
    obtain ⟨i, hi, rfl⟩ := List.mem_map.mp hk
    have := List.mem_range.mp hi
    rw [arith_len]; simp only at this; lia), List.map_map]
  refine arith_ext (by simp) (fun i hi => ?_)
  simp only [List.length_map, List.length_range] at hi
  rw [List.getElem_map, List.getElem_range]
  show (arith f s n).getD (2 * i) 0 = _
  rw [arith_getD (by lia), Int.natCast_mul, Int.mul_comm 2 s, Int.mul_assoc]
  rfl
theorem arith_odd {f s : Int} {n : Nat} (hn : n ≤ 8) : pickI (arith f s n) (some 1) none (some 2) = arith (f + s) (2 * s) (n / 2) := by
  unfold pickI
  rw [arith_len, idx_odd ⟨n, by lia⟩, pick_at (fun k hk => by
    obtain ⟨i, hi, rfl⟩ := List.mem_map.mp hk
    have := List.mem_range.mp hi
    rw [arith_len]; simp only at this; lia), List.map_map]
  refine arith_ext (by simp) (fun i hi => ?_)
  simp only [List.length_map, List.length_range] at hi
  rw [List.getElem_map, List.getElem_range]
  show (arith f s n).getD (2 * i + 1) 0 = _
  rw [arith_getD (by lia), Int.natCast_add, Int.mul_add, Int.natCast_mul, Int.mul_comm 2 s, Int.mul_assoc]
  simp
  lia
theorem arith_last {f s : Int} {n : Nat} : (arith f s (n + 1)).getLastD 0 = f + s * n := by
  simp [arith, List.range_succ]
theorem pow_wd {wd : Int} (h : 8 ≤ wd) : (128 : Int) ≤ 2 ^ (wd - 1).toNat := powI_ge (a := 7) (by lia)
theorem pow_wd2 {wd : Int} (h : 8 ≤ wd) : (512 : Int) ≤ 2 ^ (wd + 2 - 1).toNat := powI_ge (a := 9) (by lia)
theorem prod_between {s : Int} {n : Nat} {x : Int} (h0 : 0 ≤ x) (h1 : x ≤ n) : (0 ≤ s * x ∧ s * x ≤ s * n) ∨ (s * n ≤ s * x ∧ s * x ≤ 0) := by
  rcases Int.lt_or_le s 0 with hs | hs
  · right
    have a := Int.mul_le_mul_of_nonneg_left h1 (show 0 ≤ -s by lia)
    have b := Int.mul_nonneg (show 0 ≤ -s by lia) h0
    simp only [Int.neg_mul] at a b
    lia
  · left
    exact ⟨Int.mul_nonneg hs h0, Int.mul_le_mul_of_nonneg_left h1 hs⟩
theorem PlainN.shift {f lim s x : Int} {n : Nat} (P : PlainN f lim s n) : PlainN (f + x) (lim + x) s n := by
  rcases P with ⟨a, b, c⟩ | ⟨a, b, c⟩
  · exact .inl ⟨a, b.imp id (fun h => by lia), by lia⟩
  · exact .inr ⟨a, b.imp id (fun h => by lia), by lia⟩
theorem PlainN.rev {f lim s q : Int} {m : Nat} (P : PlainN f lim s (m + 1)) (h : (0 - s) * ((m + 1 : Nat) : Int) = - q - s) : PlainN (f + q) f (0 - s) (m + 1) := by
  unfold PlainN
  rw [h]
  rcases P with ⟨a, b, c⟩ | ⟨a, b, c⟩
  · exact .inr ⟨by lia, .inr (by lia), by lia⟩
  · exact .inl ⟨by lia, .inr (by lia), by lia⟩
theorem PlainN.neg {f lim s : Int} {n : Nat} (P : PlainN f lim s n) (h : (0 - s) * (n : Int) = - (s * n)) : PlainN (0 - f) (0 - lim) (0 - s) n := by
  unfold PlainN
  rw [h]
  rcases P with ⟨a, b, c⟩ | ⟨a, b, c⟩
  · exact .inr ⟨by lia, b.imp id (fun h => by lia), by lia⟩
  · exact .inl ⟨by lia, b.imp id (fun h => by lia), by lia⟩
theorem PlainN.mul {f lim s t : Int} {n : Nat} (P : PlainN f lim s n) (ht : 0 < t) (h : s * t * (n : Int) = s * n * t) : PlainN (f * t) (lim * t) (s * t) n := by
  unfold PlainN
  rw [h, ← Int.add_mul, ← Int.sub_mul]
  rcases P with ⟨a, b, c⟩ | ⟨a, b, c⟩
  · exact .inl ⟨Int.mul_pos a ht, b.imp id (fun h => Int.mul_le_mul_of_nonneg_right h (Int.le_of_lt ht)), Int.mul_lt_mul_of_pos_right c ht⟩
  · exact .inr ⟨Int.mul_neg_of_neg_of_pos a ht, b.imp id (fun h => Int.mul_le_mul_of_nonneg_right h (Int.le_of_lt ht)), Int.mul_lt_mul_of_pos_right c ht⟩
theorem PlainN.even {f lim s q : Int} {n k : Nat} (P : PlainN f lim s n) (hq : 2 * s * (k : Int) = q) (h0 : n = 0 → k = 0) (e : q = s * n ∨ q = s * n + s) : PlainN f lim (2 * s) k := by
  unfold PlainN
  rw [hq]
  rcases P with ⟨a, b, c⟩ | ⟨a, b, c⟩
  · exact .inl ⟨by lia, b.imp h0 (fun h => by lia), by lia⟩
  · exact .inr ⟨by lia, b.imp h0 (fun h => by lia), by lia⟩
theorem PlainN.odd {f lim s q : Int} {n k : Nat} (P : PlainN f lim s n) (hq : 2 * s * (k : Int) = q) (h0 : n = 0 → k = 0) (e : q = s * n ∨ q = s * n - s) : PlainN (f + s) lim (2 * s) k := by
  unfold PlainN
  rw [hq]
  rcases P with ⟨a, b, c⟩ | ⟨a, b, c⟩
  · exact .inl ⟨by lia, b.imp h0 (fun h => by lia), by lia⟩
  · exact .inr ⟨by lia, b.imp h0 (fun h => by lia), by lia⟩
theorem PlainN.few {f lim s x : Int} {n k : Nat} (P : PlainN f lim s n) (hk : (k : Int) = x) (e : s * (x - 1) = s * x - s) : PlainN f (f + s * (x - 1)) s k := by
  unfold PlainN
  rw [hk, e]
  rcases P with ⟨a, b, c⟩ | ⟨a, b, c⟩
  · exact .inl ⟨a, .inr (by lia), by lia⟩
  · exact .inr ⟨a, .inr (by lia), by lia⟩
theorem PlainN.on {f lim s x : Int} {n k : Nat} (P : PlainN f lim s n) (hk : s * (k : Int) = s * n - s * x) (h0 : n = 0 → k = 0) : PlainN (f + s * x) lim s k := by
  unfold PlainN
  rw [hk]
  rcases P with ⟨a, b, c⟩ | ⟨a, b, c⟩
  · exact .inl ⟨a, b.imp h0 (fun h => by lia), by lia⟩
  · exact .inr ⟨a, b.imp h0 (fun h => by lia), by lia⟩
theorem half_even {s : Int} {n : Nat} : 2 * s * (((n + 1) / 2 : Nat) : Int) = s * n ∨ 2 * s * (((n + 1) / 2 : Nat) : Int) = s * n + s := by
  rcases Nat.mod_two_eq_zero_or_one n with h | h
  · left
    rw [Int.mul_comm 2 s, Int.mul_assoc, show (2 : Int) * (((n + 1) / 2 : Nat) : Int) = n by lia]
  · right
    rw [Int.mul_comm 2 s, Int.mul_assoc, show (2 : Int) * (((n + 1) / 2 : Nat) : Int) = n + 1 by lia, Int.mul_add, Int.mul_one]
theorem half_odd {s : Int} {n : Nat} : 2 * s * ((n / 2 : Nat) : Int) = s * n ∨ 2 * s * ((n / 2 : Nat) : Int) = s * n - s := by
  rcases Nat.mod_two_eq_zero_or_one n with h | h
  · left
    rw [Int.mul_comm 2 s, Int.mul_assoc, show (2 : Int) * ((n / 2 : Nat) : Int) = n by lia]
  · right
    rw [Int.mul_comm 2 s, Int.mul_assoc, show (2 : Int) * ((n / 2 : Nat) : Int) = n - 1 by lia, Int.mul_sub, Int.mul_one]
theorem in128 {x y z : Int} (h1 : -30 ≤ x ∧ x ≤ 30) (h2 : -98 ≤ y ∧ y ≤ 97) (e : z = x + y) : -128 ≤ z ∧ z < 128 := by lia
theorem kin_hyp {f lim s wd : Int} {n : Nat} (hn : n ≤ 8) (w1 : 8 ≤ wd) (w2 : wd ≤ 64) (hf : -30 ≤ f ∧ f ≤ 30) (hs : -7 ≤ s ∧ s ≤ 7) (hl : -99 ≤ lim ∧ lim ≤ 99) (P : PlainN f lim s n) (hp : -56 ≤ s * n ∧ s * n ≤ 56) :
    roundsf f lim s wd 99 = arith f s n ∧ KinHyp f lim s wd (roundsf f lim s wd 99) := by
  have w0 : 1 ≤ wd := Int.le_trans (by decide) w1
  have n99 : n ≤ (99 : Int).toNat := Nat.le_trans hn (by decide)
  have e : roundsf f lim s wd 99 = arith f s n := plain_any 128 w0 (pow_wd w1) n99 P (by lia) (by lia)
  refine ⟨e, ?_⟩
  rw [e]
  refine ⟨by rw [arith_len]; exact hn, w1, w2, by lia, by lia, by lia, ?_, ?_, ?_, ?_, ?_, ?_, ?_, ?_⟩
  · intro hne
    cases n with
    | zero => simp [arith] at hne
    | succ m =>
      have e1 : s * ((m + 1 : Nat) : Int) = s * m + s := by rw [Int.natCast_add, Int.mul_add]; simp
      have e2 : (0 - s) * ((m + 1 : Nat) : Int) = - (s * m) - s := by rw [Int.sub_mul, e1]; lia
      rw [arith_last, arith_rev]
      rw [e1] at hp
      refine plain_any 128 w0 (pow_wd w1) n99 (P.rev e2) (by clear P e; lia) (by rw [e2]; clear P e; lia)
  · intro x h0 h1
    rw [arith_add]
    exact plain_any 128 w0 (pow_wd w1) n99 P.shift (by clear P e; lia) (by clear P e; lia)
  · rw [arith_neg]
    have e2 : (0 - s) * (n : Int) = - (s * n) := by rw [Int.sub_mul, Int.zero_mul, Int.zero_sub]
    exact plain_any 128 w0 (pow_wd w1) n99 (P.neg e2) (by clear P e; lia) (by rw [e2]; clear P e; lia)
  · intro x h0 h1
    rw [arith_mul]
    have ht : 2 + x = 2 ∨ 2 + x = 3 := by clear P e; lia
    have e2 : s * (2 + x) * (n : Int) = s * n * (2 + x) := by rw [Int.mul_assoc, Int.mul_assoc, Int.mul_comm (2 + x)]
    refine plain_any 512 (Int.le_trans w0 (by clear P e; lia)) (pow_wd2 w1) n99 (P.mul (by clear P e; lia) e2) ?_ ?_
    · clear P e; rcases ht with ht | ht <;> rw [ht] <;> lia
    · rw [e2]
      clear P e; rcases ht with ht | ht <;> rw [ht] <;> lia
  · rw [arith_even hn]
    have e2 := half_even (s := s) (n := n)
    refine plain_any 128 w0 (pow_wd w1) (Nat.le_trans (by clear P e e2; lia) n99) (P.even rfl (fun h => by rw [h]) e2) (by clear P e; lia) ?_
    generalize 2 * s * (((n + 1) / 2 : Nat) : Int) = q at *
    clear P e; lia
  · rw [arith_odd hn]
    have e2 := half_odd (s := s) (n := n)
    refine plain_any 128 w0 (pow_wd w1) (Nat.le_trans (by clear P e e2; lia) n99) (P.odd rfl (fun h => by rw [h]) e2) (by clear P e; lia) ?_
    generalize 2 * s * ((n / 2 : Nat) : Int) = q at *
    clear P e; lia
  · intro x h0 h1
    rw [arith_len] at h1
    rw [arith_take (by clear P e; lia)]
    have hx : ((x.toNat : Nat) : Int) = x := Int.toNat_of_nonneg h0
    have b := prod_between (s := s) (n := n) (x := x) h0 (by clear P e; lia)
    exact plain_any 128 w0 (pow_wd w1) (by clear P e b; lia) (P.few hx (by rw [Int.mul_sub, Int.mul_one])) (by clear P e; lia) (by rw [hx]; clear P e; lia)
  · intro x h0 h1
    rw [arith_len] at h1
    rw [arith_drop (by clear P e; lia)]
    have hx : ((x.toNat : Nat) : Int) = x := Int.toNat_of_nonneg h0
    have b := prod_between (s := s) (n := n) (x := x) h0 (by clear P e; lia)
    have e2 : s * ((n - x.toNat : Nat) : Int) = s * n - s * x := by
      rw [show ((n - x.toNat : Nat) : Int) = n - x by clear P e b; lia, Int.mul_sub]
    rw [hx]
    exact plain_any 128 w0 (pow_wd w1) (by clear P e b; lia) (P.on e2 (fun h => by rw [h, Nat.zero_sub])) (by clear P e; lia) (by rw [e2]; clear P e; lia)
end

section
theorem rangeKs_map {m : Int} {f : Int → Int} : List.map f (rangeKs 0 (m - 0).toNat) = (List.range m.toNat).map (fun (k : Nat) => f k) := by
  rw [Int.sub_zero]
  unfold rangeKs
  rw [List.map_map]
  refine List.map_congr_left (fun k _ => ?_)
  simp
theorem prod_b2 {s m : Int} (hm0 : 0 ≤ m) (hm1 : m < 9) (hs0 : 0 ≤ s) (hs1 : s < 7) : 0 ≤ (1 + s) * m ∧ (1 + s) * m ≤ 56 :=
  ⟨Int.mul_nonneg (by lia) hm0, Int.le_trans (Int.mul_le_mul_of_nonneg_left (show m ≤ 8 by lia) (by lia)) (by lia)⟩
theorem neg_prod2 {s m : Int} : (0 - (1 + s)) * m = - ((1 + s) * m) := by rw [Int.zero_sub, Int.neg_mul]
theorem down_hyp {f m s e wd : Int} (hw0 : 0 ≤ wd) (hw1 : wd < 57) (hf0 : 0 ≤ f) (hf1 : f < 61) (hm0 : 0 ≤ m) (hm1 : m < 9) (hs0 : 0 ≤ s) (hs1 : s < 7) (he0 : 0 ≤ e) (he1 : e < 1 + s) :
    roundsf (f - 30) (f - 30 + (0 - (1 + s)) * m + (1 + e)) (0 - (1 + s)) (8 + wd) 99 = List.map (fun k' => f - 30 + (0 - (1 + s)) * k') (rangeKs 0 (m - 0).toNat) ∧
    KinHyp (f - 30) (f - 30 + (0 - (1 + s)) * m + (1 + e)) (0 - (1 + s)) (8 + wd) (roundsf (f - 30) (f - 30 + (0 - (1 + s)) * m + (1 + e)) (0 - (1 + s)) (8 + wd) 99) := by
  have b := prod_b2 hm0 hm1 hs0 hs1
  have hm : ((m.toNat : Nat) : Int) = m := by lia
  rw [rangeKs_map]
  refine kin_hyp (n := m.toNat) (by lia) (by lia) (by lia) (by lia) (by lia) (by rw [neg_prod2]; lia) ?_ (by rw [hm, neg_prod2]; lia)
  unfold PlainN
  rw [hm, neg_prod2]
  rcases Int.lt_or_le 0 m with h | h
  · lia
  · obtain rfl : m = 0 := by lia
    simp
    lia
theorem up_hyp {f m s e wd : Int} (hw0 : 0 ≤ wd) (hw1 : wd < 57) (hf0 : 0 ≤ f) (hf1 : f < 61) (hm0 : 0 ≤ m) (hm1 : m < 9) (hs0 : 0 ≤ s) (hs1 : s < 7) (he0 : 0 ≤ e) (he1 : e < 1 + s) :
    roundsf (f - 30) (f - 30 + (1 + s) * m + (0 - (1 + e))) (1 + s) (8 + wd) 99 = List.map (fun k' => f - 30 + (1 + s) * k') (rangeKs 0 (m - 0).toNat) ∧
    KinHyp (f - 30) (f - 30 + (1 + s) * m + (0 - (1 + e))) (1 + s) (8 + wd) (roundsf (f - 30) (f - 30 + (1 + s) * m + (0 - (1 + e))) (1 + s) (8 + wd) 99) := by
  have b := prod_b2 hm0 hm1 hs0 hs1
  have hm : ((m.toNat : Nat) : Int) = m := by lia
  rw [rangeKs_map]
  refine kin_hyp (n := m.toNat) (by lia) (by lia) (by lia) (by lia) (by lia) (by lia) ?_ (by rw [hm]; lia)
  unfold PlainN
  rw [hm]
  rcases Int.lt_or_le 0 m with h | h
  · lia
  · obtain rfl : m = 0 := by lia
    simp
    lia
end

section
def shareGo (W st : Int) : Nat → Int → Int
  | 0, s => s
  | n + 1, s => if s < W ∧ st.fmod (2 * s) = 0 then shareGo W st n (2 * s) else s
structure ShareOK (W st S P : Int) : Prop where
  go : shareGo W st 5 1 = S
  mul : S * P = W
  s1 : 1 ≤ S
  s2 : S ≤ 32
  p1 : 1 ≤ P
  p2 : P ≤ 32
  dvd : st % S = 0
  inv : ∃ i : Int, 0 ≤ i ∧ (i * st) % W = S % W
def shareCheck (W st : Int) : Bool :=
  decide (shareGo W st 5 1 * (W / shareGo W st 5 1) = W ∧ 1 ≤ shareGo W st 5 1 ∧ shareGo W st 5 1 ≤ 32 ∧ 1 ≤ W / shareGo W st 5 1 ∧ W / shareGo W st 5 1 ≤ 32 ∧ st % shareGo W st 5 1 = 0) &&
    (List.range 32).any (fun i => decide (((i : Nat) : Int) * st % W = shareGo W st 5 1 % W))
theorem share_check {W st : Int} (h : shareCheck W st = true) : ShareOK W st (shareGo W st 5 1) (W / shareGo W st 5 1) := by
  unfold shareCheck at h
  rw [Bool.and_eq_true, decide_eq_true_eq, List.any_eq_true] at h
  obtain ⟨⟨h1, h2, h3, h4, h5, h6⟩, i, _, hi⟩ := h
  exact ⟨rfl, h1, h2, h3, h4, h5, h6, ⟨(i : Int), by lia, by simpa using hi⟩⟩
theorem share_2 : ∀ x : Fin 4, shareCheck 4 ((x.val : Int) - 2) = true := by decide +kernel
theorem share_3 : ∀ x : Fin 8, shareCheck 8 ((x.val : Int) - 4) = true := by decide +kernel
theorem share_4 : ∀ x : Fin 16, shareCheck 16 ((x.val : Int) - 8) = true := by decide +kernel
theorem share_5 : ∀ x : Fin 32, shareCheck 32 ((x.val : Int) - 16) = true := by decide +kernel
theorem share_ex {W H n y : Int} (hn0 : 0 ≤ n) (hn1 : n < 4) (hW : W = 2 ^ (2 + n).toNat) (hH : W = 2 * H) (hy0 : 0 ≤ y) (hy1 : y < W) : ∃ S P, ShareOK W (y - H) S P := by
  have e : ((y.toNat : Nat) : Int) = y := by lia
  have : n = 0 ∨ n = 1 ∨ n = 2 ∨ n = 3 := by lia
  rcases this with rfl | rfl | rfl | rfl
  · have hW' : W = 4 := hW
    obtain rfl : H = 2 := by lia
    subst hW'
    have := share_2 ⟨y.toNat, by lia⟩
    simp only [e] at this
    exact ⟨_, _, share_check this⟩
  · have hW' : W = 8 := hW
    obtain rfl : H = 4 := by lia
    subst hW'
    have := share_3 ⟨y.toNat, by lia⟩
    simp only [e] at this
    exact ⟨_, _, share_check this⟩
  · have hW' : W = 16 := hW
    obtain rfl : H = 8 := by lia
    subst hW'
    have := share_4 ⟨y.toNat, by lia⟩
    simp only [e] at this
    exact ⟨_, _, share_check this⟩
  · have hW' : W = 32 := hW
    obtain rfl : H = 16 := by lia
    subst hW'
    have := share_5 ⟨y.toNat, by lia⟩
    simp only [e] at this
    exact ⟨_, _, share_check this⟩

/-- the numbers one after the other -/
def orb (f st w : Int) (n : Nat) : List Int := (List.range n).map (fun (k : Nat) => wrapf (f + st * k) w)
theorem orb_len {f st w : Int} {n : Nat} : (orb f st w n).length = n := by simp [orb]
theorem orb_get {f st w : Int} {n i : Nat} (h : i < (orb f st w n).length) : (orb f st w n)[i] = wrapf (f + st * i) w := by simp [orb]
theorem orb_succ {f st w : Int} {n : Nat} : orb f st w (n + 1) = wrapf f w :: orb (f + st) st w n := by
  unfold orb
  rw [mapRange_succ]
  simp only [Int.natCast_zero, Int.mul_zero, Int.add_zero]
  congr 1
  refine List.map_congr_left (fun k _ => ?_)
  rw [Int.natCast_add, Int.mul_add]
  congr 1
  simp
  lia
theorem rounds_orb {lim st w : Int} : ∀ (n : Nat) (f : Int), roundsGo lim st w n (goOpt (wrapf f w) lim st) = (orb f st w n).takeWhile (fun y => goesf y lim st)
  | 0, f => rfl
  | n + 1, f => by
    rw [orb_succ, List.takeWhile_cons]
    cases h : goesf (wrapf f w) lim st with
    | false => rw [goOpt, h]; exact roundsGo_none _
    | true =>
      rw [goOpt, if_pos h, roundsGo, nextf_wrap, wrapf_add, rounds_orb n (f + st)]
      simp
theorem rounds_is {f lim st w most : Int} : roundsf f lim st w most = (orb f st w most.toNat).takeWhile (fun y => goesf y lim st) := by
  rw [roundsf_eq]; exact rounds_orb _ _
theorem take_all {p : Int → Bool} : ∀ {l : List Int}, (∀ x ∈ l, p x = true) → l.takeWhile p = l
  | [], _ => rfl
  | x :: r, h => by rw [List.takeWhile_cons, if_pos (h x (.head _)), take_all (fun y hy => h y (.tail _ hy))]
theorem take_len {p : Int → Bool} : ∀ {l : List Int}, (l.takeWhile p).length ≤ l.length
  | [] => Nat.le_refl _
  | x :: r => by
    rw [List.takeWhile_cons]
    split
    · exact Nat.succ_le_succ take_len
    · exact Nat.zero_le _
theorem take_is {p : Int → Bool} : ∀ {l : List Int}, l.takeWhile p = l.take (l.takeWhile p).length
  | [] => rfl
  | x :: r => by
    rw [List.takeWhile_cons]
    split
    · rw [List.length_cons, List.take_succ_cons, ← take_is]
    · rfl
theorem take_stops {p : Int → Bool} : ∀ {l : List Int} (h : (l.takeWhile p).length < l.length), p (l[(l.takeWhile p).length]) = false
  | [], h => by simp at h
  | x :: r, h => by
    cases hx : p x with
    | true =>
      have e : (x :: r).takeWhile p = x :: r.takeWhile p := by rw [List.takeWhile_cons, if_pos hx]
      have h' : (r.takeWhile p).length < r.length := by rw [e] at h; simpa using h
      have := take_stops h'
      simpa [e] using this
    | false =>
      have e : (x :: r).takeWhile p = [] := by rw [List.takeWhile_cons, hx]; rfl
      simpa [e] using hx
theorem take_before {p : Int → Bool} : ∀ {l : List Int} {x : Int}, x ∈ l.takeWhile p → p x = true ∧ x ∈ l
  | y :: r, x, h => by
    rw [List.takeWhile_cons] at h
    split at h
    · rename_i hy
      rcases List.mem_cons.mp h with rfl | h
      · exact ⟨hy, .head _⟩
      · have := take_before h
        exact ⟨this.1, .tail _ this.2⟩
    · cases h
/-- all go before one that does not -/
theorem take_short {p : Int → Bool} : ∀ {l : List Int} {i : Nat} (hi : i < l.length), p l[i] = false → (l.takeWhile p).length ≤ i
  | x :: r, 0, _, h => by
    rw [List.takeWhile_cons, if_neg (by rw [show p x = false from h]; exact Bool.false_ne_true)]
    exact Nat.le_refl _
  | x :: r, i + 1, hi, h => by
    rw [List.takeWhile_cons]
    split
    · exact Nat.succ_le_succ (take_short (Nat.lt_of_succ_lt_succ hi) h)
    · exact Nat.zero_le _
end

section
theorem dvd_wrap {n w : Int} : (2 : Int) ^ w.toNat ∣ wrapf n w - n :=
  Int.dvd_of_emod_eq_zero (Int.emod_eq_emod_iff_emod_sub_eq_zero.mp wrapf_mod)
theorem wrap_dvd {a b w : Int} (h : (2 : Int) ^ w.toNat ∣ a - b) : wrapf a w = wrapf b w :=
  wrapf_cong (Int.emod_eq_emod_iff_emod_sub_eq_zero.mpr (Int.emod_eq_zero_of_dvd h))
/-- the setting of the second loop -/
structure RingSet (wd W H f st S P : Int) : Prop where
  w1 : 1 ≤ wd
  hW : W = 2 ^ wd.toNat
  hH : W = 2 * H
  hH1 : 1 ≤ H
  f1 : -H ≤ f
  f2 : f < H
  sh : ShareOK W st S P
section
variable {wd W H f st S P : Int} (R : RingSet wd W H f st S P)
include R
theorem RingSet.half : H = 2 ^ (wd - 1).toNat := by
  have h1 := R.hW
  have h2 := R.hH
  have h3 := pow_half R.w1
  lia
theorem RingSet.range (n : Int) : -H ≤ wrapf n wd ∧ wrapf n wd < H := by
  have h := wrapf_range (n := n) R.w1
  rw [← R.half] at h
  exact h
theorem RingSet.id {x : Int} (h1 : -H ≤ x) (h2 : x < H) : wrapf x wd = x :=
  wrapf_id R.w1 (by rw [← R.half]; exact h1) (by rw [← R.half]; exact h2)
theorem RingSet.dvdW : S ∣ W := ⟨P, R.sh.mul.symm⟩
theorem RingSet.dvdSt : S ∣ st := Int.dvd_of_emod_eq_zero R.sh.dvd
theorem RingSet.full : W ∣ st * P := by
  obtain ⟨t, ht⟩ := R.dvdSt
  exact ⟨t, by rw [ht, Int.mul_right_comm, R.sh.mul]⟩
theorem RingSet.wrapDvd (n : Int) : W ∣ wrapf n wd - n := by rw [R.hW]; exact dvd_wrap
theorem RingSet.eq {a b : Int} (h : W ∣ a - b) : wrapf a wd = wrapf b wd := wrap_dvd (by rw [← R.hW]; exact h)
theorem RingSet.last : wrapf (f + st * P) wd = f := by
  rw [R.eq (b := f) (by rw [show f + st * P - f = st * P by lia]; exact R.full), R.id R.f1 R.f2]
theorem RingSet.of_mem {x : Int} {n : Nat} (h : x ∈ orb f st wd n) : -H ≤ x ∧ x < H ∧ (x - f) % S = 0 := by
  obtain ⟨k, _, rfl⟩ := List.mem_map.mp h
  have hr := R.range (f + st * (k : Int))
  refine ⟨hr.1, hr.2, Int.emod_eq_zero_of_dvd ?_⟩
  have h1 := Int.dvd_trans R.dvdW (R.wrapDvd (f + st * (k : Int)))
  have h2 : S ∣ st * (k : Int) := Int.dvd_trans R.dvdSt ⟨_, rfl⟩
  have h3 := Int.dvd_add h1 h2
  have e : wrapf (f + st * (k : Int)) wd - (f + st * (k : Int)) + st * (k : Int) = wrapf (f + st * (k : Int)) wd - f := by lia
  rwa [e] at h3
theorem RingSet.mem {x : Int} (h1 : -H ≤ x) (h2 : x < H) (h3 : (x - f) % S = 0) : x ∈ orb f st wd P.toNat := by
  obtain ⟨q, hq⟩ := Int.dvd_of_emod_eq_zero h3
  obtain ⟨i, hi0, hi⟩ := R.sh.inv
  have hi' : W ∣ i * st - S := Int.dvd_of_emod_eq_zero (Int.emod_eq_emod_iff_emod_sub_eq_zero.mp hi)
  have hp := R.sh.p1
  have k0 := Int.emod_nonneg (q * i) (show P ≠ 0 by lia)
  have k1 := Int.emod_lt_of_pos (q * i) (show 0 < P by lia)
  refine List.mem_map.mpr ⟨((q * i) % P).toNat, List.mem_range.mpr (by lia), ?_⟩
  rw [show ((((q * i) % P).toNat : Nat) : Int) = (q * i) % P by lia]
  rw [R.eq (b := x) ?_, R.id h1 h2]
  have d1 : W ∣ st * ((q * i) % P) - st * (q * i) := by
    have e := Int.emod_add_mul_ediv (q * i) P
    have e2 : st * ((q * i) % P) - st * (q * i) = st * P * (-((q * i) / P)) := by
      have : st * (q * i) = st * ((q * i) % P) + st * (P * ((q * i) / P)) := by rw [← Int.mul_add, e]
      rw [this, Int.mul_neg, Int.mul_assoc]; lia
    rw [e2]
    exact Int.dvd_trans R.full ⟨_, rfl⟩
  have d2 : W ∣ st * (q * i) - S * q := by
    obtain ⟨c, hc⟩ := hi'
    refine ⟨c * q, ?_⟩
    rw [← Int.mul_assoc W, ← hc, Int.sub_mul]
    congr 1
    rw [Int.mul_comm q i, ← Int.mul_assoc, Int.mul_comm st i]
  have d3 := Int.dvd_add d1 d2
  have e3 : st * ((q * i) % P) - st * (q * i) + (st * (q * i) - S * q) = f + st * ((q * i) % P) - x := by
    rw [← hq]; lia
  rwa [e3] at d3
theorem RingSet.inj {a b : Nat} (ha : a < P.toNat) (hb : b < P.toNat) (h : wrapf (f + st * (a : Int)) wd = wrapf (f + st * (b : Int)) wd) : a = b := by
  obtain ⟨i, hi0, hi⟩ := R.sh.inv
  have hi' : W ∣ i * st - S := Int.dvd_of_emod_eq_zero (Int.emod_eq_emod_iff_emod_sub_eq_zero.mp hi)
  have d1 := R.wrapDvd (f + st * (a : Int))
  have d2 := R.wrapDvd (f + st * (b : Int))
  rw [h] at d1
  have d3 := Int.dvd_sub d2 d1
  have e3 : wrapf (f + st * (b : Int)) wd - (f + st * (b : Int)) - (wrapf (f + st * (b : Int)) wd - (f + st * (a : Int))) = st * ((a : Int) - b) := by
    rw [Int.mul_sub]; lia
  rw [e3] at d3
  have d4 : W ∣ i * (st * ((a : Int) - b)) := Int.dvd_trans d3 ⟨i, Int.mul_comm _ _⟩
  have d5 : W ∣ (i * st - S) * ((a : Int) - b) := Int.dvd_trans hi' ⟨_, rfl⟩
  have d6 := Int.dvd_sub d4 d5
  have e6 : i * (st * ((a : Int) - b)) - (i * st - S) * ((a : Int) - b) = S * ((a : Int) - b) := by
    rw [Int.sub_mul, ← Int.mul_assoc]; lia
  rw [e6, ← R.sh.mul] at d6
  have hs := R.sh.s1
  have d7 : P ∣ (a : Int) - b := Int.dvd_of_mul_dvd_mul_left (by lia) d6
  obtain ⟨c, hc⟩ := d7
  have hp := R.sh.p1
  have hc0 : c = 0 := by
    rcases Int.lt_trichotomy c 0 with h | h | h
    · have := Int.mul_le_mul_of_nonneg_left (show c ≤ -1 by lia) (show 0 ≤ P by lia)
      lia
    · exact h
    · have := Int.mul_le_mul_of_nonneg_left (show 1 ≤ c by lia) (show 0 ≤ P by lia)
      lia
  rw [hc0] at hc
  lia
theorem RingSet.nodup : (orb f st wd P.toNat).Nodup := by
  unfold orb List.Nodup
  rw [List.pairwise_map]
  refine List.Pairwise.imp_of_mem (fun {a b} ha hb hab h => ?_) (List.nodup_range (n := P.toNat))
  exact hab (R.inj (List.mem_range.mp ha) (List.mem_range.mp hb) h)
end
end

section
/-- the greatest (the least) number of the width: no loop by this step passes it -/
def EdgeOf (H st e : Int) : Prop := (0 < st ∧ e = H - 1) ∨ (¬ 0 < st ∧ e = 0 - H)
/-- the numbers of the ring, in order -/
def ringL (H f S : Int) : List Int := (rangeKs (0 - H) (H - (0 - H)).toNat).filter (fun k => (k - f).fmod S == 0)
theorem orb_snoc {f st w : Int} {n : Nat} : orb f st w (n + 1) = orb f st w n ++ [wrapf (f + st * n) w] := by
  simp [orb, List.range_succ]
theorem orb_getD {f st w : Int} {n i : Nat} (h : i < n) : (orb f st w n).getD i 0 = wrapf (f + st * i) w := by
  rw [List.getD_eq_getElem?_getD, List.getElem?_eq_getElem (by rw [orb_len]; exact h), Option.getD_some, orb_get]
theorem strict_of {l : List Int} (ho : l.Pairwise (· ≤ ·)) (hn : l.Nodup) : l.Pairwise (· < ·) := by
  have h := List.Pairwise.and ho hn
  exact List.Pairwise.imp (fun {a b} hab => by obtain ⟨h1, h2⟩ := hab; lia) h
section
variable {wd W H f st S P e : Int} (R : RingSet wd W H f st S P)
include R
theorem RingSet.pn : (P + 1).toNat = P.toNat + 1 := by have := R.sh.p1; lia
theorem RingSet.go_edge (he : EdgeOf H st e) (n : Int) : goesf (wrapf n wd) e st = true := by
  have hr := R.range n
  unfold goesf
  rcases he with ⟨h1, rfl⟩ | ⟨h1, rfl⟩
  · rw [if_pos h1, decide_eq_true_eq]; lia
  · rw [if_neg h1, decide_eq_true_eq]; lia
theorem RingSet.free (he : EdgeOf H st e) : roundsf f e st wd (P + 1) = orb f st wd (P.toNat + 1) := by
  rw [rounds_is, R.pn]
  refine take_all (fun x hx => ?_)
  obtain ⟨k, _, rfl⟩ := List.mem_map.mp hx
  exact R.go_edge he _
theorem RingSet.e1 (he : EdgeOf H st e) : ((roundsf f e st wd (P + 1)).length : Int) = P + 1 := by
  rw [R.free he, orb_len]
  have := R.sh.p1
  lia
theorem RingSet.e2 (he : EdgeOf H st e) : (roundsf f e st wd (P + 1)).getD (-1 + ((roundsf f e st wd (P + 1)).length : Int)).toNat 0 = f := by
  rw [R.e1 he, R.free he, show (-1 + (P + 1)).toNat = P.toNat by lia, orb_getD (by lia)]
  have := R.sh.p1
  rw [show ((P.toNat : Nat) : Int) = P by lia, R.last]
theorem RingSet.e2' (he : EdgeOf H st e) : (roundsf f e st wd (P + 1)).getLastD 0 = f := by
  rw [R.free he, orb_snoc]
  have := R.sh.p1
  rw [show ((P.toNat : Nat) : Int) = P by lia, R.last]
  simp
theorem RingSet.take (he : EdgeOf H st e) : (roundsf f e st wd (P + 1)).take ((roundsf f e st wd (P + 1)).length - 1) = orb f st wd P.toNat := by
  rw [R.free he, orb_len, orb_snoc, Nat.add_sub_cancel, List.take_append_of_le_length (by rw [orb_len]; exact Nat.le_refl _), List.take_of_length_le (by rw [orb_len]; exact Nat.le_refl _)]
theorem RingSet.mem_iff {x : Int} : x ∈ ringL H f S ↔ x ∈ orb f st wd P.toNat := by
  have hs := R.sh.s1
  constructor
  · intro h
    obtain ⟨h1, h2⟩ := List.mem_filter.mp h
    have hr := mem_rangeKs h1
    have := R.hH1
    rw [beq_iff_eq, Int.fmod_eq_emod_of_nonneg _ (by lia)] at h2
    exact R.mem (by lia) (by lia) h2
  · intro h
    obtain ⟨h1, h2, h3⟩ := R.of_mem h
    refine List.mem_filter.mpr ⟨?_, ?_⟩
    · refine List.mem_map.mpr ⟨(x - (0 - H)).toNat, List.mem_range.mpr (by lia), by lia⟩
    · rw [beq_iff_eq, Int.fmod_eq_emod_of_nonneg _ (by lia)]
      exact h3
end
theorem ringL_lt' {H f S : Int} : (ringL H f S).Pairwise (· < ·) := List.Pairwise.filter _ (by
  unfold rangeKs
  rw [List.pairwise_map]
  exact List.Pairwise.imp (fun {x y} h => by lia) (List.pairwise_lt_range))
section
variable {wd W H f st S P e : Int} (R : RingSet wd W H f st S P)
include R
theorem RingSet.e3 (he : EdgeOf H st e) {n' : List Int} (hp : n'.Perm ((roundsf f e st wd (P + 1)).take ((roundsf f e st wd (P + 1)).length - 1))) (ho : n'.Pairwise (· ≤ ·)) : n' = ringL H f S := by
  rw [R.take he] at hp
  have hr := ringL_lt' (H := H) (f := f) (S := S)
  have hrn : (ringL H f S).Nodup := List.Pairwise.imp (fun {a b} h => by lia) hr
  have hro : (ringL H f S).Pairwise (· ≤ ·) := List.Pairwise.imp (fun {a b} h => by lia) hr
  have hperm : (orb f st wd P.toNat).Perm (ringL H f S) := (List.perm_ext_iff_of_nodup R.nodup hrn).mpr fun x => R.mem_iff.symm
  exact ksm_same (hp.trans hperm) ho hro
theorem RingSet.go_mem {lim : Int} {x : Int} (hx : x ∈ orb f st wd (P.toNat + 1)) : x ∈ ringL H f S := by
  rw [orb_snoc] at hx
  rcases List.mem_append.mp hx with hx | hx
  · exact R.mem_iff.mpr hx
  · rw [List.mem_singleton] at hx
    have hp := R.sh.p1
    rw [show ((P.toNat : Nat) : Int) = P by lia, R.last] at hx
    subst hx
    refine R.mem_iff.mpr (R.mem R.f1 R.f2 (by simp))
/-- no number is passed: the loop goes on for ever -/
theorem RingSet.all {lim : Int} (he : EdgeOf H st e) (h : ∀ x ∈ ringL H f S, goesf x lim st = true) : roundsf f lim st wd (P + 1) = roundsf f e st wd (P + 1) := by
  rw [R.free he, rounds_is, R.pn]
  exact take_all (fun x hx => h x (R.go_mem (lim := lim) hx))
theorem RingSet.short {lim : Int} {x : Int} (hx : x ∈ ringL H f S) (hg : goesf x lim st = false) : ((roundsf f lim st wd (P + 1)).length : Int) < P := by
  have hx' := R.mem_iff.mp hx
  obtain ⟨k, hk, rfl⟩ := List.mem_map.mp hx'
  have hk' := List.mem_range.mp hk
  rw [rounds_is, R.pn]
  have := take_short (p := fun y => goesf y lim st) (l := orb f st wd (P.toNat + 1)) (i := k) (by rw [orb_len]; lia) (by rw [orb_get]; exact hg)
  lia
theorem RingSet.is_take {lim : Int} (he : EdgeOf H st e) : roundsf f lim st wd (P + 1) = (roundsf f e st wd (P + 1)).take (roundsf f lim st wd (P + 1)).length := by
  rw [R.free he, rounds_is, R.pn]
  exact take_is
theorem RingSet.stops {lim : Int} (he : EdgeOf H st e) (h : ((roundsf f lim st wd (P + 1)).length : Int) ≤ P) :
    (roundsf f e st wd (P + 1)).getD (roundsf f lim st wd (P + 1)).length 0 ∈ ringL H f S ∧ goesf ((roundsf f e st wd (P + 1)).getD (roundsf f lim st wd (P + 1)).length 0) lim st = false := by
  have hp := R.sh.p1
  rw [R.free he]
  rw [rounds_is, R.pn] at h ⊢
  have hlt : ((orb f st wd (P.toNat + 1)).takeWhile (fun y => goesf y lim st)).length < (orb f st wd (P.toNat + 1)).length := by rw [orb_len]; lia
  rw [List.getD_eq_getElem?_getD, List.getElem?_eq_getElem hlt, Option.getD_some]
  exact ⟨R.go_mem (lim := lim) (List.getElem_mem hlt), take_stops (p := fun y => goesf y lim st) hlt⟩
theorem RingSet.goes {lim : Int} {x : Int} (h : x ∈ roundsf f lim st wd (P + 1)) : goesf x lim st = true := by
  rw [rounds_is] at h
  exact (take_before h).1
end
end

section
/-- the numbers of the ring that are passed -/
def passL (H f S lim st : Int) : List Int := (ringL H f S).filter (fun k => !goesf k lim st)
theorem mem_pass {H f S lim st x : Int} : x ∈ passL H f S lim st ↔ x ∈ ringL H f S ∧ goesf x lim st = false := by
  unfold passL
  rw [List.mem_filter]
  simp
section
variable {wd W H f st S P e lim : Int} (R : RingSet wd W H f st S P)
include R
theorem RingSet.g1 (he : EdgeOf H st e) (h : decide (passL H f S lim st = []) = true) : decide (roundsf f lim st wd (P + 1) = roundsf f e st wd (P + 1)) = true := by
  have h' : passL H f S lim st = [] := of_decide_eq_true h
  refine decide_eq_true (R.all he (fun x hx => ?_))
  cases hg : goesf x lim st with
  | true => rfl
  | false =>
    have := mem_pass.mpr ⟨hx, hg⟩
    rw [h'] at this
    cases this
theorem RingSet.g2 (h : decide (passL H f S lim st = []) = false) (hl : P < ((roundsf f lim st wd (P + 1)).length : Int)) : False := by
  have h' : passL H f S lim st ≠ [] := of_decide_eq_false h
  obtain ⟨x, hx⟩ := List.exists_mem_of_ne_nil _ h'
  obtain ⟨h1, h2⟩ := mem_pass.mp hx
  have := R.short h1 h2
  lia
theorem RingSet.g3 : decide (List.filter (fun k' => (passL H f S lim st).any fun x => x == k') (roundsf f lim st wd (P + 1)) = []) = true := by
  refine decide_eq_true (List.filter_eq_nil_iff.mpr (fun k hk ha => ?_))
  obtain ⟨x, hx, hxk⟩ := List.any_eq_true.mp ha
  rw [beq_iff_eq] at hxk
  subst hxk
  have := (mem_pass.mp hx).2
  rw [R.goes hk] at this
  cases this
theorem RingSet.g4 (he : EdgeOf H st e) (hl : ((roundsf f lim st wd (P + 1)).length : Int) ≤ P) :
    ((passL H f S lim st).any fun x => x == (roundsf f e st wd (P + 1)).getD (((roundsf f lim st wd (P + 1)).length : Nat) : Int).toNat 0) = true := by
  rw [Int.toNat_natCast]
  obtain ⟨h1, h2⟩ := R.stops (lim := lim) he hl
  exact List.any_eq_true.mpr ⟨_, mem_pass.mpr ⟨h1, h2⟩, beq_self_eq_true _⟩
theorem RingSet.g5 (he : EdgeOf H st e) : decide (roundsf f lim st wd (P + 1) = List.take (((roundsf f lim st wd (P + 1)).length : Nat) : Int).toNat (roundsf f e st wd (P + 1))) = true := by
  rw [Int.toNat_natCast]
  exact decide_eq_true (R.is_take he)
end
end

section
def ShFuel (n : Nat) (sh : Int) : Prop := 32 ≤ sh * 2 ^ n
def ShInv (W st S : Int) (m₀ : PySem.Str → Option Value) (g : Obj → Led) (n : Nat) (m : PySem.Str → Option Value) (nx : Led) : Prop :=
  ∃ (o : Obj) (sh : Int) (t : Tok), nx = g o ∧ m = m₀ ∧ o.data = .cell (some (.int sh t)) ∧ 1 ≤ sh ∧ sh ≤ 64 ∧ ShFuel n sh ∧ shareGo W st n sh = S
def ShStep (h₀ : Heap) (L : Addr) (s : Shared) (W st S : Int) (m₀ : PySem.Str → Option Value) (g : Obj → Led) (n : Nat) (f : Flow) (s₃ : Shared) : Prop :=
  WhileStep2 h₀ L s (ShInv W st S m₀ g) (fun _ _ => False) n f s₃
def ShExit (h₀ : Heap) (L : Addr) (s : Shared) (S : Int) (m₀ : PySem.Str → Option Value) (g : Obj → Led) (s₂ : Shared) : Prop :=
  ∃ (o : Obj) (t : Tok) (h : Heap) (tk : Nat), s₂ = { s with heap := h, toks := tk } ∧ o.data = .cell (some (.int S t)) ∧ Fr h₀ L h m₀ ∧ News h₀ L h (g o)
section
variable {prog : Program} {w : World} {A : Around} {E : Value → Shared → Prop} {Q : Flow → Shared → Prop} {s : Shared} {env : Env} {h₀ : Heap} {L : Addr}
theorem share_loop {test : Expr} {body : List Stmt} {pos : Pos} {m₀ : PySem.Str → Option Value} {W st S P : Int} {ac : Addr} {o : Obj} {t : Tok} {news : Led} {g : Obj → Led}
    (F : Fr h₀ L s.heap m₀) (N : News h₀ L s.heap news) (hc : env.cells.lookup (PySem.Str.ofString "share") = some ac) (U : UpdF ac o news g) (hd : o.data = .cell (some (.int 1 t))) (hS : ShareOK W st S P)
    (turn : ∀ (n : Nat) (o' : Obj) (sh : Int) (t : Tok) (h : Heap) (tk : Nat), o'.data = .cell (some (.int sh t)) → 1 ≤ sh → sh ≤ 64 → ShFuel n sh → shareGo W st n sh = S → Fr h₀ L h m₀ → News h₀ L h (g o') →
      wpAny (model prog w) A (isTrue test env (eval test env)) (fun b s₂ =>
        if b = true then wpAny (model prog w) A (execs body env) (ShStep h₀ L s W st S m₀ g n) E s₂ else ShExit h₀ L s S m₀ g s₂) E { s with heap := h, toks := tk })
    (stop : ∀ (o' : Obj) (t : Tok) (h : Heap) (tk : Nat), o'.data = .cell (some (.int S t)) → Fr h₀ L h m₀ → News h₀ L h (g o') → Q .next { s with heap := h, toks := tk })
    (hE : PassesOwn (model prog w) A env E := by passes_own) :
    wpAny (model prog w) A (exec (.While test body [] pos) env) Q E s := by
  have hg : news = g o := by
    obtain ⟨pre, post, e1, e2, _, _⟩ := U.split
    rw [e1, e2]
  refine While_inv2 (ShInv W st S m₀ g) (n₀ := 5) F N ⟨o, 1, t, hg, rfl, hd, by decide, by decide, by unfold ShFuel; decide, hS.go⟩ ?_ hE
  rintro n m₁ nx h tk F₁ N₁ ⟨o', sh, t', rfl, rfl, hd', h1, h2, h3, h4⟩
  refine wpAny_mono (turn n o' sh t' h tk hd' h1 h2 h3 h4 F₁ N₁) (fun b s₂ q => ?_) fun _ _ x => x
  cases b with
  | true =>
    simp only [if_true] at q ⊢
    refine wpAny_mono q (fun f s₃ q => ?_) fun _ _ x => x
    cases f with
    | next => exact q
    | cont => exact q
    | brk => exact False.elim q
    | ret v => exact False.elim q
  | false =>
    simp only [Bool.false_eq_true, if_false] at q ⊢
    obtain ⟨o₂, t₂, h₂, tk₂, rfl, hd₂, F₂, N₂⟩ := q
    exact stop o₂ t₂ h₂ tk₂ hd₂ F₂ N₂
theorem share_next {W H st S : Int} {m₀ : PySem.Str → Option Value} {g : Obj → Led} {n : Nat} {o : Obj} {sh : Int} {t : Tok} {h : Heap} {tk : Nat} (hW : W = 2 * H) (hH : H ≤ 16) (h1 : 1 ≤ sh) (h3 : ShFuel n sh) (h4 : shareGo W st n sh = S) (hlt : sh < W) (hm : st.fmod (2 * sh) = 0)
    (F : Fr h₀ L h m₀) (hd : o.data = .cell (some (.int (2 * sh) t))) (N : News h₀ L h (g o)) : ShStep h₀ L s W st S m₀ g n .next { s with heap := h, toks := tk } := by
  cases n with
  | zero => unfold ShFuel at h3; simp at h3; lia
  | succ k =>
    refine ⟨h, tk, m₀, g o, k, rfl, F, N, Nat.lt_succ_self k, o, 2 * sh, t, rfl, rfl, hd, by lia, by lia, ?_, ?_⟩
    · unfold ShFuel at h3 ⊢
      rw [Int.pow_succ] at h3
      rw [Int.mul_comm 2 sh, Int.mul_assoc, Int.mul_comm 2]
      exact h3
    · rw [shareGo, if_pos ⟨hlt, hm⟩] at h4
      exact h4
theorem share_exit {W st S : Int} {m₀ : PySem.Str → Option Value} {g : Obj → Led} {n : Nat} {o : Obj} {sh : Int} {t : Tok} {h : Heap} {tk : Nat} (h4 : shareGo W st n sh = S) (hn : ¬ (sh < W ∧ st.fmod (2 * sh) = 0))
    (F : Fr h₀ L h m₀) (hd : o.data = .cell (some (.int sh t))) (N : News h₀ L h (g o)) : ShExit h₀ L s S m₀ g { s with heap := h, toks := tk } := by
  have e : sh = S := by
    cases n with
    | zero => exact h4
    | succ k => rw [shareGo, if_neg hn] at h4; exact h4
  subst e
  exact ⟨o, t, h, tk, rfl, hd, F, N⟩
end
theorem size_of {ys : List Value} {ns : List Int} (hi : IntsAre ys ns) (h : ns.length ≤ 1000) : ys.toArray.size ≤ sizeLine := by
  rw [PySem.sizeLine_eq, List.size_toArray, hi.length]; lia
theorem size_filt {ys : List Value} {p : Int → Bool} {a : Int} {n : Nat} (hi : IntsAre ys ((rangeKs a n).filter p)) (h : n ≤ 1000) : ys.toArray.size ≤ sizeLine := by
  have := List.length_filter_le p (rangeKs a n)
  rw [rangeKs_length] at this
  exact size_of hi (by lia)
/-- a test's end: nothing is changed, its answer -/
def FT (h₀ : Heap) (L : Addr) (m : PySem.Str → Option Value) (s₁ : Shared) (all : Led) (b' : Bool) (b : Bool) (s' : Shared) : Prop :=
  ∃ (h' : Heap) (tk' : Nat), s' = { s₁ with heap := h', toks := tk' } ∧ Fr h₀ L h' m ∧ News h₀ L h' all ∧ b = b'
theorem ft {h₀ : Heap} {L : Addr} {m : PySem.Str → Option Value} {s₁ : Shared} {all : Led} {b' b : Bool} {h' : Heap} {tk' : Nat} (F : Fr h₀ L h' m) (N : News h₀ L h' all) (e : b = b') : FT h₀ L m s₁ all b' b { s₁ with heap := h', toks := tk' } :=
  ⟨h', tk', rfl, F, N, e⟩
section
variable {prog : Program} {w : World} {A : Around} {h₀ : Heap} {L : Addr} {m : PySem.Str → Option Value} {env : Env} {ct : Expr} {x : PySem.Str} {px : Pos} {scope : Scope} {cl : List (PySem.Str × Addr)} {s : Shared} {S : Led → Prop} {P : Nat → Value → Prop} {Fin : List Value → Led → Prop} {news : Led}
theorem filt_rest {n : Nat} {ks : List Int} (p : Int → Bool) (hk : ∀ C, (compEnvC scope cl C env).scope.kind = .function) (hl : ∀ C, (compEnvC scope cl C env).kindOf x = some .local) (hdb : (x == ("__debug__" : PySem.Str)) = false)
    (hks : ks.length = n) (hP : ∀ i v, i < n → P i v → ∃ k t, ks[i]? = some k ∧ v = .int k t) (hS : S news)
    (turn : ∀ (k : Int) (t : Tok) (I : Addr) (oI : Obj) (C : Addr) (oC : Obj) (D : Addr) (m₂ : PySem.Str → Option Value) (ys : List Value) (h : Heap) (tk : Nat) (E' : Value → Shared → Prop), LCg.NsObj oC m₂ → m₂ x = some (.int k t) → Fr h₀ L h m →
      News h₀ L h ((I, oI) :: (C, oC) :: (D, LCg.lst ys) :: news) → LCg.Off3 I C D news → ((@Ne Nat I C) ∧ (@Ne Nat I D) ∧ (@Ne Nat C D)) →
      wpAny (model prog w) A (isTrue ct (compEnvC scope cl C env) (eval ct (compEnvC scope cl C env))) (FT h₀ L m { s with heap := h, toks := tk } ((I, oI) :: (C, oC) :: (D, LCg.lst ys) :: news) (p k)) E' { s with heap := h, toks := tk })
    (fin : ∀ ys, IntsAre ys (ks.filter p) → Fin ys news) : LCt.CompRestT prog w A h₀ L m env ct (.Name x px) x scope cl s S P Fin n 0 [] news := by
  have key : ∀ (j i : Nat) (ys : List Value), i + j = n → IntsAre ys ((ks.take i).filter p) → LCt.CompRestT prog w A h₀ L m env ct (.Name x px) x scope cl s S P Fin j i ys news := by
    intro j
    induction j with
    | zero =>
      intro i ys hi hy
      have e : i = ks.length := by lia
      subst e
      rw [List.take_length] at hy
      exact LCt.CompRestT.zero (fin ys hy)
    | succ j ih =>
      intro i ys hi hy
      refine LCt.CompRestT.succ ?_
      intro v I oI C oC D m₂ h tk E' hv hC hx F N off ne
      obtain ⟨k, t, hkk, hv'⟩ := hP i v (by lia) hv
      rw [hv'] at hx
      have hs : (ks.take (i + 1)).filter p = (ks.take i).filter p ++ (if p k = true then [k] else []) := by
        rw [List.take_add_one, hkk, List.filter_append]
        cases hpk : p k <;> simp [hpk]
      refine wpAny_mono (turn k t I oI C oC D m₂ ys h tk E' hC hx F N off ne) (fun b s₂ hq => ?_) fun _ _ e => e
      obtain ⟨h', tk', rfl, F', N', hb⟩ := hq
      cases b with
      | true =>
        simp only [if_true]
        refine LCgL.ld_own N' (.tail _ (.head _)) hC hx ?_ (hk C) (hl C) hdb
        refine ⟨h', tk', news, rfl, F', N', off, hS, ih (i + 1) _ (by lia) ?_⟩
        rw [hs, if_pos hb.symm]
        exact IntsAre.append hy (.cons k t .nil)
      | false =>
        simp only [Bool.false_eq_true, if_false]
        refine ⟨h', tk', news, rfl, F', N', off, hS, ih (i + 1) _ (by lia) ?_⟩
        rw [hs, ← hb]
        simpa using hy
  exact key n 0 [] (by lia) (by simp only [List.take_zero, List.filter_nil]; exact .nil)
theorem filt_range {n : Nat} {a : Int} (p : Int → Bool) (hk : ∀ C, (compEnvC scope cl C env).scope.kind = .function) (hl : ∀ C, (compEnvC scope cl C env).kindOf x = some .local) (hdb : (x == ("__debug__" : PySem.Str)) = false)
    (turn : ∀ (k : Int) (t : Tok) (I : Addr) (oI : Obj) (C : Addr) (oC : Obj) (D : Addr) (m₂ : PySem.Str → Option Value) (ys : List Value) (h : Heap) (tk : Nat) (E' : Value → Shared → Prop), LCg.NsObj oC m₂ → m₂ x = some (.int k t) → Fr h₀ L h m →
      News h₀ L h ((I, oI) :: (C, oC) :: (D, LCg.lst ys) :: news) → LCg.Off3 I C D news → ((@Ne Nat I C) ∧ (@Ne Nat I D) ∧ (@Ne Nat C D)) →
      wpAny (model prog w) A (isTrue ct (compEnvC scope cl C env) (eval ct (compEnvC scope cl C env))) (FT h₀ L m { s with heap := h, toks := tk } ((I, oI) :: (C, oC) :: (D, LCg.lst ys) :: news) (p k)) E' { s with heap := h, toks := tk })
    (fin : ∀ ys, IntsAre ys ((rangeKs a n).filter p) → Fin ys news) : LCt.CompRestT prog w A h₀ L m env ct (.Name x px) x scope cl s (fun _ => True) (fun i v => ∃ t, v = .int (a + (i : Int)) t) Fin n 0 [] news :=
  filt_rest (ks := rangeKs a n) p hk hl hdb (rangeKs_length a n) (fun i v hi hv => by
    obtain ⟨t, e⟩ := hv
    exact ⟨a + (i : Int), t, by simp [rangeKs, hi], e⟩) trivial turn fin
theorem filt_list {vs : List Value} {ns : List Int} {ax : Addr} {n : Nat} (p : Int → Bool) (hm : (ax, listOf vs.toArray n) ∈ news) (hi : IntsAre vs ns) (hk : ∀ C, (compEnvC scope cl C env).scope.kind = .function) (hl : ∀ C, (compEnvC scope cl C env).kindOf x = some .local) (hdb : (x == ("__debug__" : PySem.Str)) = false)
    (turn : ∀ (k : Int) (t : Tok) (I : Addr) (oI : Obj) (C : Addr) (oC : Obj) (D : Addr) (m₂ : PySem.Str → Option Value) (ys : List Value) (h : Heap) (tk : Nat) (E' : Value → Shared → Prop), LCg.NsObj oC m₂ → m₂ x = some (.int k t) → Fr h₀ L h m →
      News h₀ L h ((I, oI) :: (C, oC) :: (D, LCg.lst ys) :: news) → LCg.Off3 I C D news → ((@Ne Nat I C) ∧ (@Ne Nat I D) ∧ (@Ne Nat C D)) →
      wpAny (model prog w) A (isTrue ct (compEnvC scope cl C env) (eval ct (compEnvC scope cl C env))) (FT h₀ L m { s with heap := h, toks := tk } ((I, oI) :: (C, oC) :: (D, LCg.lst ys) :: news) (p k)) E' { s with heap := h, toks := tk })
    (fin : ∀ ys, IntsAre ys (ns.filter p) → Fin ys news) : LCt.CompRestT prog w A h₀ L m env ct (.Name x px) x scope cl s (LCg.SrcAt h₀ ax vs.toArray) (fun i v => vs.toArray[i]? = some v) Fin vs.toArray.size 0 [] news :=
  filt_rest (ks := ns) p hk hl hdb (by rw [List.size_toArray]; exact hi.length.symm) (fun i v _ hv => by
    obtain ⟨k, t, e, hk⟩ := IntsAre.at hi i v (by simpa using hv)
    exact ⟨k, t, hk, e⟩) (.inr ⟨_, hm, rfl, _, rfl⟩) turn fin
end
theorem rounds_len {vs : List Value} {f l s w m : Int} (h : IntsAre vs (roundsf f l s w m)) : (roundsf f l s w m).length ≤ m.toNat := by
  rw [rounds_is]
  refine Nat.le_trans take_len ?_
  rw [orb_len]
  exact Nat.le_refl _
theorem share_last {W H n y : Int} (hW : W = 2 ^ (2 + n).toNat) (hH : W = 2 * H) (hy1 : y < W) (hy0 : 0 ≤ y) (hn0 : 0 ≤ n) (hn1 : n < 4) : ∃ S P, ShareOK W (y - H) S P := share_ex hn0 hn1 hW hH hy0 hy1
theorem item_end {prog : Program} {w : World} {A : Around} {E : Value → Shared → Prop} {s : Shared} {h₀ : Heap} {L : Addr} {news : Led} {value slice : Expr} {a : Addr} {us : List Value} {l : List Int} {n : Nat} {u : Tok} {Q : Value → Shared → Prop}
    (N : News h₀ L s.heap news) (hm : (a, listOf us.toArray n) ∈ news) (hi : IntsAre us l) (hne : 0 < l.length) (h : ∀ t, Q (.int (l.getLastD 0) t) s)
    (hs : subscripted slice false (.ref a) (.int (-1) u) = operate [.ref a, .int (-1) u] (getItem (.ref a) (.int (-1) u))) (hg : ∀ r, letTemporaryGo value (.ref a) r = pure ()) :
    wpAny (model prog w) A (subscriptTail value slice (.ref a) (.int (-1) u)) Q E s :=
  item_last N hm hi (by cases l with | nil => simp at hne | cons x r => simp) h hs hg

def EdgeQ (s : Shared) (H st : Int) (r : Value) (s' : Shared) : Prop := ∃ (e : Int) (t : Tok) (tk : Nat), r = .int e t ∧ EdgeOf H st e ∧ s' = { s with toks := tk }
theorem edge_join {M : Model} {A : Around} {E Q : Value → Shared → Prop} {s : Shared} {tree : Sem Value} {W H y S P : Int} (hsh : ShareOK W (y - H) S P) (h1 : wpAny M A tree (EdgeQ s H (y - H)) E s) (h2 : ∀ (e : Int) (t : Tok) (tk : Nat), EdgeOf H (y - H) e → Q (.int e t) { s with toks := tk }) : wpAny M A tree Q E s :=
  wpAny_mono h1 (fun r s' h => by
    obtain ⟨e, t, tk, rfl, he, rfl⟩ := h
    exact h2 e t tk he) fun _ _ e => e
theorem edge_end {s : Shared} {H st e : Int} {t : Tok} {tk : Nat} (h : EdgeOf H st e) : EdgeQ s H st (.int e t) { s with toks := tk } := ⟨e, t, tk, rfl, h, rfl⟩
theorem ring_set {W H n y z S P : Int} (hsh : ShareOK W (y - H) S P) (hW : W = 2 ^ (2 + n).toNat) (hH : W = 2 * H) (hH2 : 2 ≤ H) (hn0 : 0 ≤ n) (hf0 : 0 ≤ z) (hf1 : z < W) : RingSet (2 + n) W H (z - H) (y - H) S P :=
  ⟨by lia, hW, hH, by lia, by lia, by lia, hsh⟩
theorem goes_n1 {k lim st : Int} (h : 0 < st) : decide (lim < k) = !goesf k lim st := by
  unfold goesf; rw [if_pos h]
  by_cases h2 : k ≤ lim
  · rw [decide_eq_false (by lia), decide_eq_true h2]; rfl
  · rw [decide_eq_true (by lia), decide_eq_false h2]; rfl
theorem goes_n2 {k lim st : Int} (h : ¬ 0 < st) : decide (k < lim) = !goesf k lim st := by
  unfold goesf; rw [if_neg h]
  by_cases h2 : lim ≤ k
  · rw [decide_eq_false (by lia), decide_eq_true h2]; rfl
  · rw [decide_eq_true (by lia), decide_eq_false h2]; rfl
end

/-- the step, by the way -/
def StepIs (x s v : Int) : Prop := (x = 1 ∧ v = 0 - (1 + s)) ∨ (¬ x = 1 ∧ v = 1 + s)
/-- the edge, by the way -/
def SideIs (x e v : Int) : Prop := (x = 1 ∧ v = 1 + e) ∨ (¬ x = 1 ∧ v = 0 - (1 + e))
theorem step_b {x s v : Int} (h : StepIs x s v) (h0 : 0 ≤ s) (h1 : s < 7) : -7 ≤ v ∧ v ≤ 7 := by
  unfold StepIs at h; omega
theorem side_b {x s e v : Int} (h : SideIs x e v) (h0 : 0 ≤ e) (h1 : e < 1 + s) (h2 : s < 7) : -7 ≤ v ∧ v ≤ 7 := by
  unfold SideIs at h; omega
theorem hb_any {f m s e x v u : Int} (hv : StepIs x s v) (hu : SideIs x e u) (hf0 : 0 ≤ f) (hf1 : f < 61) (hm0 : 0 ≤ m) (hm1 : m < 9) (hs0 : 0 ≤ s) (hs1 : s < 7) (he0 : 0 ≤ e) (he1 : e < 1 + s) :
    (-99 ≤ f - 30 ∧ f - 30 ≤ 99) ∧ (-99 ≤ f - 30 + v * m + u ∧ f - 30 + v * m + u ≤ 99) ∧ (-99 ≤ v ∧ v ≤ 99) := by
  rcases hv with ⟨h1, rfl⟩ | ⟨h1, rfl⟩
  · rcases hu with ⟨h2, rfl⟩ | ⟨h2, rfl⟩
    · exact hb_down hf0 hf1 hm0 hm1 hs0 hs1 he0 he1
    · exact absurd h1 h2
  · rcases hu with ⟨h2, rfl⟩ | ⟨h2, rfl⟩
    · exact absurd h2 h1
    · exact hb_up hf0 hf1 hm0 hm1 hs0 hs1 he0 he1
theorem any_hyp {f m s e wd x v u : Int} (hv : StepIs x s v) (hu : SideIs x e u) (hw0 : 0 ≤ wd) (hw1 : wd < 57) (hf0 : 0 ≤ f) (hf1 : f < 61) (hm0 : 0 ≤ m) (hm1 : m < 9) (hs0 : 0 ≤ s) (hs1 : s < 7) (he0 : 0 ≤ e) (he1 : e < 1 + s) :
    roundsf (f - 30) (f - 30 + v * m + u) v (8 + wd) 99 = List.map (fun k' => f - 30 + v * k') (rangeKs 0 (m - 0).toNat) ∧
    KinHyp (f - 30) (f - 30 + v * m + u) v (8 + wd) (roundsf (f - 30) (f - 30 + v * m + u) v (8 + wd) 99) := by
  rcases hv with ⟨h1, rfl⟩ | ⟨h1, rfl⟩
  · rcases hu with ⟨h2, rfl⟩ | ⟨h2, rfl⟩
    · exact down_hyp hw0 hw1 hf0 hf1 hm0 hm1 hs0 hs1 he0 he1
    · exact absurd h1 h2
  · rcases hu with ⟨h2, rfl⟩ | ⟨h2, rfl⟩
    · exact absurd h2 h1
    · exact up_hyp hw0 hw1 hf0 hf1 hm0 hm1 hs0 hs1 he0 he1
def IntQ (s : Shared) (P : Int → Prop) (r : Value) (s' : Shared) : Prop := ∃ (v : Int) (t : Tok) (tk : Nat), r = .int v t ∧ P v ∧ s' = { s with toks := tk }
theorem step_join {M : Model} {A : Around} {E Q : Value → Shared → Prop} {s0 : Shared} {tree : Sem Value} {x s : Int} (hx : x < 2) (hs1 : s < 7) (hs0 : 0 ≤ s) (h1 : wpAny M A tree (IntQ s0 (StepIs x s)) E s0)
    (h2 : ∀ (v : Int) (t : Tok) (tk : Nat), StepIs x s v → -7 ≤ v → v ≤ 7 → Q (.int v t) { s0 with toks := tk }) : wpAny M A tree Q E s0 :=
  wpAny_mono h1 (fun r s' h => by
    obtain ⟨v, t, tk, rfl, hv, rfl⟩ := h
    have hb := step_b hv hs0 hs1
    exact h2 v t tk hv hb.1 hb.2) fun _ _ e => e
theorem side_join {M : Model} {A : Around} {E Q : Value → Shared → Prop} {s0 : Shared} {tree : Sem Value} {x s e : Int} (hx : x < 2) (he1 : e < 1 + s) (he0 : 0 ≤ e) (hs1 : s < 7) (h1 : wpAny M A tree (IntQ s0 (SideIs x e)) E s0)
    (h2 : ∀ (v : Int) (t : Tok) (tk : Nat), SideIs x e v → -7 ≤ v → v ≤ 7 → Q (.int v t) { s0 with toks := tk }) : wpAny M A tree Q E s0 :=
  wpAny_mono h1 (fun r s' h => by
    obtain ⟨v, t, tk, rfl, hv, rfl⟩ := h
    have hb := side_b hv he0 he1 hs1
    exact h2 v t tk hv hb.1 hb.2) fun _ _ e => e
theorem int_end {s : Shared} {P : Int → Prop} {v : Int} {t : Tok} {tk : Nat} (h : P v) : IntQ s P (.int v t) { s with toks := tk } := ⟨v, t, tk, rfl, h, rfl⟩
theorem loopn_use {w : World} {rest : Led} {v0 v1 v2 : Value} {x0 x1 x2 : Int} {wd : Int} {tw : Tok} {x dx dv : Addr} {es : List DictEntry} {n nv : Nat}
  {mean : ExcName → Option Value} {mg mb : PySem.Str → Option Value} {dp un : Nat} {gd : Option (List Code)} {cn : PySem.Str} {cs : Scope} {a : Addr} {ccd : Value} {cl : List (PySem.Str × Addr)} {outer : List Env} {A₀ : Around} {base h₀ : Heap} {L : Addr} {m : PySem.Str → Option Value} {s : Shared} {Q E : Value → Shared → Prop}
    (B : Below A₀ base outer h₀) (F : Fr h₀ L s.heap m) (X : (hd.heap_39 w.params).In h₀) (N : News h₀ L s.heap ((x, instObj 53 dx) :: (dx, dictOf es n) :: (dv, listOf (#[v0, v1, v2] : Array Value) nv) :: rest)) (T : Top hd.view_39 (looseW hd.view_39 []) mean mg mb h₀) (hk : cs.kind = .function)
    (hd : dp + 8 ≤ 900) (hu : un + 8 * 8 ≤ 500)
    (hw : getL (PySem.Str.ofString "width") es = some (some (.int wd tw))) (hv0 : NumV v0 x0) (hv1 : NumV v1 x1) (hv2 : NumV v2 x2)
    (hw1 : 8 ≤ wd) (hw2 : wd ≤ 64) (h0 : (-99 ≤ x0 ∧ x0 ≤ 99) ∧ (-99 ≤ x1 ∧ x1 ≤ 99) ∧ (-99 ≤ x2 ∧ x2 ≤ 99))
    (h : ∀ (d : Addr) (t0 t1 t2 : Tok) (n' : Nat) (h' : Heap) (tk' : Nat), Fr h₀ L h' m → News h₀ L h' ((d, listOf (#[.int x0 t0, .int x1 t1, .int x2 t2] : Array Value) n') :: (x, instObj 53 dx) :: (dx, dictOf es n) :: (dv, listOf (#[v0, v1, v2] : Array Value) nv) :: rest) →
      LCg.Off1 d ((x, instObj 53 dx) :: (dx, dictOf es n) :: (dv, listOf (#[v0, v1, v2] : Array Value) nv) :: rest) → Q (.ref d) { s with heap := h', toks := tk' }) :
    wpAny (model PySem.Challenge.rw_sm0055_01.row.prog w) (ktrTop dp un gd cn cs L a ccd cl outer) (PySem.call (.ref 125) [.ref dv, .ref x]) Q E s :=
  (loopn_c w rest v0 v1 v2 x0 x1 x2 wd tw x dx dv es n nv hw hw1 hw2 h0 hv0 hv1 hv2).use B F X N T hk hd hu fun r l h' tk' F' N' P => by
    obtain ⟨d, t0, t1, t2, n', rfl, rfl, ho⟩ := P
    exact h d t0 t1 t2 n' h' tk' F' N' ho
theorem kin_use {w : World} {news : Led} {f b l i : Addr} {oi : Obj} {c : Int} {tc : Tok} {nb nl nf : Nat} {vs fv : List Value} {ns fs : List Int} {first limit step wd : Int} {t1 t2 t3 t4 : Tok}
  {mean : ExcName → Option Value} {mg mb : PySem.Str → Option Value} {dp un : Nat} {gd : Option (List Code)} {cn : PySem.Str} {cs : Scope} {a : Addr} {ccd : Value} {cl : List (PySem.Str × Addr)} {outer : List Env} {A₀ : Around} {base h₀ : Heap} {L : Addr} {m : PySem.Str → Option Value} {s : Shared} {Q E : Value → Shared → Prop}
    (B : Below A₀ base outer h₀) (F : Fr h₀ L s.heap m) (X : (hd.heap_39 w.params).In h₀) (N : News h₀ L s.heap news) (T : Top hd.view_39 (looseW hd.view_39 []) mean mg mb h₀) (hk : cs.kind = .function)
    (hd : dp + 8 ≤ 900) (hu : un + 8 * 8 ≤ 500)
    (hf : (f, listOf fv.toArray nf) ∈ news) (hb : (b, boxOf l c tc nb) ∈ news) (hl : (l, listOf vs.toArray nl) ∈ news) (hi' : (i, oi) ∈ news) (hlb : @LT.lt Nat _ l b) (hbf : @LT.lt Nat _ b f) (hbi : @LT.lt Nat _ b i) (hli : @LT.lt Nat _ l i) (hif : @LT.lt Nat _ i f) (hI : IntsAre vs ns) (hlen : vs.length ≤ 40) (h0 : 0 ≤ c) (h1 : c ≤ 150)
    (hi : IntsAre fv fs) (H : KinHyp first limit step wd fs)
    (h : ∀ (led' : Led) (h' : Heap) (tk' : Nat), Fr h₀ L h' m → News h₀ L h' led' → BoxLed b l i oi (c + 3) led' → Q (.bool true) { s with heap := h', toks := tk' }) :
    wpAny (model PySem.Challenge.rw_sm0055_01.row.prog w) (ktrTop dp un gd cn cs L a ccd cl outer) (PySem.call (.ref 172) [.ref b, .int first t1, .int limit t2, .int step t3, .int wd t4, .ref f]) Q E s := by
  have N1 : News h₀ L s.heap [(f, listOf fv.toArray nf), (i, oi), (b, boxOf l c tc nb), (l, listOf vs.toArray nl)] := fun p hp => by
    rcases List.mem_cons.mp hp with rfl | hp
    · exact N _ hf
    · rcases List.mem_cons.mp hp with rfl | hp
      · exact N _ hi'
      · rcases List.mem_cons.mp hp with rfl | hp
        · exact N _ hb
        · rw [List.mem_singleton.mp hp]; exact N _ hl
  refine Con.use (kin_c w f b l i oi c tc nb nl nf vs fv ns fs hlb hbf hbi hli hif hI hlen h0 h1 hi first limit step wd t1 t2 t3 t4 H) B F X N1 T hk hd hu ?_
  rintro r news' h' tk' F' N' ⟨rfl, B'⟩
  exact h news' h' tk' F' N' B'

set_option maxRecDepth 100000 in
set_option maxHeartbeats 8000000 in
theorem plain_c (w : World) (b l i : Addr) (oi : Obj) (c : Int) (tc : Tok) (nb nl : Nat) (vs : List Value) (ns : List Int) (hlb : @LT.lt Nat _ l b) (hbi : @LT.lt Nat _ b i) (hli : @LT.lt Nat _ l i) (hI : IntsAre vs ns) (hlen : vs.length ≤ 40) (h0 : 0 ≤ c) (h1 : c ≤ 100) :
    Con w 177 10 [(i, oi), (b, boxOf l c tc nb), (l, listOf vs.toArray nl)] [.ref b] (fun r led => r = .bool true ∧ BoxLed b l i oi (c + 10) led) := by
  w_top off
  k_with_none
  k_with "PU" => (first | with_reducible exact Pu.const | ((with_reducible show Pu _ _ _ (Expr.BinOp _ Operator.Add _ _) _); refine' Pu.add ?a ?b; (case a => walk_at "PU"); (case b => walk_at "PU")) | ((with_reducible show Pu _ _ _ (Expr.BinOp _ Operator.Sub _ _) _); refine' Pu.sub ?a ?b; (case a => walk_at "PU"); (case b => walk_at "PU")) | ((with_reducible show Pu _ _ _ (Expr.BinOp _ Operator.Mult _ _) _); refine' Pu.mul ?a ?b ?m; (case a => walk_at "PU"); (case b => walk_at "PU"); (case m => walk_at "MUL")) | (refine' Pu.loc ?F ?v ?k ?x ?d; (case F => k_asm); (case k => rfl); (case x => rfl); (case v => rfl); (case d => decide)) | (refine' Pu.ref ?F ?v ?k ?x ?d; (case F => k_asm); (case k => rfl); (case x => rfl); (case v => rfl); (case d => decide)) | (refine' Pu.cell ?N ?c ?m ?o ?k ?x ?d; (case k => rfl); (case x => rfl); (case N => k_asm); (case c => rfl); (case m => k_mem); (case o => k_asm); (case d => decide)) | (refine' Pu.cref ?N ?c ?m ?o ?k ?x ?d; (case k => rfl); (case x => rfl); (case N => k_asm); (case c => rfl); (case m => k_mem); (case o => k_asm); (case d => decide)))
  k_with "eval Call" => (k_here; (with_reducible show wpAny _ _ (eval (Expr.Call (Expr.Name _ _) [_, _] [] _) _) _ _ _); k_dflt (refine' call2 ?F ?hs ?X ?T ?ef ?kf ?hk ?hx ?hd ?p1 ?p2 ?_; (case F => k_asm); (case hs => exact rfl); (case X => k_asm); (case T => k_asm); (case hk => rfl); (case hx => rfl); (case hd => decide); (case ef => k_is); (case kf => k_is); (case p1 => walk_at "PU"); (case p2 => walk_at "PU")); intro t1 t2 tk; (try dsimp only))
  k_with "eval Call" => (k_here; (with_reducible show wpAny _ _ (eval (Expr.Call (Expr.Name _ _) [_, _, _, _] [] _) _) _ _ _); k_dflt (refine' call4 ?F ?hs ?X ?T ?ef ?kf ?hk ?hx ?hd ?p1 ?p2 ?p3 ?p4 ?_; (case F => k_asm); (case hs => exact rfl); (case X => k_asm); (case T => k_asm); (case hk => rfl); (case hx => rfl); (case hd => decide); (case ef => k_is); (case kf => k_is); (case p1 => walk_at "PU"); (case p2 => walk_at "PU"); (case p3 => walk_at "PU"); (case p4 => walk_at "PU")); intro t1 t2 t3 t4 tk; (try dsimp only))
  k_with "eval Call" => (k_here; (with_reducible show wpAny _ _ (eval (Expr.Call (Expr.Name _ _) [_, _, _, _, _] [] _) _) _ _ _); k_dflt (refine' call5 ?F ?hs ?X ?T ?ef ?kf ?hk ?hx ?hd ?p1 ?p2 ?p3 ?p4 ?p5 ?_; (case F => k_asm); (case hs => exact rfl); (case X => k_asm); (case T => k_asm); (case hk => rfl); (case hx => rfl); (case hd => decide); (case ef => k_is); (case kf => k_is); (case p1 => walk_at "PU"); (case p2 => walk_at "PU"); (case p3 => walk_at "PU"); (case p4 => walk_at "PU"); (case p5 => walk_at "PU")); intro t1 t2 t3 t4 t5 tk; (try dsimp only))
  k_with "eval Call" => (k_here; (with_reducible show wpAny _ _ (eval (Expr.Call (Expr.Name _ _) [_, _, _, _, _, _] [] _) _) _ _ _); k_dflt (refine' call6 ?F ?hs ?X ?T ?ef ?kf ?hk ?hx ?hd ?p1 ?p2 ?p3 ?p4 ?p5 ?p6 ?_; (case F => k_asm); (case hs => exact rfl); (case X => k_asm); (case T => k_asm); (case hk => rfl); (case hx => rfl); (case hd => decide); (case ef => k_is); (case kf => k_is); (case p1 => walk_at "PU"); (case p2 => walk_at "PU"); (case p3 => walk_at "PU"); (case p4 => walk_at "PU"); (case p5 => walk_at "PU"); (case p6 => walk_at "PU")); intro t1 t2 t3 t4 t5 t6 tk; (try dsimp only))
  k_with "LT" => ((repeat (first | (with_reducible refine as16 ?_; intro hz1 hz2 hz3 hz4 hz5 hz6 hz7 hz8 hz9 hz10 hz11 hz12 hz13 hz14 hz15 hz16) | (with_reducible refine as8 ?_; intro hz1 hz2 hz3 hz4 hz5 hz6 hz7 hz8) | (with_reducible refine as4 ?_; intro hz1 hz2 hz3 hz4) | (with_reducible refine as2 ?_; intro hz1 hz2) | (with_reducible refine as1 ?_; intro hz1))); intro hz0; (try (rename (∀ p ∈ ([] : List (Addr × Obj)), _) => hz0'; clear hz0')))
  k_with "OFF3" => ((repeat (first | (with_reducible refine of3_8 ?_; intro hz1 hz2 hz3 hz4 hz5 hz6 hz7 hz8 hz9 hz10 hz11 hz12 hz13 hz14 hz15 hz16 hz17 hz18 hz19 hz20 hz21 hz22 hz23 hz24) | (with_reducible refine of3_4 ?_; intro hz1 hz2 hz3 hz4 hz5 hz6 hz7 hz8 hz9 hz10 hz11 hz12) | (with_reducible refine of3_2 ?_; intro hz1 hz2 hz3 hz4 hz5 hz6) | (with_reducible refine of3_1 ?_; intro hz1 hz2 hz3))); intro hz0; clear hz0)
  k_with "OFF1" => ((repeat (first | (with_reducible refine of1_16 ?_; intro hz1 hz2 hz3 hz4 hz5 hz6 hz7 hz8 hz9 hz10 hz11 hz12 hz13 hz14 hz15 hz16) | (with_reducible refine of1_8 ?_; intro hz1 hz2 hz3 hz4 hz5 hz6 hz7 hz8) | (with_reducible refine of1_4 ?_; intro hz1 hz2 hz3 hz4) | (with_reducible refine of1_2 ?_; intro hz1 hz2) | (with_reducible refine of1_1 ?_; intro hz1))); intro hz0; clear hz0)
  k_with "FinE" => (intro D' h' tk' F' N'; walk_at "OFF1"; (try simp only [List.nil_append, List.cons_append] at N'); (try dsimp only))
  k_with "FinA" => (intro D' h' tk' F' N'; walk_at "OFF1"; (try simp only [List.nil_append, List.cons_append] at N'); (try dsimp only))
  k_with "PK" => with_reducible first | exact And.left (by assumption) | exact And.right (by assumption) | exact And.left (And.right (by assumption)) | exact And.right (And.right (by assumption)) | exact And.left (And.right (And.right (by assumption))) | exact And.right (And.right (And.right (by assumption))) | exact And.left (And.right (And.right (And.right (by assumption)))) | exact And.right (And.right (And.right (And.right (by assumption)))) | exact And.left (And.right (And.right (And.right (And.right (by assumption))))) | exact And.right (And.right (And.right (And.right (And.right (by assumption))))) | exact And.left (And.right (And.right (And.right (And.right (And.right (by assumption)))))) | exact And.right (And.right (And.right (And.right (And.right (And.right (by assumption)))))) | exact And.left (And.right (And.right (And.right (And.right (And.right (And.right (by assumption))))))) | exact And.right (And.right (And.right (And.right (And.right (And.right (And.right (by assumption))))))) | exact And.left (And.right (And.right (And.right (And.right (And.right (And.right (And.right (by assumption)))))))) | exact And.right (And.right (And.right (And.right (And.right (And.right (And.right (And.right (by assumption)))))))) | exact And.left (And.right (And.right (And.right (And.right (And.right (And.right (And.right (And.right (by assumption))))))))) | exact And.right (And.right (And.right (And.right (And.right (And.right (And.right (And.right (And.right (by assumption))))))))) | exact And.left (And.right (And.right (And.right (And.right (And.right (And.right (And.right (And.right (And.right (by assumption)))))))))) | exact And.right (And.right (And.right (And.right (And.right (And.right (And.right (And.right (And.right (And.right (by assumption)))))))))) | exact And.left (And.right (And.right (And.right (And.right (And.right (And.right (And.right (And.right (And.right (And.right (by assumption))))))))))) | exact And.right (And.right (And.right (And.right (And.right (And.right (And.right (And.right (And.right (And.right (And.right (by assumption))))))))))) | exact And.left (And.right (And.right (And.right (And.right (And.right (And.right (And.right (And.right (And.right (And.right (And.right (by assumption)))))))))))) | exact And.right (And.right (And.right (And.right (And.right (And.right (And.right (And.right (And.right (And.right (And.right (And.right (by assumption)))))))))))) | exact And.left (And.right (And.right (And.right (And.right (And.right (And.right (And.right (And.right (And.right (And.right (And.right (And.right (by assumption))))))))))))) | exact And.right (And.right (And.right (And.right (And.right (And.right (And.right (And.right (And.right (And.right (And.right (And.right (And.right (by assumption)))))))))))))
  k_with "k_ne" => (refine neN ?_; (try dsimp only); first | with_reducible (first | assumption | exact ne_gt (by assumption) | exact ne_lt (by assumption) | exact Ne.symm (by assumption) | exact nq (by assumption) | exact Ne.symm (nq (by assumption)) | exact ne_gt s_1 | exact ne_lt s_1 | exact ne_gt (lt_s s_1) | exact ne_lt (lt_s s_1) | exact ne_gt (lt_s (lt_s s_1)) | exact ne_lt (lt_s (lt_s s_1)) | exact ne_gt (lt_s (lt_s (lt_s s_1))) | exact ne_lt (lt_s (lt_s (lt_s s_1))) | exact ne_gt (lt_s (lt_s (lt_s (lt_s s_1)))) | exact ne_lt (lt_s (lt_s (lt_s (lt_s s_1)))) | exact ne_gt (lt_s (lt_s (lt_s (lt_s (lt_s s_1))))) | exact ne_lt (lt_s (lt_s (lt_s (lt_s (lt_s s_1))))) | exact ne_gt (lt_s (lt_s (lt_s (lt_s (lt_s (lt_s s_1)))))) | exact ne_lt (lt_s (lt_s (lt_s (lt_s (lt_s (lt_s s_1)))))) | exact ne_gt (lt_s (by assumption)) | exact ne_lt (lt_s (by assumption)) | exact ne_gt (lt_s (lt_s (by assumption))) | exact ne_lt (lt_s (lt_s (by assumption))) | exact ne_gt (lt_s (lt_s (lt_s (by assumption)))) | exact ne_lt (lt_s (lt_s (lt_s (by assumption)))) | exact ne_gt (lt_s (lt_s (lt_s (lt_s (by assumption))))) | exact ne_lt (lt_s (lt_s (lt_s (lt_s (by assumption))))) | exact ne_gt (lt_s (lt_s (lt_s (lt_s (lt_s (by assumption)))))) | exact ne_lt (lt_s (lt_s (lt_s (lt_s (lt_s (by assumption)))))) | exact ne_gt (lt_s (lt_s (lt_s (lt_s (lt_s (lt_s (by assumption))))))) | exact ne_lt (lt_s (lt_s (lt_s (lt_s (lt_s (lt_s (by assumption))))))) | exact ne_gt (lt_s (lt_s (lt_s (lt_s (lt_s (lt_s (lt_s (by assumption)))))))) | exact ne_lt (lt_s (lt_s (lt_s (lt_s (lt_s (lt_s (lt_s (by assumption))))))))) | with_reducible exact Nat.ne_of_lt (by assumption) | with_reducible exact Nat.ne_of_gt (by assumption) | walk_at "PK" | (refine Ne.symm ?_; walk_at "PK") | omega)
  k_with "ktr_room" => first | exact rm_depth (by assumption) (by decide) | exact rm_rec (by assumption) | exact rm_rec0 (by assumption)
  k_with "ktr_units" => exact rm_units (by assumption) (by decide)
  k_with "units_room" => exact rm_line (by assumption)
  k_with "CompRest" => (with_unfolding_all first | (refine LCg.CompRest.succ ?_; intro v' I' oI' C' oC' D' m' h' tk' E' hv' hC' hx' F' N' off' ne'; (first | lcg_open hv' | (obtain ⟨t9', hv9'⟩ := hv'; subst hv9')); (try ((have off'' := off'); revert off'; walk_at "OFF3"))) | refine LCg.CompRest.zero ?_)
  k_with "CB0" => (first | assumption | ((repeat (with_reducible refine Int.le_add_one ?_)); with_reducible assumption) | omega)
  k_with "CB1" => (first | with_reducible assumption | exact Int.le_trans (by with_reducible assumption) (by decide) | exact Int.le_trans (cb1 (by with_reducible assumption)) (by decide) | exact Int.le_trans (cb1 (cb1 (by with_reducible assumption))) (by decide) | exact Int.le_trans (cb1 (cb1 (cb1 (by with_reducible assumption)))) (by decide) | exact Int.le_trans (cb1 (cb1 (cb1 (cb1 (by with_reducible assumption))))) (by decide) | exact Int.le_trans (cb1 (cb1 (cb1 (cb1 (cb1 (by with_reducible assumption)))))) (by decide) | exact Int.le_trans (cb1 (cb1 (cb1 (cb1 (cb1 (cb1 (by with_reducible assumption))))))) (by decide) | exact Int.le_trans (cb1 (cb1 (cb1 (cb1 (cb1 (cb1 (cb1 (by with_reducible assumption)))))))) (by decide) | omega)
  k_with "size_fits" => assumption
  k_with "MUL" => first | exact IntMulOk.of_left (by with_reducible assumption) | exact IntMulOk.of_right (by with_reducible assumption) | exact IntMulOk.of_right (times_b (by with_reducible assumption) (by with_reducible assumption)) | exact IntMulOk.of_left two_b | exact IntMulOk.of_left (v_b (by with_reducible assumption) (by with_reducible assumption)) | mul_fits
  k_with "binaryOp Mult int int" => (refine' mul_int ?_ ?m; (case m => walk_at "MUL"))
  k_with "CON IN" => ( (try unfold ConV); unfold Con; k_fill; intros; refine wpAny_call ?_; k_dflt ktr_enter)
  k_with "CON INC" => ( unfold Con; k_fill; intros; rename_i hret; refine wpAny_call ?_; k_dflt (refine' code_defC ?k1 ?k2 ?k3 ?k4 ?k5 ?kA ?kF ?kK ?k6 ?k7 ?k8 ?k9 ?kB ?kD ?_ ?c2 ?c3 ?c4; (case kA => exact rfl); (case kF => exact rfl); (case kK => assumption); (case k1 => k_asm); (case k2 => k_asm); (case k3 => k_asm); (case k4 => k_asm); (case k5 => k_asm); (case k6 => k_is); (case k7 => k_is); (case k8 => ktr_room); (case k9 => exact BindsTo.of_eq rfl); (case kB => exact rfl); (case kD => decide +kernel); (case c2 => exact rfl); (case c3 => exact rfl); (case c4 => exact rfl); k_whole; intro g' L' h' tk' cells' FG' F' N' Y' B' X' T' l1; (try k_lt l1); k_cells Y'; (try simp only [List.cons_append, List.nil_append] at N'); (try dsimp only); (try k_fold)))
  k_with "CON USE" => ( (case k1 => k_asm); (case k2 => k_asm); (case k3 => k_asm); (case k4 => k_asm); (case k5 => k_asm); (case kK => first | exact rfl | assumption); (case kd => ktr_room); (case ku => ktr_units); intro t9 h9 tk9 F9 N9; (try dsimp only); (try k_sweep); (try k_fold))
  k_with "call ref" => ( k_here; k_dflt (refine' take_use ?k1 ?k2 ?k3 ?k4 ?k5 ?kK ?kd ?ku ?hb ?hl ?hne ?hI ?hlen ?h0 ?h1 ?h2 ?h3 ?_; (case k1 => k_asm); (case k2 => k_asm); (case k3 => k_asm); (case k4 => k_asm); (case k5 => k_asm); (case hb => k_mem); (case hl => k_mem); (case kK => first | exact rfl | assumption); (case kd => ktr_room); (case ku => ktr_units); (case hne => assumption); (case hI => assumption); (case hlen => first | with_reducible assumption | omega); (case h0 => walk_at "CB0"); (case h1 => walk_at "CB1"); (case h2 => first | with_reducible assumption | decide | omega); (case h3 => first | with_reducible assumption | decide | omega); intro x9 t9 tc9 nb9 nl9 vs9 ns9 h9 tk9 F9 NN9 hx9 hy9 hI9 hk9; have N9 := NN9 _ _ (by k_upd) (by k_upd); clear NN9; (try dsimp only); (try k_sweep);(try k_fold)))
  k_with "ite" => (k_here; k_dflt (first | refine ite_y (by first | with_reducible assumption | exact decide_eq_true (by with_reducible assumption)) ?_ | refine ite_n (by first | with_reducible assumption | exact mt of_decide_eq_true (by with_reducible assumption)) ?_))
  k_with "getMethod str" => (k_here; refine' method_encode ?_)
  k_with "call builtin:str.encode" => (k_here; refine' call_encode_num ?h0 ?h1 ?_; (case h0 => omega); (case h1 => omega))
  k_with "exec Assign cons ListComp" => ( k_here; lcp_look; (rename Fr _ _ _ _ => lF'); (rename News _ _ _ _ => lN'); k_dflt (refine' values_comp ?hh ?hLe ?hsw ?hclos ?hcell ?hkind ?hnames ?hxa ?hxb ?hab ?hy ?hp lF' lN' ?hl ?hm ?hb ?hs ?_ ?_ ?_; (case hh => rfl); (case hLe => rfl); (case hsw => with_unfolding_all rfl); (case hclos => with_unfolding_all rfl); (case hcell => decide); (case hkind => rfl); (case hnames => decide); (case hxa => rfl); (case hxb => rfl); (case hab => decide); (case hy => rfl); (case hp => rfl); (case hl => exact rfl); (case hm => k_mem); (case hb => first | exact hb_any (by assumption) (by assumption) (by assumption) (by assumption) (by assumption) (by assumption) (by assumption) (by assumption) (by assumption) (by assumption) | ktn_no "hb"); (case hs => (intro _; rfl))); (all_goals intros); (all_goals (try (rename (∀ p ∈ _, _) => hl9; k_lt hl9))); (all_goals (try k_sweep)); (all_goals (try k_fold)))
  k_with "call type:enumerate" => (k_here; (k_dflt (refine' enum_post (News.isList ?N ?M); (case N => k_asm); (case M => k_mem))))
  k_with "call ref" => (k_here; (with_reducible show wpAny _ _ (PySem.call (Value.ref 132) _) _ _ _); refine wpAny_call ?_; k_dflt (refine' code_def ?k1 ?k2 ?k3 ?k4 ?k5 ?kA ?kF ?kK ?k6 ?k7 ?k8 ?k9 ?kB ?_ ?c2 ?c3 ?c4 ?c5; (case kA => exact rfl); (case kF => exact rfl); (case kK => first | exact rfl | assumption); (case k1 => k_asm); (case k2 => k_asm); (case k3 => k_asm); (case k4 => k_asm); (case k5 => k_asm); (case k6 => k_is); (case k7 => k_is); (case k8 => ktr_room); (case k9 => exact BindsTo.of_eq rfl); (case c5 => decide); (case kB => exact locs rfl); (case c2 => exact rfl); (case c3 => exact rfl); (case c4 => exact rfl); k_whole; intro g' L' h' FG' F' N' B' X' T'; (try dsimp only); (try k_fold)))
  k_with "exec For Tuple Call" => (k_here; (rename Fr _ _ _ _ => lF'); (with_unfolding_all refine' For_turns lF' ?_; k_whole))
  k_with "CON USE" => ( (case k1 => k_asm); (case k2 => k_asm); (case k3 => k_asm); (case k4 => k_asm); (case k5 => k_asm); (case kK => first | exact rfl | assumption); (case kd => ktr_room); (case ku => ktr_units))
  k_with "call ref" => (k_here; k_dflt (refine' lim_c ?k1 ?k2 ?k3 ?k4 ?k5 ?kK ?kd ?ku ?_; walk_at "CON USE"; intro x9 d9 es9 n9 tw9 h9 tk9 F9 N9 l19 l29 hw9; (try k_lt l19); replace l29 := apN l29; (try dsimp only); (try k_sweep); (try k_fold)))
  k_with "call ref" => (k_here; k_dflt (refine' loopn_use ?k1 ?k2 ?k3 ?k4 ?k5 ?kK ?kd ?ku ?hw ?hv0 ?hv1 ?hv2 ?hw1 ?hw2 ?hb ?_; walk_at "CON USE"; (case hw => assumption); (case hv0 => assumption); (case hv1 => assumption); (case hv2 => assumption); (case hw1 => first | exact w8_lo (by assumption) | omega); (case hw2 => first | exact w8_hi (by assumption) | omega); (case hb => first | exact hb_any (by assumption) (by assumption) (by assumption) (by assumption) (by assumption) (by assumption) (by assumption) (by assumption) (by assumption) (by assumption)); intro d9 t09 t19 t29 n9 h9 tk9 F9 N9 o9; (try (revert o9; walk_at "OFF1")); (try dsimp only); (try k_sweep); (try k_fold)))
  k_with "call ref" => (k_here; k_dflt (refine' Con.useL (rounds_c _ _ _ _ _ _ _ _ _ _ _ _ ?p1 ?p2 ?p3 ?p4) ?k1 ?k2 ?k3 ?k4 ?k5 ?kK ?kd ?ku ?_; walk_at "CON USE"; (case p1 => first | exact w_lo (w8_lo (by assumption)) | omega); (case p2 => first | exact w_hi (w8_hi (by assumption)) | omega); (case p3 => first | decide | omega); (case p4 => first | decide | omega); intro d9 vs9 n9 h9 tk9 F9 N9 l9 hi9; (try k_lt l9); (try dsimp only); (try k_sweep); (try k_fold)))
  k_with "call ref" => (k_here; k_dflt (refine' kin_use ?k1 ?k2 ?k3 ?k4 ?k5 ?kK ?kd ?ku ?hf ?hb ?hl ?hi' ?hlb ?hbf ?hbi ?hli ?hif ?hI ?hlen ?h0 ?h1 ?hi ?H ?_; walk_at "CON USE"; (case hf => k_mem); (case hb => k_mem); (case hl => k_mem); (case hlb => first | exact hlb | assumption); (case hbi => first | exact hbi | assumption); (case hi' => k_mem); (case hbf => first | assumption | omega); (case hli => first | exact hli | assumption); (case hif => first | assumption | omega); (case hI => assumption); (case hlen => first | with_reducible assumption | omega); (case h0 => walk_at "CB0"); (case h1 => walk_at "CB1"); (case hi => assumption); (case H => exact (any_hyp (by assumption) (by assumption) (by assumption) (by assumption) (by assumption) (by assumption) (by assumption) (by assumption) (by assumption) (by assumption) (by assumption) (by assumption)).2); intro led9 h9 tk9 F9 N9 B9; (try dsimp only); (try k_sweep); (try k_fold)))
  k_with "eval IfExp" => (k_here; (fail_if_success (with_reducible show wpAny _ _ _ (IntQ _ _) _ _)); (with_reducible show wpAny _ _ (eval (Expr.IfExp _ (Expr.Name _ _) _ _) (envOfC _ _ _ _ _)) _ _ _); k_dflt (refine' side_join ?hx ?he1 ?he0 ?hs1 ?_ ?_; (case hx => assumption); (case he1 => assumption); (case he0 => assumption); (case hs1 => assumption)); all_goals (intros; (try dsimp only); (try k_fold)))
  k_with "eval IfExp" => (k_here; (fail_if_success (with_reducible show wpAny _ _ _ (IntQ _ _) _ _)); (with_reducible show wpAny _ _ (eval (Expr.IfExp _ (Expr.BinOp _ _ _ _) _ _) (envOfC _ _ _ _ _)) _ _ _); k_dflt (refine' step_join ?hx ?hs1 ?hs0 ?_ ?_; (case hx => assumption); (case hs1 => assumption); (case hs0 => assumption)); all_goals (intros; (try dsimp only); (try k_fold)))
  k_with "IntQ" => (k_here; k_dflt (refine int_end ?_; first | exact .inl ⟨by assumption, rfl⟩ | exact .inr ⟨by assumption, rfl⟩))
  walk_at "CON INC"
  rename (∀ (_ : Value) (_ : Led) (_ : Heap) (_ : Nat), _) => hret
  refine gen_q ?_
  intro Qg hQg
  refine gen_a ?_
  intro Ag
  k_steps
  all_goals (try (refine hQg _ _ ?_; (try dsimp only)))
  k_steps
  all_goals first
    | ((rename (∀ (_ : Value) (_ : Heap) (_ : Nat), _) => hQ'); first | exact hQ' _ _ _ (by k_asm) (by k_asm) (.inl ⟨_, rfl⟩) | exact hQ' _ _ _ (by k_asm) (by k_asm) (.inr ⟨_, rfl⟩))
    | exact hret _ _ _ _ (by k_asm) (by k_asm) ⟨rfl, box_eq (by assumption) count10⟩
    | (exfalso; (rename ¬ (roundsf _ _ _ _ _ = _) => hn); exact hn (any_hyp (by assumption) (by assumption) (by assumption) (by assumption) (by assumption) (by assumption) (by assumption) (by assumption) (by assumption) (by assumption) (by assumption) (by assumption)).1)

set_option maxRecDepth 100000 in
set_option maxHeartbeats 8000000 in
theorem ring_c (w : World) (b l i : Addr) (oi : Obj) (c : Int) (tc : Tok) (nb nl : Nat) (vs : List Value) (ns : List Int) (hlb : @LT.lt Nat _ l b) (hbi : @LT.lt Nat _ b i) (hli : @LT.lt Nat _ l i) (hI : IntsAre vs ns) (hlen : vs.length ≤ 40) (h0 : 0 ≤ c) (h1 : c ≤ 150) :
    Con w 182 10 [(i, oi), (b, boxOf l c tc nb), (l, listOf vs.toArray nl)] [.ref b] (fun r led => r = .bool true ∧ BoxLed b l i oi (c + 4) led) := by
  w_top off
  k_with_none
  k_with "PU" => (first | with_reducible exact Pu.const | ((with_reducible show Pu _ _ _ (Expr.BinOp _ Operator.Add _ _) _); refine' Pu.add ?a ?b; (case a => walk_at "PU"); (case b => walk_at "PU")) | ((with_reducible show Pu _ _ _ (Expr.BinOp _ Operator.Sub _ _) _); refine' Pu.sub ?a ?b; (case a => walk_at "PU"); (case b => walk_at "PU")) | ((with_reducible show Pu _ _ _ (Expr.BinOp _ Operator.Mult _ _) _); refine' Pu.mul ?a ?b ?m; (case a => walk_at "PU"); (case b => walk_at "PU"); (case m => walk_at "MUL")) | (refine' Pu.loc ?F ?v ?k ?x ?d; (case F => k_asm); (case k => rfl); (case x => rfl); (case v => rfl); (case d => decide)) | (refine' Pu.ref ?F ?v ?k ?x ?d; (case F => k_asm); (case k => rfl); (case x => rfl); (case v => rfl); (case d => decide)) | (refine' Pu.cell ?N ?c ?m ?o ?k ?x ?d; (case k => rfl); (case x => rfl); (case N => k_asm); (case c => rfl); (case m => k_mem); (case o => k_asm); (case d => decide)) | (refine' Pu.cref ?N ?c ?m ?o ?k ?x ?d; (case k => rfl); (case x => rfl); (case N => k_asm); (case c => rfl); (case m => k_mem); (case o => k_asm); (case d => decide)))
  k_with "eval Call" => (k_here; (with_reducible show wpAny _ _ (eval (Expr.Call (Expr.Name _ _) [_, _] [] _) _) _ _ _); k_dflt (refine' call2 ?F ?hs ?X ?T ?ef ?kf ?hk ?hx ?hd ?p1 ?p2 ?_; (case F => k_asm); (case hs => exact rfl); (case X => k_asm); (case T => k_asm); (case hk => rfl); (case hx => rfl); (case hd => decide); (case ef => k_is); (case kf => k_is); (case p1 => walk_at "PU"); (case p2 => walk_at "PU")); intro t1 t2 tk; (try dsimp only))
  k_with "eval Call" => (k_here; (with_reducible show wpAny _ _ (eval (Expr.Call (Expr.Name _ _) [_, _, _, _] [] _) _) _ _ _); k_dflt (refine' call4 ?F ?hs ?X ?T ?ef ?kf ?hk ?hx ?hd ?p1 ?p2 ?p3 ?p4 ?_; (case F => k_asm); (case hs => exact rfl); (case X => k_asm); (case T => k_asm); (case hk => rfl); (case hx => rfl); (case hd => decide); (case ef => k_is); (case kf => k_is); (case p1 => walk_at "PU"); (case p2 => walk_at "PU"); (case p3 => walk_at "PU"); (case p4 => walk_at "PU")); intro t1 t2 t3 t4 tk; (try dsimp only))
  k_with "eval Call" => (k_here; (with_reducible show wpAny _ _ (eval (Expr.Call (Expr.Name _ _) [_, _, _, _, _] [] _) _) _ _ _); k_dflt (refine' call5 ?F ?hs ?X ?T ?ef ?kf ?hk ?hx ?hd ?p1 ?p2 ?p3 ?p4 ?p5 ?_; (case F => k_asm); (case hs => exact rfl); (case X => k_asm); (case T => k_asm); (case hk => rfl); (case hx => rfl); (case hd => decide); (case ef => k_is); (case kf => k_is); (case p1 => walk_at "PU"); (case p2 => walk_at "PU"); (case p3 => walk_at "PU"); (case p4 => walk_at "PU"); (case p5 => walk_at "PU")); intro t1 t2 t3 t4 t5 tk; (try dsimp only))
  k_with "eval Call" => (k_here; (with_reducible show wpAny _ _ (eval (Expr.Call (Expr.Name _ _) [_, _, _, _, _, _] [] _) _) _ _ _); k_dflt (refine' call6 ?F ?hs ?X ?T ?ef ?kf ?hk ?hx ?hd ?p1 ?p2 ?p3 ?p4 ?p5 ?p6 ?_; (case F => k_asm); (case hs => exact rfl); (case X => k_asm); (case T => k_asm); (case hk => rfl); (case hx => rfl); (case hd => decide); (case ef => k_is); (case kf => k_is); (case p1 => walk_at "PU"); (case p2 => walk_at "PU"); (case p3 => walk_at "PU"); (case p4 => walk_at "PU"); (case p5 => walk_at "PU"); (case p6 => walk_at "PU")); intro t1 t2 t3 t4 t5 t6 tk; (try dsimp only))
  k_with "LT" => ((repeat (first | (with_reducible refine as16 ?_; intro hz1 hz2 hz3 hz4 hz5 hz6 hz7 hz8 hz9 hz10 hz11 hz12 hz13 hz14 hz15 hz16) | (with_reducible refine as8 ?_; intro hz1 hz2 hz3 hz4 hz5 hz6 hz7 hz8) | (with_reducible refine as4 ?_; intro hz1 hz2 hz3 hz4) | (with_reducible refine as2 ?_; intro hz1 hz2) | (with_reducible refine as1 ?_; intro hz1))); intro hz0; (try (rename (∀ p ∈ ([] : List (Addr × Obj)), _) => hz0'; clear hz0')))
  k_with "OFF3" => ((repeat (first | (with_reducible refine of3_8 ?_; intro hz1 hz2 hz3 hz4 hz5 hz6 hz7 hz8 hz9 hz10 hz11 hz12 hz13 hz14 hz15 hz16 hz17 hz18 hz19 hz20 hz21 hz22 hz23 hz24) | (with_reducible refine of3_4 ?_; intro hz1 hz2 hz3 hz4 hz5 hz6 hz7 hz8 hz9 hz10 hz11 hz12) | (with_reducible refine of3_2 ?_; intro hz1 hz2 hz3 hz4 hz5 hz6) | (with_reducible refine of3_1 ?_; intro hz1 hz2 hz3))); intro hz0; clear hz0)
  k_with "OFF1" => ((repeat (first | (with_reducible refine of1_16 ?_; intro hz1 hz2 hz3 hz4 hz5 hz6 hz7 hz8 hz9 hz10 hz11 hz12 hz13 hz14 hz15 hz16) | (with_reducible refine of1_8 ?_; intro hz1 hz2 hz3 hz4 hz5 hz6 hz7 hz8) | (with_reducible refine of1_4 ?_; intro hz1 hz2 hz3 hz4) | (with_reducible refine of1_2 ?_; intro hz1 hz2) | (with_reducible refine of1_1 ?_; intro hz1))); intro hz0; clear hz0)
  k_with "FinE" => (intro D' h' tk' F' N'; walk_at "OFF1"; (try simp only [List.nil_append, List.cons_append] at N'); (try dsimp only))
  k_with "FinA" => (intro D' h' tk' F' N'; walk_at "OFF1"; (try simp only [List.nil_append, List.cons_append] at N'); (try dsimp only))
  k_with "PK" => with_reducible first | exact And.left (by assumption) | exact And.right (by assumption) | exact And.left (And.right (by assumption)) | exact And.right (And.right (by assumption)) | exact And.left (And.right (And.right (by assumption))) | exact And.right (And.right (And.right (by assumption))) | exact And.left (And.right (And.right (And.right (by assumption)))) | exact And.right (And.right (And.right (And.right (by assumption)))) | exact And.left (And.right (And.right (And.right (And.right (by assumption))))) | exact And.right (And.right (And.right (And.right (And.right (by assumption))))) | exact And.left (And.right (And.right (And.right (And.right (And.right (by assumption)))))) | exact And.right (And.right (And.right (And.right (And.right (And.right (by assumption)))))) | exact And.left (And.right (And.right (And.right (And.right (And.right (And.right (by assumption))))))) | exact And.right (And.right (And.right (And.right (And.right (And.right (And.right (by assumption))))))) | exact And.left (And.right (And.right (And.right (And.right (And.right (And.right (And.right (by assumption)))))))) | exact And.right (And.right (And.right (And.right (And.right (And.right (And.right (And.right (by assumption)))))))) | exact And.left (And.right (And.right (And.right (And.right (And.right (And.right (And.right (And.right (by assumption))))))))) | exact And.right (And.right (And.right (And.right (And.right (And.right (And.right (And.right (And.right (by assumption))))))))) | exact And.left (And.right (And.right (And.right (And.right (And.right (And.right (And.right (And.right (And.right (by assumption)))))))))) | exact And.right (And.right (And.right (And.right (And.right (And.right (And.right (And.right (And.right (And.right (by assumption)))))))))) | exact And.left (And.right (And.right (And.right (And.right (And.right (And.right (And.right (And.right (And.right (And.right (by assumption))))))))))) | exact And.right (And.right (And.right (And.right (And.right (And.right (And.right (And.right (And.right (And.right (And.right (by assumption))))))))))) | exact And.left (And.right (And.right (And.right (And.right (And.right (And.right (And.right (And.right (And.right (And.right (And.right (by assumption)))))))))))) | exact And.right (And.right (And.right (And.right (And.right (And.right (And.right (And.right (And.right (And.right (And.right (And.right (by assumption)))))))))))) | exact And.left (And.right (And.right (And.right (And.right (And.right (And.right (And.right (And.right (And.right (And.right (And.right (And.right (by assumption))))))))))))) | exact And.right (And.right (And.right (And.right (And.right (And.right (And.right (And.right (And.right (And.right (And.right (And.right (And.right (by assumption)))))))))))))
  k_with "k_ne" => (refine neN ?_; (try dsimp only); first | with_reducible (first | assumption | exact ne_gt (by assumption) | exact ne_lt (by assumption) | exact Ne.symm (by assumption) | exact nq (by assumption) | exact Ne.symm (nq (by assumption)) | exact ne_gt s_1 | exact ne_lt s_1 | exact ne_gt (lt_s s_1) | exact ne_lt (lt_s s_1) | exact ne_gt (lt_s (lt_s s_1)) | exact ne_lt (lt_s (lt_s s_1)) | exact ne_gt (lt_s (lt_s (lt_s s_1))) | exact ne_lt (lt_s (lt_s (lt_s s_1))) | exact ne_gt (lt_s (lt_s (lt_s (lt_s s_1)))) | exact ne_lt (lt_s (lt_s (lt_s (lt_s s_1)))) | exact ne_gt (lt_s (lt_s (lt_s (lt_s (lt_s s_1))))) | exact ne_lt (lt_s (lt_s (lt_s (lt_s (lt_s s_1))))) | exact ne_gt (lt_s (lt_s (lt_s (lt_s (lt_s (lt_s s_1)))))) | exact ne_lt (lt_s (lt_s (lt_s (lt_s (lt_s (lt_s s_1)))))) | exact ne_gt (lt_s (by assumption)) | exact ne_lt (lt_s (by assumption)) | exact ne_gt (lt_s (lt_s (by assumption))) | exact ne_lt (lt_s (lt_s (by assumption))) | exact ne_gt (lt_s (lt_s (lt_s (by assumption)))) | exact ne_lt (lt_s (lt_s (lt_s (by assumption)))) | exact ne_gt (lt_s (lt_s (lt_s (lt_s (by assumption))))) | exact ne_lt (lt_s (lt_s (lt_s (lt_s (by assumption))))) | exact ne_gt (lt_s (lt_s (lt_s (lt_s (lt_s (by assumption)))))) | exact ne_lt (lt_s (lt_s (lt_s (lt_s (lt_s (by assumption)))))) | exact ne_gt (lt_s (lt_s (lt_s (lt_s (lt_s (lt_s (by assumption))))))) | exact ne_lt (lt_s (lt_s (lt_s (lt_s (lt_s (lt_s (by assumption))))))) | exact ne_gt (lt_s (lt_s (lt_s (lt_s (lt_s (lt_s (lt_s (by assumption)))))))) | exact ne_lt (lt_s (lt_s (lt_s (lt_s (lt_s (lt_s (lt_s (by assumption))))))))) | with_reducible exact Nat.ne_of_lt (by assumption) | with_reducible exact Nat.ne_of_gt (by assumption) | walk_at "PK" | (refine Ne.symm ?_; walk_at "PK") | omega)
  k_with "ktr_room" => first | exact rm_depth (by assumption) (by decide) | exact rm_rec (by assumption) | exact rm_rec0 (by assumption)
  k_with "ktr_units" => exact rm_units (by assumption) (by decide)
  k_with "units_room" => exact rm_line (by assumption)
  k_with "CompRest" => (with_unfolding_all first | (refine LCg.CompRest.succ ?_; intro v' I' oI' C' oC' D' m' h' tk' E' hv' hC' hx' F' N' off' ne'; (first | lcg_open hv' | (obtain ⟨t9', hv9'⟩ := hv'; subst hv9')); (try ((have off'' := off'); revert off'; walk_at "OFF3"))) | refine LCg.CompRest.zero ?_)
  k_with "CB0" => (first | assumption | ((repeat (with_reducible refine Int.le_add_one ?_)); with_reducible assumption) | omega)
  k_with "CB1" => (first | with_reducible assumption | exact Int.le_trans (by with_reducible assumption) (by decide) | exact Int.le_trans (cb1 (by with_reducible assumption)) (by decide) | exact Int.le_trans (cb1 (cb1 (by with_reducible assumption))) (by decide) | exact Int.le_trans (cb1 (cb1 (cb1 (by with_reducible assumption)))) (by decide) | exact Int.le_trans (cb1 (cb1 (cb1 (cb1 (by with_reducible assumption))))) (by decide) | exact Int.le_trans (cb1 (cb1 (cb1 (cb1 (cb1 (by with_reducible assumption)))))) (by decide) | exact Int.le_trans (cb1 (cb1 (cb1 (cb1 (cb1 (cb1 (by with_reducible assumption))))))) (by decide) | exact Int.le_trans (cb1 (cb1 (cb1 (cb1 (cb1 (cb1 (cb1 (by with_reducible assumption)))))))) (by decide) | omega)
  k_with "size_fits" => assumption
  k_with "MUL" => first | exact IntMulOk.of_left (by with_reducible assumption) | exact IntMulOk.of_right (by with_reducible assumption) | exact IntMulOk.of_right (times_b (by with_reducible assumption) (by with_reducible assumption)) | exact IntMulOk.of_left two_b | exact IntMulOk.of_left (v_b (by with_reducible assumption) (by with_reducible assumption)) | mul_fits
  k_with "binaryOp Mult int int" => (refine' mul_int ?_ ?m; (case m => walk_at "MUL"))
  k_with "CON IN" => ( (try unfold ConV); unfold Con; k_fill; intros; refine wpAny_call ?_; k_dflt ktr_enter)
  k_with "CON INC" => ( unfold Con; k_fill; intros; rename_i hret; refine wpAny_call ?_; k_dflt (refine' code_defC ?k1 ?k2 ?k3 ?k4 ?k5 ?kA ?kF ?kK ?k6 ?k7 ?k8 ?k9 ?kB ?kD ?_ ?c2 ?c3 ?c4; (case kA => exact rfl); (case kF => exact rfl); (case kK => assumption); (case k1 => k_asm); (case k2 => k_asm); (case k3 => k_asm); (case k4 => k_asm); (case k5 => k_asm); (case k6 => k_is); (case k7 => k_is); (case k8 => ktr_room); (case k9 => exact BindsTo.of_eq rfl); (case kB => exact rfl); (case kD => decide +kernel); (case c2 => exact rfl); (case c3 => exact rfl); (case c4 => exact rfl); k_whole; intro g' L' h' tk' cells' FG' F' N' Y' B' X' T' l1; (try k_lt l1); k_cells Y'; (try simp only [List.cons_append, List.nil_append] at N'); (try dsimp only); (try k_fold)))
  k_with "CON USE" => ( (case k1 => k_asm); (case k2 => k_asm); (case k3 => k_asm); (case k4 => k_asm); (case k5 => k_asm); (case kK => first | exact rfl | assumption); (case kd => ktr_room); (case ku => ktr_units); intro t9 h9 tk9 F9 N9; (try dsimp only); (try k_sweep); (try k_fold))
  k_with "call ref" => ( k_here; k_dflt (refine' take_use ?k1 ?k2 ?k3 ?k4 ?k5 ?kK ?kd ?ku ?hb ?hl ?hne ?hI ?hlen ?h0 ?h1 ?h2 ?h3 ?_; (case k1 => k_asm); (case k2 => k_asm); (case k3 => k_asm); (case k4 => k_asm); (case k5 => k_asm); (case hb => k_mem); (case hl => k_mem); (case kK => first | exact rfl | assumption); (case kd => ktr_room); (case ku => ktr_units); (case hne => assumption); (case hI => assumption); (case hlen => first | with_reducible assumption | omega); (case h0 => walk_at "CB0"); (case h1 => walk_at "CB1"); (case h2 => first | with_reducible assumption | decide | omega); (case h3 => first | with_reducible assumption | decide | omega); intro x9 t9 tc9 nb9 nl9 vs9 ns9 h9 tk9 F9 NN9 hx9 hy9 hI9 hk9; have N9 := NN9 _ _ (by k_upd) (by k_upd); clear NN9; (try dsimp only); (try k_sweep);(try k_fold)))
  k_with "ite" => (k_here; k_dflt (first | refine ite_y (by first | with_reducible assumption | exact decide_eq_true (by with_reducible assumption)) ?_ | refine ite_n (by first | with_reducible assumption | exact mt of_decide_eq_true (by with_reducible assumption)) ?_))
  k_with "CON USE" => ( (case k1 => k_asm); (case k2 => k_asm); (case k3 => k_asm); (case k4 => k_asm); (case k5 => k_asm); (case kK => first | exact rfl | assumption); (case kd => ktr_room); (case ku => ktr_units))
  k_with "call ref" => (k_here; k_dflt (refine' Con.useL (rounds_c _ _ _ _ _ _ _ _ _ _ _ _ ?p1 ?p2 ?p3 ?p4) ?k1 ?k2 ?k3 ?k4 ?k5 ?kK ?kd ?ku ?_; walk_at "CON USE"; (case p1 => first | exact w2_lo (by assumption) | omega); (case p2 => first | exact w2_hi (by assumption) | omega); (case p3 => first | exact p1_lo (by assumption) | omega); (case p4 => first | exact p1_hi (by assumption) | omega); intro d9 vs9 n9 h9 tk9 F9 N9 l9 hi9; (have hz9 := rounds_len hi9); (try k_lt l9); (try dsimp only); (try k_sweep); (try k_fold)))
  k_with "subscriptTail" => (k_here; k_dflt (refine' item_last ?N ?m ?i ?e ?_ ?hs ?hg; (case N => k_asm); (case m => k_mem); (case i => assumption); (case e => assumption); (case hs => with_unfolding_all rfl); (case hg => (intro _; with_unfolding_all rfl)); intro t9))
  k_with "eval ListComp" => (k_here; (with_reducible show wpAny _ _ (eval (Expr.ListComp _ [⟨_, _, [], _⟩] _ _) _) _ _ _); k_dflt (refine LCg.ListComp_U (F₀ := by k_asm) (by with_unfolding_all rfl) (by decide) (by rfl) (by decide) (by rfl) ?_))
  k_with "compareOp NotEq ref ref" => (k_here; k_dflt (refine' ne_pick ?N ?ha ?hv ?hb ?hu ?hr ?_; (case N => k_asm); (case hb => k_mem); (case ha => k_mem); (case hv => assumption); (case hu => assumption); (case hr => units_room)))
  k_with "compareOp Eq ref ref" => (k_here; k_dflt (refine' eq_pick ?N ?ha ?hv ?hb ?hu ?hr ?_; (case N => k_asm); (case hb => k_mem); (case ha => k_mem); (case hv => assumption); (case hu => assumption); (case hr => units_room)))
  k_with "CompSrc" => (k_here; k_dflt (refine LCg.CompSrc.range (by rfl) (by k_asm) (by k_asm) (by assumption) (by decide) (by first | rfl | decide) (by exact Nat.le_of_ble_eq_true rfl) ?_; intro g'; lcg_lit))
  k_with "CompEnd" => (k_here; k_dflt (refine' cend ?F ?N ?off ?S ?_; (case F => k_asm); (case N => k_asm); (case off => first | assumption | (simp only [LCg.Off3, and_true]; assumption)); (case S => exact True.intro)))
  k_with "binaryOp Pow int int" => (k_here; k_dflt (refine' pow_gen2 ?h2 ?h5 ?_; (case h2 => assumption); (case h5 => assumption); intro W9 H9 k9 hW9 hH9 hH2 hH16; (have hWp : 0 < W9 := by omega); (have hWq : W9 ≤ 1000 := by omega)))
  k_with "binaryOp FloorDiv int int" => (k_here; k_dflt (refine' floordiv_half ?e ?_; (case e => assumption); intro k9))
  k_with "exec While BoolOp" => ( k_here; (rename _ = (2 : Int) ^ _ => hW9); (rename _ = (2 : Int) * _ => hH9); (obtain ⟨S9, P9, hSh9⟩ := share_last hW9 hH9 (by assumption) (by assumption) (by assumption) (by assumption)); (have hm9 := hSh9.mul); (have hs1 := hSh9.s1); (have hs2 := hSh9.s2); (have hp1 := hSh9.p1); (have hp2 := hSh9.p2); (with_unfolding_all refine' share_loop ?F ?N ?hc ?U ?hd hSh9 ?_ ?_; (case F => k_asm); (case N => k_asm); (case hc => exact rfl); (case U => k_updF); (case hd => k_asm); all_goals (intros; (try dsimp only); (try k_sweep); (try k_fold))))
  k_with "binaryOp FloorDiv int int" => (k_here; k_dflt (refine' floordiv_share ?e ?h1 ?h2 ?_; (case e => assumption); (case h1 => omega); (case h2 => omega); intro k9))
  k_with "CompSrcT" => (k_here; k_dflt (first | (refine LCt.CompSrcT.range (by rfl) (by k_asm) (by k_asm) (by assumption) (by exact small_one (by omega) (by omega) (by omega) (by omega)) (by exact rangeSize_nat _ _) (by (rw [PySem.sizeLine_eq]; omega)) ?_; intro g'; (refine' filt_range _ (fun _ => rfl) (fun _ => rfl) rfl (fun k' t' I' oI' C' oC' D' m' ys' h' tk' E' hC' hx' F' N' off' ne' => ?_) ?_); (all_goals (try ((have off'' := off'); revert off'; walk_at "OFF3"))); kcf_last) | (refine LCt.CompSrcT.ledger (by rfl) (by k_asm) (by k_asm) (by k_mem) (by kcf_size) ?_; intro g'; (refine' filt_list _ ?hm ?hi (fun _ => rfl) (fun _ => rfl) rfl (fun k' t' I' oI' C' oC' D' m' ys' h' tk' E' hC' hx' F' N' off' ne' => ?_) ?_; (case hm => k_mem); (case hi => assumption)); (all_goals (try ((have off'' := off'); revert off'; walk_at "OFF3"))); kcf_last)))
  k_with "FT" => (k_here; k_dflt (refine' ft ?F ?N ?e; (case F => k_asm); (case N => k_asm); (case e => exact rfl)))
  k_with "compareOp In int ref" => (k_here; k_dflt (refine' in_list_ints ?hl ?hi ?_; (case hl => exact News.isList (by k_asm) (by k_mem)); (case hi => assumption)))
  k_with "subscriptTail" => (k_here; k_dflt (refine' item_end ?N ?m ?i ?e ?_ ?hs ?hg; (case N => k_asm); (case m => k_mem); (case i => assumption); (case e => omega); (case hs => with_unfolding_all rfl); (case hg => (intro _; with_unfolding_all rfl)); intro t9))
  k_with "call builtin:len" => (k_here; (with_reducible show wpAny _ _ (call (Value.builtin "len") [Value.ref _]) _ _ _); k_dflt (refine' len_ints_fit ?k1 ?k2 ?k3 ?_; (case k1 => exact News.isList (by k_asm) (by k_mem)); (case k2 => assumption); (case k3 => omega)))
  k_with "eval IfExp" => (k_here; (fail_if_success (with_reducible show wpAny _ _ _ (EdgeQ _ _ _) _ _)); (with_reducible show wpAny _ _ (eval (Expr.IfExp _ _ _ _) (envOfC _ _ _ _ _)) _ _ _); k_dflt (refine' edge_join ?hsh ?_ ?_; (case hsh => assumption)); all_goals (intros; (try dsimp only); (try k_fold)))
  k_with "EdgeQ" => (k_here; k_dflt (refine edge_end ?_; first | exact .inl ⟨by omega, rfl⟩ | exact .inr ⟨by omega, rfl⟩))
  k_with "CompSrcT" => (k_here; k_dflt ( (refine LCt.CompSrcT.ledger (by rfl) (by k_asm) (by k_asm) (by k_mem) (by first | exact size_filt (by assumption) (by omega) | exact size_of (by assumption) (by omega)) ?_; intro g'; (refine' filt_list _ ?hm ?hi (fun _ => rfl) (fun _ => rfl) rfl (fun k' t' I' oI' C' oC' D' m' ys' h' tk' E' hC' hx' F' N' off' ne' => ?_) ?_; (case hm => k_mem); (case hi => assumption)); (all_goals (try ((have off'' := off'); revert off'; walk_at "OFF3"))); kcf_last)))
  k_with "FT" => (k_here; k_dflt (refine' ft ?F ?N ?e; (case F => k_asm); (case N => k_asm); (case e => first | with_reducible exact rfl | with_reducible exact goes_n1 (by omega) | with_reducible exact goes_n2 (by omega) | exact rfl)))
  k_with "eval ListComp" => (k_here; (with_reducible show wpAny _ _ (eval (Expr.ListComp _ [⟨_, _, [_], _⟩] _ _) _) _ _ _); k_dflt (refine LCt.ListComp_T (F₀ := by k_asm) (by with_unfolding_all rfl) (by decide) (by rfl) (by decide) (by rfl) ?_))
  k_with "CompSrcT" => (k_here; k_dflt ( (with_reducible show LCt.CompSrcT _ _ _ _ _ _ _ (Expr.IfExp _ _ _ _) _ _ _ _ _ _ _); (refine LCt.CompSrcT.ledger (by rfl) (by k_asm) (by k_asm) (by k_mem) (by first | exact size_filt (by assumption) (by omega) | exact size_of (by assumption) (by omega)) ?_; intro g'; (refine' filt_list (fun k => !goesf k _ _) ?hm ?hi (fun _ => rfl) (fun _ => rfl) rfl (fun k' t' I' oI' C' oC' D' m' ys' h' tk' E' hC' hx' F' N' off' ne' => ?_) ?_; (case hm => k_mem); (case hi => assumption)); (all_goals (try ((have off'' := off'); revert off'; walk_at "OFF3"))); kcf_last)))
  k_with "subscriptTail" => (k_here; k_dflt (refine' item_anyK ?k1 ?k2 ?k3 ?k4 ?k5 ?_ ?k6; (case k1 => exact News.isList (by k_asm) (by k_mem)); (case k2 => assumption); (case k3 => omega); (case k4 => omega); (case k5 => omega); (case k6 => with_unfolding_all rfl); intro t9))
  k_with "exec Assign cons ListComp" => (k_here; (with_reducible show wpAny _ _ (exec (Stmt.Assign [Expr.Tuple _ _ _] _ _) _) _ _ _); refine wpAny_Assign_Name ?_)
  walk_at "CON INC"
  rename (∀ (_ : Value) (_ : Led) (_ : Heap) (_ : Nat), _) => hret
  refine gen_q ?_
  intro Qg hQg
  refine gen_a ?_
  intro Ag
  k_steps
  all_goals (try (refine hQg _ _ ?_; (try dsimp only)))
  k_steps
  all_goals first
    | (exact share_next (by assumption) (by assumption) (by assumption) (by assumption) (by assumption) (by assumption) (by assumption) (by k_asm) (by assumption) (by k_asm))
    | (exfalso; (rename ((List.length (roundsf _ _ _ _ _) : Int) ≠ _) => hn); exact hn (RingSet.e1 (ring_set (by assumption) (by assumption) (by assumption) (by assumption) (by assumption) (by assumption) (by assumption)) (by assumption)))
    | (exfalso; (rename (List.getD (roundsf _ _ _ _ _) _ _ ≠ _) => hn); exact hn (RingSet.e2 (ring_set (by assumption) (by assumption) (by assumption) (by assumption) (by assumption) (by assumption) (by assumption)) (by assumption)))
    | (exfalso; (rename ¬ (_ = List.filter _ _) => hn); exact hn (RingSet.e3 (ring_set (by assumption) (by assumption) (by assumption) (by assumption) (by assumption) (by assumption) (by assumption)) (by assumption) (by assumption) (by assumption)))
    | exact share_exit (by assumption) (by rintro ⟨hA, hB⟩; contradiction) (by k_asm) (by assumption) (by k_asm)
    | (exfalso; (rename (_ < ((roundsf _ _ _ _ _).length : Int)) => hq); exact RingSet.g2 (ring_set (by assumption) (by assumption) (by assumption) (by assumption) (by assumption) (by assumption) (by assumption)) (by assumption) hq)
    | (obtain ⟨led', N', B'⟩ := box_end (i := i) (oi := oi) (b := b) (l := l) (by k_asm) (by k_mem) (by k_mem) (by k_mem) (by assumption) (by assumption) count4
       refine hret _ led' _ _ (by k_asm) N' ⟨congrArg Value.bool ?_, B'⟩
       first
       | exact RingSet.g1 (ring_set (by assumption) (by assumption) (by assumption) (by assumption) (by assumption) (by assumption) (by assumption)) (by assumption) (by assumption)
       | exact RingSet.g5 (ring_set (by assumption) (by assumption) (by assumption) (by assumption) (by assumption) (by assumption) (by assumption)) (by assumption)
       | exact RingSet.g3 (ring_set (by assumption) (by assumption) (by assumption) (by assumption) (by assumption) (by assumption) (by assumption))
       | exact RingSet.g4 (ring_set (by assumption) (by assumption) (by assumption) (by assumption) (by assumption) (by assumption) (by assumption)) (by assumption) (by omega))

theorem law_use {w : World} {news : Led} {f b l i : Addr} {oi : Obj} {c k : Int} {tc : Tok} {nb nl : Nat} {vs : List Value}
  {mean : ExcName → Option Value} {mg mb : PySem.Str → Option Value} {dp un : Nat} {gd : Option (List Code)} {cn : PySem.Str} {cs : Scope} {a : Addr} {ccd : Value} {cl : List (PySem.Str × Addr)} {outer : List Env} {A₀ : Around} {base h₀ : Heap} {L : Addr} {m : PySem.Str → Option Value} {s : Shared} {Q E : Value → Shared → Prop}
    (C : Con w f 10 [(i, oi), (b, boxOf l c tc nb), (l, listOf vs.toArray nl)] [.ref b] (fun r led => r = .bool true ∧ BoxLed b l i oi (c + k) led))
    (B : Below A₀ base outer h₀) (F : Fr h₀ L s.heap m) (X : (hd.heap_39 w.params).In h₀) (N : News h₀ L s.heap news) (T : Top hd.view_39 (looseW hd.view_39 []) mean mg mb h₀) (hk : cs.kind = .function)
    (hd : dp + 10 ≤ 900) (hu : un + 8 * 10 ≤ 500)
    (hi : (i, oi) ∈ news) (hb : (b, boxOf l c tc nb) ∈ news) (hl : (l, listOf vs.toArray nl) ∈ news)
    (h : ∀ (tc' : Tok) (nb' nl' : Nat) (vs' : List Value) (ns' : List Int) (h' : Heap) (tk' : Nat), Fr h₀ L h' m → News h₀ L h' [(i, oi), (b, boxOf l (c + k) tc' nb'), (l, listOf vs'.toArray nl')] → IntsAre vs' ns' → vs'.length ≤ 40 → Q (.bool true) { s with heap := h', toks := tk' }) :
    wpAny (model PySem.Challenge.rw_sm0055_01.row.prog w) (ktrTop dp un gd cn cs L a ccd cl outer) (PySem.call (.ref f) [.ref b]) Q E s := by
  have N1 : News h₀ L s.heap [(i, oi), (b, boxOf l c tc nb), (l, listOf vs.toArray nl)] := fun p hp => by
    rcases List.mem_cons.mp hp with rfl | hp
    · exact N _ hi
    · rcases List.mem_cons.mp hp with rfl | hp
      · exact N _ hb
      · rw [List.mem_singleton.mp hp]; exact N _ hl
  refine Con.use C B F X N1 T hk hd hu ?_
  rintro r news' h' tk' F' N' ⟨rfl, tc', nb', nl', vs', ns', rfl, hI', hl'⟩
  exact h tc' nb' nl' vs' ns' h' tk' F' N' hI' hl'
theorem law_lt1 {a b : Nat} {p : Prop} (h : a < b ∧ p) : a < b := h.1
theorem law_lt2 {a b : Nat} {p c : Prop} (h : p ∧ a < b ∧ c) : a < b := h.2.1
theorem size_take {vs : List Value} {xs : List Int} (h : IntsAre vs (List.take 40 xs)) : vs.length ≤ 40 := by
  rw [h.length, List.length_take]; omega
end Mine
open Mine

set_option maxRecDepth 100000 in
set_option maxHeartbeats 8000000 in
theorem PySem.Challenge.cw_sm0055_01_holds : PySem.Challenge.rw_sm0055_01.Holds := by
  w_top off
  k_with_none
  k_with "PU" => (first | with_reducible exact Pu.const | ((with_reducible show Pu _ _ _ (Expr.BinOp _ Operator.Add _ _) _); refine' Pu.add ?a ?b; (case a => walk_at "PU"); (case b => walk_at "PU")) | ((with_reducible show Pu _ _ _ (Expr.BinOp _ Operator.Sub _ _) _); refine' Pu.sub ?a ?b; (case a => walk_at "PU"); (case b => walk_at "PU")) | ((with_reducible show Pu _ _ _ (Expr.BinOp _ Operator.Mult _ _) _); refine' Pu.mul ?a ?b ?m; (case a => walk_at "PU"); (case b => walk_at "PU"); (case m => walk_at "MUL")) | (refine' Pu.loc ?F ?v ?k ?x ?d; (case F => k_asm); (case k => rfl); (case x => rfl); (case v => rfl); (case d => decide)) | (refine' Pu.ref ?F ?v ?k ?x ?d; (case F => k_asm); (case k => rfl); (case x => rfl); (case v => rfl); (case d => decide)) | (refine' Pu.cell ?N ?c ?m ?o ?k ?x ?d; (case k => rfl); (case x => rfl); (case N => k_asm); (case c => rfl); (case m => k_mem); (case o => k_asm); (case d => decide)) | (refine' Pu.cref ?N ?c ?m ?o ?k ?x ?d; (case k => rfl); (case x => rfl); (case N => k_asm); (case c => rfl); (case m => k_mem); (case o => k_asm); (case d => decide)))
  k_with "eval Call" => (k_here; (with_reducible show wpAny _ _ (eval (Expr.Call (Expr.Name _ _) [_, _] [] _) _) _ _ _); k_dflt (refine' call2 ?F ?hs ?X ?T ?ef ?kf ?hk ?hx ?hd ?p1 ?p2 ?_; (case F => k_asm); (case hs => exact rfl); (case X => k_asm); (case T => k_asm); (case hk => rfl); (case hx => rfl); (case hd => decide); (case ef => k_is); (case kf => k_is); (case p1 => walk_at "PU"); (case p2 => walk_at "PU")); intro t1 t2 tk; (try dsimp only))
  k_with "eval Call" => (k_here; (with_reducible show wpAny _ _ (eval (Expr.Call (Expr.Name _ _) [_, _, _, _] [] _) _) _ _ _); k_dflt (refine' call4 ?F ?hs ?X ?T ?ef ?kf ?hk ?hx ?hd ?p1 ?p2 ?p3 ?p4 ?_; (case F => k_asm); (case hs => exact rfl); (case X => k_asm); (case T => k_asm); (case hk => rfl); (case hx => rfl); (case hd => decide); (case ef => k_is); (case kf => k_is); (case p1 => walk_at "PU"); (case p2 => walk_at "PU"); (case p3 => walk_at "PU"); (case p4 => walk_at "PU")); intro t1 t2 t3 t4 tk; (try dsimp only))
  k_with "eval Call" => (k_here; (with_reducible show wpAny _ _ (eval (Expr.Call (Expr.Name _ _) [_, _, _, _, _] [] _) _) _ _ _); k_dflt (refine' call5 ?F ?hs ?X ?T ?ef ?kf ?hk ?hx ?hd ?p1 ?p2 ?p3 ?p4 ?p5 ?_; (case F => k_asm); (case hs => exact rfl); (case X => k_asm); (case T => k_asm); (case hk => rfl); (case hx => rfl); (case hd => decide); (case ef => k_is); (case kf => k_is); (case p1 => walk_at "PU"); (case p2 => walk_at "PU"); (case p3 => walk_at "PU"); (case p4 => walk_at "PU"); (case p5 => walk_at "PU")); intro t1 t2 t3 t4 t5 tk; (try dsimp only))
  k_with "eval Call" => (k_here; (with_reducible show wpAny _ _ (eval (Expr.Call (Expr.Name _ _) [_, _, _, _, _, _] [] _) _) _ _ _); k_dflt (refine' call6 ?F ?hs ?X ?T ?ef ?kf ?hk ?hx ?hd ?p1 ?p2 ?p3 ?p4 ?p5 ?p6 ?_; (case F => k_asm); (case hs => exact rfl); (case X => k_asm); (case T => k_asm); (case hk => rfl); (case hx => rfl); (case hd => decide); (case ef => k_is); (case kf => k_is); (case p1 => walk_at "PU"); (case p2 => walk_at "PU"); (case p3 => walk_at "PU"); (case p4 => walk_at "PU"); (case p5 => walk_at "PU"); (case p6 => walk_at "PU")); intro t1 t2 t3 t4 t5 t6 tk; (try dsimp only))
  k_with "LT" => ((repeat (first | (with_reducible refine as16 ?_; intro hz1 hz2 hz3 hz4 hz5 hz6 hz7 hz8 hz9 hz10 hz11 hz12 hz13 hz14 hz15 hz16) | (with_reducible refine as8 ?_; intro hz1 hz2 hz3 hz4 hz5 hz6 hz7 hz8) | (with_reducible refine as4 ?_; intro hz1 hz2 hz3 hz4) | (with_reducible refine as2 ?_; intro hz1 hz2) | (with_reducible refine as1 ?_; intro hz1))); intro hz0; (try (rename (∀ p ∈ ([] : List (Addr × Obj)), _) => hz0'; clear hz0')))
  k_with "OFF3" => ((repeat (first | (with_reducible refine of3_8 ?_; intro hz1 hz2 hz3 hz4 hz5 hz6 hz7 hz8 hz9 hz10 hz11 hz12 hz13 hz14 hz15 hz16 hz17 hz18 hz19 hz20 hz21 hz22 hz23 hz24) | (with_reducible refine of3_4 ?_; intro hz1 hz2 hz3 hz4 hz5 hz6 hz7 hz8 hz9 hz10 hz11 hz12) | (with_reducible refine of3_2 ?_; intro hz1 hz2 hz3 hz4 hz5 hz6) | (with_reducible refine of3_1 ?_; intro hz1 hz2 hz3))); intro hz0; clear hz0)
  k_with "OFF1" => ((repeat (first | (with_reducible refine of1_16 ?_; intro hz1 hz2 hz3 hz4 hz5 hz6 hz7 hz8 hz9 hz10 hz11 hz12 hz13 hz14 hz15 hz16) | (with_reducible refine of1_8 ?_; intro hz1 hz2 hz3 hz4 hz5 hz6 hz7 hz8) | (with_reducible refine of1_4 ?_; intro hz1 hz2 hz3 hz4) | (with_reducible refine of1_2 ?_; intro hz1 hz2) | (with_reducible refine of1_1 ?_; intro hz1))); intro hz0; clear hz0)
  k_with "FinE" => (intro D' h' tk' F' N'; walk_at "OFF1"; (try simp only [List.nil_append, List.cons_append] at N'); (try dsimp only))
  k_with "FinA" => (intro D' h' tk' F' N'; walk_at "OFF1"; (try simp only [List.nil_append, List.cons_append] at N'); (try dsimp only))
  k_with "PK" => with_reducible first | exact And.left (by assumption) | exact And.right (by assumption) | exact And.left (And.right (by assumption)) | exact And.right (And.right (by assumption)) | exact And.left (And.right (And.right (by assumption))) | exact And.right (And.right (And.right (by assumption))) | exact And.left (And.right (And.right (And.right (by assumption)))) | exact And.right (And.right (And.right (And.right (by assumption)))) | exact And.left (And.right (And.right (And.right (And.right (by assumption))))) | exact And.right (And.right (And.right (And.right (And.right (by assumption))))) | exact And.left (And.right (And.right (And.right (And.right (And.right (by assumption)))))) | exact And.right (And.right (And.right (And.right (And.right (And.right (by assumption)))))) | exact And.left (And.right (And.right (And.right (And.right (And.right (And.right (by assumption))))))) | exact And.right (And.right (And.right (And.right (And.right (And.right (And.right (by assumption))))))) | exact And.left (And.right (And.right (And.right (And.right (And.right (And.right (And.right (by assumption)))))))) | exact And.right (And.right (And.right (And.right (And.right (And.right (And.right (And.right (by assumption)))))))) | exact And.left (And.right (And.right (And.right (And.right (And.right (And.right (And.right (And.right (by assumption))))))))) | exact And.right (And.right (And.right (And.right (And.right (And.right (And.right (And.right (And.right (by assumption))))))))) | exact And.left (And.right (And.right (And.right (And.right (And.right (And.right (And.right (And.right (And.right (by assumption)))))))))) | exact And.right (And.right (And.right (And.right (And.right (And.right (And.right (And.right (And.right (And.right (by assumption)))))))))) | exact And.left (And.right (And.right (And.right (And.right (And.right (And.right (And.right (And.right (And.right (And.right (by assumption))))))))))) | exact And.right (And.right (And.right (And.right (And.right (And.right (And.right (And.right (And.right (And.right (And.right (by assumption))))))))))) | exact And.left (And.right (And.right (And.right (And.right (And.right (And.right (And.right (And.right (And.right (And.right (And.right (by assumption)))))))))))) | exact And.right (And.right (And.right (And.right (And.right (And.right (And.right (And.right (And.right (And.right (And.right (And.right (by assumption)))))))))))) | exact And.left (And.right (And.right (And.right (And.right (And.right (And.right (And.right (And.right (And.right (And.right (And.right (And.right (by assumption))))))))))))) | exact And.right (And.right (And.right (And.right (And.right (And.right (And.right (And.right (And.right (And.right (And.right (And.right (And.right (by assumption)))))))))))))
  k_with "k_ne" => (refine neN ?_; (try dsimp only); first | with_reducible (first | assumption | exact ne_gt (by assumption) | exact ne_lt (by assumption) | exact Ne.symm (by assumption) | exact nq (by assumption) | exact Ne.symm (nq (by assumption)) | exact ne_gt s_1 | exact ne_lt s_1 | exact ne_gt (lt_s s_1) | exact ne_lt (lt_s s_1) | exact ne_gt (lt_s (lt_s s_1)) | exact ne_lt (lt_s (lt_s s_1)) | exact ne_gt (lt_s (lt_s (lt_s s_1))) | exact ne_lt (lt_s (lt_s (lt_s s_1))) | exact ne_gt (lt_s (lt_s (lt_s (lt_s s_1)))) | exact ne_lt (lt_s (lt_s (lt_s (lt_s s_1)))) | exact ne_gt (lt_s (lt_s (lt_s (lt_s (lt_s s_1))))) | exact ne_lt (lt_s (lt_s (lt_s (lt_s (lt_s s_1))))) | exact ne_gt (lt_s (lt_s (lt_s (lt_s (lt_s (lt_s s_1)))))) | exact ne_lt (lt_s (lt_s (lt_s (lt_s (lt_s (lt_s s_1)))))) | exact ne_gt (lt_s (by assumption)) | exact ne_lt (lt_s (by assumption)) | exact ne_gt (lt_s (lt_s (by assumption))) | exact ne_lt (lt_s (lt_s (by assumption))) | exact ne_gt (lt_s (lt_s (lt_s (by assumption)))) | exact ne_lt (lt_s (lt_s (lt_s (by assumption)))) | exact ne_gt (lt_s (lt_s (lt_s (lt_s (by assumption))))) | exact ne_lt (lt_s (lt_s (lt_s (lt_s (by assumption))))) | exact ne_gt (lt_s (lt_s (lt_s (lt_s (lt_s (by assumption)))))) | exact ne_lt (lt_s (lt_s (lt_s (lt_s (lt_s (by assumption)))))) | exact ne_gt (lt_s (lt_s (lt_s (lt_s (lt_s (lt_s (by assumption))))))) | exact ne_lt (lt_s (lt_s (lt_s (lt_s (lt_s (lt_s (by assumption))))))) | exact ne_gt (lt_s (lt_s (lt_s (lt_s (lt_s (lt_s (lt_s (by assumption)))))))) | exact ne_lt (lt_s (lt_s (lt_s (lt_s (lt_s (lt_s (lt_s (by assumption))))))))) | with_reducible exact Nat.ne_of_lt (by assumption) | with_reducible exact Nat.ne_of_gt (by assumption) | walk_at "PK" | (refine Ne.symm ?_; walk_at "PK") | omega)
  k_with "ktr_room" => first | exact rm_depth (by assumption) (by decide) | exact rm_rec (by assumption) | exact rm_rec0 (by assumption)
  k_with "ktr_units" => exact rm_units (by assumption) (by decide)
  k_with "units_room" => exact rm_line (by assumption)
  k_with "CompRest" => (with_unfolding_all first | (refine LCg.CompRest.succ ?_; intro v' I' oI' C' oC' D' m' h' tk' E' hv' hC' hx' F' N' off' ne'; (first | lcg_open hv' | (obtain ⟨t9', hv9'⟩ := hv'; subst hv9')); (try ((have off'' := off'); revert off'; walk_at "OFF3"))) | refine LCg.CompRest.zero ?_)
  k_with "CB0" => (first | assumption | ((repeat (with_reducible refine Int.le_add_one ?_)); with_reducible assumption) | omega)
  k_with "CB1" => (first | with_reducible assumption | exact Int.le_trans (by with_reducible assumption) (by decide) | exact Int.le_trans (cb1 (by with_reducible assumption)) (by decide) | exact Int.le_trans (cb1 (cb1 (by with_reducible assumption))) (by decide) | exact Int.le_trans (cb1 (cb1 (cb1 (by with_reducible assumption)))) (by decide) | exact Int.le_trans (cb1 (cb1 (cb1 (cb1 (by with_reducible assumption))))) (by decide) | exact Int.le_trans (cb1 (cb1 (cb1 (cb1 (cb1 (by with_reducible assumption)))))) (by decide) | exact Int.le_trans (cb1 (cb1 (cb1 (cb1 (cb1 (cb1 (by with_reducible assumption))))))) (by decide) | exact Int.le_trans (cb1 (cb1 (cb1 (cb1 (cb1 (cb1 (cb1 (by with_reducible assumption)))))))) (by decide) | omega)
  k_with "size_fits" => assumption
  k_with "MUL" => first | exact IntMulOk.of_left (by with_reducible assumption) | exact IntMulOk.of_right (by with_reducible assumption) | exact IntMulOk.of_right (times_b (by with_reducible assumption) (by with_reducible assumption)) | exact IntMulOk.of_left two_b | exact IntMulOk.of_left (v_b (by with_reducible assumption) (by with_reducible assumption)) | mul_fits
  k_with "binaryOp Mult int int" => (refine' mul_int ?_ ?m; (case m => walk_at "MUL"))
  k_with "LAW USE" => ( (case k1 => k_asm); (case k2 => k_asm); (case k3 => k_asm); (case k4 => k_asm); (case k5 => k_asm); (case kK => first | exact rfl | assumption); (case kd => first | decide | ktr_room); (case ku => first | decide | ktr_units); (case mb => k_mem); (case ml => k_mem); (case hI => assumption); (case hbi => first | assumption | exact law_lt1 (by assumption)); (case mi => k_mem); (case hlb => first | assumption | exact law_lt1 (by assumption)); (case hli => first | assumption | exact law_lt2 (by assumption)); (case hlen => first | assumption | exact size_take (by assumption)); (case h0 => omega); (case h1 => omega); intro tc9 nb9 nl9 vs9 ns9 h9 tk9 F9 N9 hI9 hl9; (try dsimp only); (try k_sweep); (try k_fold))
  k_with "call ref" => (k_here; k_dflt (refine' law_use (ring_c _ _ _ _ _ _ _ _ _ _ _ ?hlb ?hbi ?hli ?hI ?hlen ?h0 ?h1) ?k1 ?k2 ?k3 ?k4 ?k5 ?kK ?kd ?ku ?mi ?mb ?ml ?_; walk_at "LAW USE"))
  k_with "call ref" => (k_here; (k_dflt (refine' law_use (plain_c _ _ _ _ _ _ _ _ _ _ _ ?hlb ?hbi ?hli ?hI ?hlen ?h0 ?h1) ?k1 ?k2 ?k3 ?k4 ?k5 ?kK ?kd ?ku ?mi ?mb ?ml ?_; walk_at "LAW USE")))
  refine Mine.hd ?_
  k_go0
  (all_goals try k_fold)
  refine gen_q ?_
  intro Qg hQg
  refine gen_a ?_
  intro Ag
  k_steps
  all_goals (try (refine hQg _ _ ?_; (try dsimp only)))
  k_steps
