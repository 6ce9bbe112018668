import PyProof.Rows.All
import Wide.All
import OpenK.AllK
import Wide.FinOn
import Lean
import PySem.Challenge.RW_pf0250_01
open PySem PySem.W PyProof.Rows
set_option Elab.async false
set_option linter.unusedVariables false
section
namespace Mine
set_option maxRecDepth 100000 in
set_option maxHeartbeats 8000000 in
open_top hd for PySem.Challenge.rw_pf0250_01
end Mine
end
section
namespace Mine
theorem fill : (fun (_ : OpenLaw) (_ : Params → Frag) => True) PySem.Challenge.rw_pf0250_01 hd.heap_39 := by
  k_fill
  trivial
set_option maxRecDepth 100000 in
set_option maxHeartbeats 8000000 in
theorem pick_ok {prog : Program} {w : World} {base h₀ : Heap} {s : Shared} {L P l fa : Addr} {m mg mb : Str → Option Value} {own : List (Addr × Obj)}
    {ns : List Int} {vs : List Value} {i c many : Int} {t1 t2 tm : Tok} {n k : Nat} {cn : Str} {nms : List (Str × NameKind)} {cd : Value} {p : Program} {loose : List Str} {mean : ExcName → Option Value}
    {Q : Value → Shared → Prop} {E : Value → Shared → Prop}
    (B : Below callerA base [] h₀) (F : Fr h₀ L s.heap m) (X : (hd.heap_39 w.params).In h₀) (T : Top p loose mean mg mb h₀)
    (N : News h₀ L s.heap ((P, listOf #[.ref l, .int i t1, .int c t2] n) :: (l, listOf vs.toArray k) :: own))
    (hlt : @LT.lt Nat _ l P) (hoff : OwnOff own [P]) (hi : IntsAre vs ns) (hlen : ns.length ≤ 63) (h0 : 0 ≤ i) (hhi : i < 1000) (hm0 : 0 < many) (hm1 : many < 10)
    (hk : ∀ v t h' tk t1', 0 ≤ v → v < many → Fr h₀ L h' m → News h₀ L h' ((P, listOf #[.ref l, .int (i + 1) t1', .int c t2] n) :: (l, listOf vs.toArray k) :: own) → Q (.int v t) { s with heap := h', toks := tk }) :
    wpAny (model prog w) (callerA.deeper (envOf cn { kind := .function, names := nms, isGenerator := false, isCoroutine := false, more := [] } L fa cd)) (call (.ref 153) [.ref P, .int many tm] []) Q E s := by
  have hMk := kstMark
  refine wpAny_call ?_
  k_enter
  k_steps
  all_goals exact hk _ _ _ _ _ (Int.fmod_nonneg_of_pos _ hm0) (Int.fmod_lt_of_pos _ hm0) (by assumption) (by assumption)
theorem pick_call {prog : Program} {w : World} {base h₀ : Heap} {s : Shared} {L P l fa : Addr} {m mg mb : Str → Option Value} {pre post : List (Addr × Obj)}
    {ns : List Int} {vs : List Value} {i c many : Int} {t1 t2 tm : Tok} {n k : Nat} {cn : Str} {nms : List (Str × NameKind)} {cd : Value} {p : Program} {loose : List Str} {mean : ExcName → Option Value}
    {Q : Value → Shared → Prop} {E : Value → Shared → Prop}
    (B : Below callerA base [] h₀) (F : Fr h₀ L s.heap m) (X : (hd.heap_39 w.params).In h₀) (T : Top p loose mean mg mb h₀)
    (N : News h₀ L s.heap (pre ++ (P, listOf #[.ref l, .int i t1, .int c t2] n) :: post))
    (hl : (l, listOf vs.toArray k) ∈ pre ++ (P, listOf #[.ref l, .int i t1, .int c t2] n) :: post)
    (hlt : @LT.lt Nat _ l P) (h1 : ∀ q ∈ pre, q.1 ≠ P) (h2 : ∀ q ∈ post, q.1 ≠ P) (hi : IntsAre vs ns) (hlen : ns.length ≤ 63) (h0 : 0 ≤ i) (hhi : i < 1000) (hm0 : 0 < many) (hm1 : many < 10)
    (hk : ∀ v t h' tk t1', 0 ≤ v → v < many → Fr h₀ L h' m → News h₀ L h' (pre ++ (P, listOf #[.ref l, .int (i + 1) t1', .int c t2] n) :: post) → Q (.int v t) { s with heap := h', toks := tk }) :
    wpAny (model prog w) (callerA.deeper (envOf cn { kind := .function, names := nms, isGenerator := false, isCoroutine := false, more := [] } L fa cd)) (call (.ref 153) [.ref P, .int many tm] []) Q E s := by
  have hl' : (l, listOf vs.toArray k) ∈ pre ++ post := by
    rcases List.mem_append.mp hl with h | h
    · exact List.mem_append_left _ h
    · rcases List.mem_cons.mp h with h | h
      · exact absurd (congrArg Prod.fst h) (Nat.ne_of_lt hlt)
      · exact List.mem_append_right _ h
  have hoff : OwnOff (pre ++ post) [P] := by
    intro q hq b hb
    rw [List.mem_singleton.mp hb]
    rcases List.mem_append.mp hq with h | h
    · exact h1 q h
    · exact h2 q h
  refine pick_ok (own := pre ++ post) (c := c) (t1 := t1) (t2 := t2) (n := n) (k := k) B F X T (fun q hq => ?_) hlt hoff hi hlen h0 hhi hm0 hm1 fun v t h' tk t1' a b F' N' => hk v t h' tk t1' a b F' fun q hq => ?_
  · rcases List.mem_cons.mp hq with rfl | hq
    · exact N _ (List.mem_append_right _ (.head _))
    · rcases List.mem_cons.mp hq with rfl | hq
      · exact N _ hl
      · rcases List.mem_append.mp hq with h | h
        · exact N _ (List.mem_append_left _ h)
        · exact N _ (List.mem_append_right _ (.tail _ h))
  · rcases List.mem_append.mp hq with h | h
    · exact N' _ (.tail _ (.tail _ (List.mem_append_left _ h)))
    · rcases List.mem_cons.mp h with rfl | h
      · exact N' _ (.head _)
      · exact N' _ (.tail _ (.tail _ (List.mem_append_right _ h)))
theorem pick_n {prog : Program} {w : World} {base h₀ : Heap} {s : Shared} {L P l fa : Addr} {m mg mb : Str → Option Value} {news post : List (Addr × Obj)}
    {ns : List Int} {vs : List Value} {i c many : Int} {t1 t2 tm : Tok} {n k : Nat} {cn : Str} {nms : List (Str × NameKind)} {cd : Value} {p : Program} {loose : List Str} {mean : ExcName → Option Value}
    {Q : Value → Shared → Prop} {E : Value → Shared → Prop} (j : Nat)
    (B : Below callerA base [] h₀) (F : Fr h₀ L s.heap m) (X : (hd.heap_39 w.params).In h₀) (T : Top p loose mean mg mb h₀)
    (N : News h₀ L s.heap news) (hs : news.drop j = (P, listOf #[.ref l, .int i t1, .int c t2] n) :: post)
    (hl : (l, listOf vs.toArray k) ∈ news)
    (hlt : @LT.lt Nat _ l P) (h1 : ∀ q ∈ news.take j, q.1 ≠ P) (h2 : ∀ q ∈ post, q.1 ≠ P) (hi : IntsAre vs ns) (hlen : ns.length ≤ 63) (h0 : 0 ≤ i) (hhi : i < 1000) (hm0 : 0 < many) (hm1 : many < 10)
    (hk : ∀ v t h' tk t1', 0 ≤ v → v < many → Fr h₀ L h' m → News h₀ L h' (news.take j ++ (P, listOf #[.ref l, .int (i + 1) t1', .int c t2] n) :: post) → Q (.int v t) { s with heap := h', toks := tk }) :
    wpAny (model prog w) (callerA.deeper (envOf cn { kind := .function, names := nms, isGenerator := false, isCoroutine := false, more := [] } L fa cd)) (call (.ref 153) [.ref P, .int many tm] []) Q E s := by
  have e : news = news.take j ++ (P, listOf #[.ref l, .int i t1, .int c t2] n) :: post := by rw [← hs, List.take_append_drop]
  exact pick_call (pre := news.take j) B F X T (e ▸ N) (e ▸ hl) hlt h1 h2 hi hlen h0 hhi hm0 hm1 hk
theorem dr {α : Type} (j : Nat) {l : List α} : l.drop j = l.drop j := rfl
theorem atA {M : Model} {C : Around} {E : Value → Shared → Prop} {s : Shared} {x : Addr} {e : Bool} {Q : Value → Shared → Prop} (h : wpAny M C (getAttr (.ref x) (Str.ofString "code") e) Q E s) : wpAny M C (getAttr (.ref x) (Str.ofString "code") e) Q E s := h
theorem atS {M : Model} {C : Around} {E : Value → Shared → Prop} {s : Shared} {x : Addr} {n : Str} {v : Value} {Q : Unit → Shared → Prop} (h : wpAny M C (setAttr (.ref x) n v) Q E s) : wpAny M C (setAttr (.ref x) n v) Q E s := h
theorem atNI {M : Model} {C : Around} {E : Value → Shared → Prop} {s : Shared} {a b : Value} {Q : Value → Shared → Prop} (h : wpAny M C (compareOp .NotIn a b) Q E s) : wpAny M C (compareOp .NotIn a b) Q E s := h
theorem atRa {M : Model} {C : Around} {E : Value → Shared → Prop} {s : Shared} {e : PySem.Expr} {pos : Pos} {env : Env} {Q : Flow → Shared → Prop} (h : wpAny M C (exec (.Raise (some e) none pos) env) Q E s) : wpAny M C (exec (.Raise (some e) none pos) env) Q E s := h
theorem atL {M : Model} {C : Around} {E : Value → Shared → Prop} {s : Shared} {x : Addr} {env : Env} {Q : Unit → Shared → Prop} (h : wpAny M C (leaving env (.ref x)) Q E s) : wpAny M C (leaving env (.ref x)) Q E s := h
theorem atNo {M : Model} {C : Around} {E : Value → Shared → Prop} {s : Shared} {x : Addr} {env : Env} {Q : Unit → Shared → Prop} (h : wpAny M C (noteFrame (.ref x) env) Q E s) : wpAny M C (noteFrame (.ref x) env) Q E s := h
set_option maxRecDepth 100000 in
theorem atMe {M : Model} {C : Around} {E : Value → Shared → Prop} {s : Shared} {n : Str} {pl : Sem Bool} {Q : (Value × List Value) → Shared → Prop} (h : wpAny M C (getMethod (.type "Exception") n pl) Q E s) : wpAny M C (getMethod (.type "Exception") n pl) Q E s := (h : _)
set_option maxRecDepth 100000 in
theorem atB {M : Model} {C : Around} {E : Value → Shared → Prop} {s : Shared} {a : List Value} {k : List (Str × Value)} {Q : Value → Shared → Prop} (h : wpAny M C (call (.builtin "Exception.__init__") a k) Q E s) : wpAny M C (call (.builtin "Exception.__init__") a k) Q E s := h
theorem atI {c : Prop} {i : Decidable c} {a b : Prop} (h : ite c a b) : ite c a b := h
theorem atC {M : Model} {C : Around} {a : List Value} {k : List (Str × Value)} {Q : Value → Shared → Prop} {E : Value → Shared → Prop} {s : Shared} {n : Addr} (h : wpAny M C (call (.ref n) a k) Q E s) : wpAny M C (call (.ref n) a k) Q E s := h
theorem atR {M : Model} {C : Around} {a : List Value} {k : List (Str × Value)} {Q : Value → Shared → Prop} {E : Value → Shared → Prop} {s : Shared} (n : Addr) (h : wpAny M C (call (.ref n) a k) Q E s) : wpAny M C (call (.ref n) a k) Q E s := h
theorem int_two {v : Int} (h0 : 0 ≤ v) (h1 : v < 2) : v = 0 ∨ v = 1 := by omega
end Mine
end
section
namespace Mine
/-- the entries of the object's own dict -/
abbrev idsEs (w : World) (role : Str) (k0 k1 k2 k3 k4 k5 k6 tr : Tok) (OL PL OM PM TL OW : Addr) : List DictEntry :=
  [⟨PyData.keyHash w.params (Str.ofString "role"), .str (Str.ofString "role") k0, .str role tr⟩,
   ⟨PyData.keyHash w.params (Str.ofString "own_limits"), .str (Str.ofString "own_limits") k1, .ref OL⟩,
   ⟨PyData.keyHash w.params (Str.ofString "peer_limits"), .str (Str.ofString "peer_limits") k2, .ref PL⟩,
   ⟨PyData.keyHash w.params (Str.ofString "own_many"), .str (Str.ofString "own_many") k3, .ref OM⟩,
   ⟨PyData.keyHash w.params (Str.ofString "peer_many"), .str (Str.ofString "peer_many") k4, .ref PM⟩,
   ⟨PyData.keyHash w.params (Str.ofString "told_limits"), .str (Str.ofString "told_limits") k5, .ref TL⟩,
   ⟨PyData.keyHash w.params (Str.ofString "owes_limit"), .str (Str.ofString "owes_limit") k6, .ref OW⟩]
set_option genInjectivity false in
/-- what stands fast in the loop -/
structure Fast where
  (P l I dI OL PL OM PM TL OW H HL HT HO : Addr)
  oH : Obj
  vs : List Value
  c : Int
  role : Str
  (tc k0 k1 k2 k3 k4 k5 k6 tr o0 o1 m0 m1 q0 q1 : Tok)
  (nP nl nOL nPL nOM nPM nTL nOW nHL nHT nHO : Nat)
set_option genInjectivity false in
/-- what turns in the loop -/
structure Dyn where
  (i a0 a1 e0 e1 t0 t1 s0 s1 : Int)
  (b0 b1 c0 c1 : Bool)
  (ti pa0 pa1 la0 la1 pt0 pt1 ht0 ht1 : Tok)
def ledF (w : World) (S : Fast) (d : Dyn) : List (Addr × Obj) :=
  [(S.HO, listOf #[.bool d.c0, .bool d.c1] S.nHO), (S.HT, listOf #[.int d.s0 d.ht0, .int d.s1 d.ht1] S.nHT), (S.HL, listOf #[.int d.e0 d.la0, .int d.e1 d.la1] S.nHL), (S.H, S.oH),
   (S.OW, listOf #[.bool d.b0, .bool d.b1] S.nOW), (S.TL, listOf #[.int d.t0 d.pt0, .int d.t1 d.pt1] S.nTL), (S.PM, listOf #[.int 0 S.q0, .int 0 S.q1] S.nPM), (S.OM, listOf #[.int 0 S.m0, .int 0 S.m1] S.nOM),
   (S.PL, listOf #[.int d.a0 d.pa0, .int d.a1 d.pa1] S.nPL), (S.OL, listOf #[.int 1 S.o0, .int 1 S.o1] S.nOL), (S.I, instObj 142 S.dI),
   (S.dI, dictOf (idsEs w S.role S.k0 S.k1 S.k2 S.k3 S.k4 S.k5 S.k6 S.tr S.OL S.PL S.OM S.PM S.TL S.OW) 7),
   (S.P, listOf #[.ref S.l, .int d.i d.ti, .int S.c S.tc] S.nP), (S.l, listOf S.vs.toArray S.nl)]
def adrF (S : Fast) : List Addr := [S.HO, S.HT, S.HL, S.H, S.OW, S.TL, S.PM, S.OM, S.PL, S.OL, S.I, S.dI, S.P, S.l]
theorem led_adr (w : World) (S : Fast) (d : Dyn) : (ledF w S d).map (·.1) = adrF S := rfl
/-- the addresses rise -/
def rises (S : Fast) : Prop :=
  @LT.lt Nat _ S.l S.P ∧ @LT.lt Nat _ S.P S.dI ∧ @LT.lt Nat _ S.dI S.I ∧ @LT.lt Nat _ S.I S.OL ∧ @LT.lt Nat _ S.OL S.PL ∧ @LT.lt Nat _ S.PL S.OM ∧ @LT.lt Nat _ S.OM S.PM ∧ @LT.lt Nat _ S.PM S.TL ∧
  @LT.lt Nat _ S.TL S.OW ∧ @LT.lt Nat _ S.OW S.H ∧ @LT.lt Nat _ S.H S.HL ∧ @LT.lt Nat _ S.HL S.HT ∧ @LT.lt Nat _ S.HT S.HO
theorem ndL {a b : Nat} {L : List Nat} (h : @List.Nodup Nat (a :: L)) (hb : b ∈ L) : a ≠ b := fun e => (List.nodup_cons.mp h).1 (e ▸ hb)
theorem ndR {a b : Nat} {L : List Nat} (h : @List.Nodup Nat (a :: L)) (hb : b ∈ L) : b ≠ a := fun e => (List.nodup_cons.mp h).1 (e ▸ hb)
theorem ndT {a : Nat} {L : List Nat} (h : @List.Nodup Nat (a :: L)) : @List.Nodup Nat L := (List.nodup_cons.mp h).2
theorem pw_cons {a b : Nat} {L : List Nat} (h : a < b) (hL : List.Pairwise (fun x y : Nat => x < y) (b :: L)) : List.Pairwise (fun x y : Nat => x < y) (a :: b :: L) :=
  List.pairwise_cons.mpr ⟨fun x hx => (List.mem_cons.mp hx).elim (fun e => e ▸ h) (fun hx => Nat.lt_trans h ((List.pairwise_cons.mp hL).1 x hx)), hL⟩
theorem nd_of_pw {L : List Nat} (h : List.Pairwise (fun x y : Nat => x < y) L) : @List.Nodup Nat L := List.Pairwise.imp (fun q => Nat.ne_of_lt q) h
theorem rises_nd (S : Fast) (h : rises S) : @List.Nodup Nat [S.l, S.P, S.dI, S.I, S.OL, S.PL, S.OM, S.PM, S.TL, S.OW, S.H, S.HL, S.HT, S.HO] := by
  obtain ⟨h1, h2, h3, h4, h5, h6, h7, h8, h9, h10, h11, h12, h13⟩ := h
  exact nd_of_pw (pw_cons h1 (pw_cons h2 (pw_cons h3 (pw_cons h4 (pw_cons h5 (pw_cons h6 (pw_cons h7 (pw_cons h8 (pw_cons h9 (pw_cons h10 (pw_cons h11 (pw_cons h12 (pw_cons h13 (List.pairwise_singleton _ _))))))))))))))
/-- the bounds -/
def bnd (d : Dyn) : Prop :=
  (0 ≤ d.a0 ∧ d.a0 ≤ 1152921504606846976) ∧ (0 ≤ d.a1 ∧ d.a1 ≤ 1152921504606846976) ∧ (0 ≤ d.t0 ∧ d.t0 ≤ 1152921504606846976) ∧ (0 ≤ d.t1 ∧ d.t1 ≤ 1152921504606846976)
/-- the law's book says what the object says -/
def mir (d : Dyn) : Prop := d.e0 = d.a0 ∧ d.e1 = d.a1 ∧ d.s0 = d.t0 ∧ d.s1 = d.t1 ∧ d.c0 = d.b0 ∧ d.c1 = d.b1
theorem mir_r {i a0 a1 t0 t1 : Int} {b0 b1 : Bool} {ti pa0 pa1 la0 la1 pt0 pt1 ht0 ht1 : Tok} : mir ⟨i, a0, a1, a0, a1, t0, t1, t0, t1, b0, b1, b0, b1, ti, pa0, pa1, la0, la1, pt0, pt1, ht0, ht1⟩ := ⟨rfl, rfl, rfl, rfl, rfl, rfl⟩
theorem hs_own {r : Str} {bit x : Int} (h : r = Str.ofString "client" ∧ bit = 1 ∨ r = Str.ofString "server" ∧ bit = 0) (e : x % 2 = (1 - bit) % 2) :
    r = Str.ofString "client" ∧ (Int.fmod x 2 == 1) = false ∨ r = Str.ofString "server" ∧ (Int.fmod x 2 == 1) = true := by
  rw [Int.fmod_eq_emod_of_nonneg _ (by decide), e]
  rcases h with ⟨a, rfl⟩ | ⟨a, rfl⟩
  · exact Or.inl ⟨a, rfl⟩
  · exact Or.inr ⟨a, rfl⟩
theorem hs_peer {r : Str} {bit x : Int} (h : r = Str.ofString "client" ∧ bit = 1 ∨ r = Str.ofString "server" ∧ bit = 0) (e : x % 2 = bit % 2) :
    r = Str.ofString "client" ∧ (Int.fmod x 2 == 1) = true ∨ r = Str.ofString "server" ∧ (Int.fmod x 2 == 1) = false := by
  rw [Int.fmod_eq_emod_of_nonneg _ (by decide), e]
  rcases h with ⟨a, rfl⟩ | ⟨a, rfl⟩
  · exact Or.inl ⟨a, rfl⟩
  · exact Or.inr ⟨a, rfl⟩
theorem bP {a : Int} (h : 0 ≤ a ∧ a ≤ 1152921504606846976) : 0 ≤ (if a + 1 < 1152921504606846976 then a + 1 else 1152921504606846976) ∧ (if a + 1 < 1152921504606846976 then a + 1 else 1152921504606846976) ≤ (1152921504606846976 : Int) := by
  split <;> omega
theorem news_tl {h₀ h : Heap} {L : Addr} {q : Addr × Obj} {news : List (Addr × Obj)} (N : News h₀ L h (q :: news)) : News h₀ L h news := fun r hr => N r (.tail _ hr)
/-- the law's own text -/
def lawDef : Option (List Stmt × Scope) :=
  match PySem.Challenge.pw_pf0250_01.main.body.getLast? with
  | some (PySem.Stmt.FunctionDef _ _ b _ _ _ s _ _ _) => some (b, s)
  | _ => none
def lawBody : List Stmt := (lawDef.map (·.1)).getD []
def lawScope : Scope := (lawDef.map (·.2)).getD { kind := .function, names := [], isGenerator := false, isCoroutine := false, more := [] }
def turnBody : List Stmt :=
  match lawBody[6]? with
  | some (PySem.Stmt.For _ _ b _ _) => b
  | _ => []
end Mine
end
section
namespace Mine
theorem fillC1 : (fun (_ : OpenLaw) (_ : Params → Frag) => True) PySem.Challenge.rw_pf0250_01 hd.heap_39 := by
  k_fill
  trivial
section
variable {prog : Program} {w : World} {A A₀ : Around} {base h₀ : Heap} {s : Shared} {L : Addr} {m mg mb : Str → Option Value} {news : List (Addr × Obj)} {env : Env} {outer : List Env}
    {sid : Int} {ts : Tok} {p : Program} {loose : List Str} {mean : ExcName → Option Value} {Q : Value → Shared → Prop} {E : Value → Shared → Prop}
set_option maxRecDepth 100000 in
set_option maxHeartbeats 8000000 in
theorem oneway_call (b : Bool) (B : Below A₀ base outer h₀) (F : Fr h₀ L s.heap m) (X : (hd.heap_39 w.params).In h₀) (T : Top p loose mean mg mb h₀) (N : News h₀ L s.heap news)
    (hA : A.frames = some (env :: outer)) (hf : env.frame = some L) (hke : env.scope.kind = .function) (hroom : A.depth < recursionLimit)
    (hb : (Int.fmod (Int.fdiv sid 2) 2 == 1) = b)
    (hk : ∀ h' tk, Fr h₀ L h' m → News h₀ L h' news → Q (.bool b) { s with heap := h', toks := tk }) :
    wpAny (model prog w) A (call (.ref 71) [.int sid ts] []) Q E s := by
  refine wpAny_call ?_
  (refine' code_def B F X N T hA hf hke ?k6 ?k7 hroom ?k9 ?kB ?_ ?c2 ?c3 ?c4 ?c5; (case k6 => k_is); (case k7 => k_is); (case k9 => exact BindsTo.of_eq rfl); (case c5 => decide); (case kB => exact locs rfl); (case c2 => exact rfl); (case c3 => exact rfl); (case c4 => exact rfl); k_whole; intro g' L' h' FG' F' N' B' X' T'; (try dsimp only); (try k_lift B'); (try k_fold))
  k_steps
  subst hb
  exact hk _ _ (by assumption) (by assumption)
set_option maxRecDepth 100000 in
set_option maxHeartbeats 8000000 in
theorem opener_call (b : Bool) (B : Below A₀ base outer h₀) (F : Fr h₀ L s.heap m) (X : (hd.heap_39 w.params).In h₀) (T : Top p loose mean mg mb h₀) (N : News h₀ L s.heap news)
    (hA : A.frames = some (env :: outer)) (hf : env.frame = some L) (hke : env.scope.kind = .function) (hroom : A.depth < recursionLimit)
    (hb : (Int.fmod sid 2 == 1) = b)
    (hk : ∀ h' tk t, Fr h₀ L h' m → News h₀ L h' news → Q (.str (if b then Str.ofString "server" else Str.ofString "client") t) { s with heap := h', toks := tk }) :
    wpAny (model prog w) A (call (.ref 64) [.int sid ts] []) Q E s := by
  refine wpAny_call ?_
  (refine' code_def B F X N T hA hf hke ?k6 ?k7 hroom ?k9 ?kB ?_ ?c2 ?c3 ?c4 ?c5; (case k6 => k_is); (case k7 => k_is); (case k9 => exact BindsTo.of_eq rfl); (case c5 => decide); (case kB => exact locs rfl); (case c2 => exact rfl); (case c3 => exact rfl); (case c4 => exact rfl); k_whole; intro g' L' h' FG' F' N' B' X' T'; (try dsimp only); (try k_lift B'); (try k_fold))
  cases b
  all_goals k_steps
  all_goals exact hk _ _ _ (by assumption) (by assumption)
end
end Mine
end
namespace Mine
local macro_rules | `(tactic| walk_at $s:str) => `(tactic| k_extra $s)
local macro_rules | `(tactic| k_ne) => `(tactic| (refine neN ?_; (try dsimp only); (rename List.Nodup _ => q); (repeat' (first | exact ndL q (by k_mem) | exact ndR q (by k_mem) | replace q := ndT q)); done))
section
theorem fillC2 : (fun (_ : OpenLaw) (_ : Params → Frag) => True) PySem.Challenge.rw_pf0250_01 hd.heap_39 := by
  k_fill
  trivial
section
variable {prog : Program} {w : World} {base h₀ : Heap} {s : Shared} {L fa : Addr} {m mg mb : Str → Option Value} {pre own : List (Addr × Obj)}
    {sid : Int} {ts : Tok} {cn : Str} {nms : List (Str × NameKind)} {cd : Value} {p : Program} {loose : List Str} {mean : ExcName → Option Value} {Q : Value → Shared → Prop} {E : Value → Shared → Prop}
set_option maxRecDepth 100000 in
set_option maxHeartbeats 8000000 in
theorem closed_own (S : Fast) (d : Dyn) (B : Below callerA base [] h₀) (F : Fr h₀ L s.heap m) (X : (hd.heap_39 w.params).In h₀) (T : Top p loose mean mg mb h₀)
    (N : News h₀ L s.heap (pre ++ (ledF w S d ++ own))) (hr : rises S) (hoff : OwnOff own (adrF S))
    (hs : S.role = Str.ofString "client" ∧ (Int.fmod sid 2 == 1) = false ∨ S.role = Str.ofString "server" ∧ (Int.fmod sid 2 == 1) = true)
    (hk : ∀ h' tk, Fr h₀ L h' m → News h₀ L h' (ledF w S d ++ own) → Q .none { s with heap := h', toks := tk }) :
    wpAny (model prog w) (callerA.deeper (envOf cn { kind := .function, names := nms, isGenerator := false, isCoroutine := false, more := [] } L fa cd)) (call (.ref 125) [.ref S.I, .int sid ts] []) Q E s := by
  have N0 : News h₀ L s.heap (ledF w S d ++ own) := fun q hq => N q (List.mem_append_right _ hq)
  clear N
  have hMk := kstMark
  have hnd := rises_nd S hr
  obtain ⟨P, l, I, dI, OL, PL, OM, PM, TL, OW, H, HL, HT, HO, oH, vs, c, role, tc, k0, k1, k2, k3, k4, k5, k6, tr, o0, o1, m0, m1, q0, q1, nP, nl, nOL, nPL, nOM, nPM, nTL, nOW, nHL, nHT, nHO⟩ := S
  obtain ⟨i, a0, a1, e0, e1, t0, t1, s0, s1, b0, b1, c0, c1, ti, pa0, pa1, la0, la1, pt0, pt1, ht0, ht1⟩ := d
  dsimp only [ledF, adrF, bnd, List.cons_append, List.nil_append] at *
  rcases hs with ⟨rfl, hs⟩ | ⟨rfl, hs⟩
  all_goals (refine wpAny_call ?_; k_enter)
  k_with_none
  k_with "call ref" => (k_here; ((with_reducible refine atR 71 ?_); k_dflt (refine oneway_call _ (by k_asm) (by k_asm) (by k_asm) (by k_asm) (by k_asm) (by exact rfl) (by exact rfl) (by exact rfl) (by k_room) (by assumption) ?_; k_whole); intros; (try simp only [Bool.false_eq_true, if_true, if_false, ite_true, ite_false]); (try k_sweep)))
  k_with "call ref" => (k_here; ((with_reducible refine atR 64 ?_); k_dflt (refine opener_call _ (by k_asm) (by k_asm) (by k_asm) (by k_asm) (by k_asm) (by exact rfl) (by exact rfl) (by exact rfl) (by k_room) (by assumption) ?_; k_whole); intros; (try simp only [Bool.false_eq_true, if_true, if_false, ite_true, ite_false]); (try k_sweep)))
  all_goals k_steps
  all_goals exact hk _ _ (by assumption) (by assumption)
set_option maxRecDepth 100000 in
set_option maxHeartbeats 8000000 in
theorem closed_peer0 (S : Fast) (d : Dyn) (B : Below callerA base [] h₀) (F : Fr h₀ L s.heap m) (X : (hd.heap_39 w.params).In h₀) (T : Top p loose mean mg mb h₀)
    (N : News h₀ L s.heap (pre ++ (ledF w S d ++ own))) (hr : rises S) (hoff : OwnOff own (adrF S)) (hb : bnd d)
    (hs : S.role = Str.ofString "client" ∧ (Int.fmod sid 2 == 1) = true ∨ S.role = Str.ofString "server" ∧ (Int.fmod sid 2 == 1) = false) (hw : (Int.fmod (Int.fdiv sid 2) 2 == 1) = false)
    (hk : ∀ h' tk t', Fr h₀ L h' m → News h₀ L h' (ledF w S { d with a0 := (if d.a0 + 1 < 1152921504606846976 then d.a0 + 1 else 1152921504606846976), pa0 := t' } ++ own) → Q .none { s with heap := h', toks := tk }) :
    wpAny (model prog w) (callerA.deeper (envOf cn { kind := .function, names := nms, isGenerator := false, isCoroutine := false, more := [] } L fa cd)) (call (.ref 125) [.ref S.I, .int sid ts] []) Q E s := by
  have N0 : News h₀ L s.heap (ledF w S d ++ own) := fun q hq => N q (List.mem_append_right _ hq)
  clear N
  have hMk := kstMark
  have hnd := rises_nd S hr
  obtain ⟨P, l, I, dI, OL, PL, OM, PM, TL, OW, H, HL, HT, HO, oH, vs, c, role, tc, k0, k1, k2, k3, k4, k5, k6, tr, o0, o1, m0, m1, q0, q1, nP, nl, nOL, nPL, nOM, nPM, nTL, nOW, nHL, nHT, nHO⟩ := S
  obtain ⟨i, a0, a1, e0, e1, t0, t1, s0, s1, b0, b1, c0, c1, ti, pa0, pa1, la0, la1, pt0, pt1, ht0, ht1⟩ := d
  dsimp only [ledF, adrF, bnd, List.cons_append, List.nil_append] at *
  rcases hs with ⟨rfl, hs⟩ | ⟨rfl, hs⟩
  all_goals (refine wpAny_call ?_; k_enter)
  all_goals k_steps
  all_goals exact hk _ _ _ (by assumption) (by assumption)
set_option maxRecDepth 100000 in
set_option maxHeartbeats 8000000 in
theorem closed_peer1 (S : Fast) (d : Dyn) (B : Below callerA base [] h₀) (F : Fr h₀ L s.heap m) (X : (hd.heap_39 w.params).In h₀) (T : Top p loose mean mg mb h₀)
    (N : News h₀ L s.heap (pre ++ (ledF w S d ++ own))) (hr : rises S) (hoff : OwnOff own (adrF S)) (hb : bnd d)
    (hs : S.role = Str.ofString "client" ∧ (Int.fmod sid 2 == 1) = true ∨ S.role = Str.ofString "server" ∧ (Int.fmod sid 2 == 1) = false) (hw : (Int.fmod (Int.fdiv sid 2) 2 == 1) = true)
    (hk : ∀ h' tk t', Fr h₀ L h' m → News h₀ L h' (ledF w S { d with a1 := (if d.a1 + 1 < 1152921504606846976 then d.a1 + 1 else 1152921504606846976), pa1 := t' } ++ own) → Q .none { s with heap := h', toks := tk }) :
    wpAny (model prog w) (callerA.deeper (envOf cn { kind := .function, names := nms, isGenerator := false, isCoroutine := false, more := [] } L fa cd)) (call (.ref 125) [.ref S.I, .int sid ts] []) Q E s := by
  have N0 : News h₀ L s.heap (ledF w S d ++ own) := fun q hq => N q (List.mem_append_right _ hq)
  clear N
  have hMk := kstMark
  have hnd := rises_nd S hr
  obtain ⟨P, l, I, dI, OL, PL, OM, PM, TL, OW, H, HL, HT, HO, oH, vs, c, role, tc, k0, k1, k2, k3, k4, k5, k6, tr, o0, o1, m0, m1, q0, q1, nP, nl, nOL, nPL, nOM, nPM, nTL, nOW, nHL, nHT, nHO⟩ := S
  obtain ⟨i, a0, a1, e0, e1, t0, t1, s0, s1, b0, b1, c0, c1, ti, pa0, pa1, la0, la1, pt0, pt1, ht0, ht1⟩ := d
  dsimp only [ledF, adrF, bnd, List.cons_append, List.nil_append] at *
  rcases hs with ⟨rfl, hs⟩ | ⟨rfl, hs⟩
  all_goals (refine wpAny_call ?_; k_enter)
  all_goals k_steps
  all_goals exact hk _ _ _ (by assumption) (by assumption)
end
end
section
theorem fillC3 : (fun (_ : OpenLaw) (_ : Params → Frag) => True) PySem.Challenge.rw_pf0250_01 hd.heap_39 := by
  k_fill
  trivial
section
variable {prog : Program} {w : World} {base h₀ : Heap} {s : Shared} {L fa : Addr} {m mg mb : Str → Option Value} {pre own : List (Addr × Obj)}
    {ts : Tok} {cn : Str} {nms : List (Str × NameKind)} {cd : Value} {p : Program} {loose : List Str} {mean : ExcName → Option Value} {Q : Value → Shared → Prop} {E : Value → Shared → Prop} {x0 x1 x2 : Tok}
set_option maxRecDepth 100000 in
set_option maxHeartbeats 8000000 in
theorem granted0 (S : Fast) (d : Dyn) (B : Below callerA base [] h₀) (F : Fr h₀ L s.heap m) (X : (hd.heap_39 w.params).In h₀) (T : Top p loose mean mg mb h₀)
    (N : News h₀ L s.heap (pre ++ (ledF w S d ++ own))) (hr : rises S) (hoff : OwnOff own (adrF S)) (hb : bnd d) (hm : mir d) (hsys : (S.H == sysModules) = false)
    (hoH : S.oH.IsDictOf (PySem.strKind prog w) (strPairs [(.str (Str.ofString "lets") x0, .ref S.HL), (.str (Str.ofString "told") x1, .ref S.HT), (.str (Str.ofString "owes") x2, .ref S.HO)]))
    (hk : ∀ h' tk t1 t2, Fr h₀ L h' m → News h₀ L h' (ledF w S { d with t0 := d.a0, s0 := d.a0, b0 := false, c0 := false, pt0 := t1, ht0 := t2 } ++ own) → Q (.bool true) { s with heap := h', toks := tk }) :
    wpAny (model prog w) (callerA.deeper (envOf cn { kind := .function, names := nms, isGenerator := false, isCoroutine := false, more := [] } L fa cd)) (call (.ref 167) [.ref S.I, .int 0 ts, .ref S.H] []) Q E s := by
  have N0 : News h₀ L s.heap (ledF w S d ++ own) := fun q hq => N q (List.mem_append_right _ hq)
  clear N
  have hMk := kstMark
  have hnd := rises_nd S hr
  obtain ⟨P, l, I, dI, OL, PL, OM, PM, TL, OW, H, HL, HT, HO, oH, vs, c, role, tc, k0, k1, k2, k3, k4, k5, k6, tr, o0, o1, m0, m1, q0, q1, nP, nl, nOL, nPL, nOM, nPM, nTL, nOW, nHL, nHT, nHO⟩ := S
  obtain ⟨i, a0, a1, e0, e1, t0, t1, s0, s1, b0, b1, c0, c1, ti, pa0, pa1, la0, la1, pt0, pt1, ht0, ht1⟩ := d
  dsimp only [ledF, adrF, bnd, mir, List.cons_append, List.nil_append] at *
  obtain ⟨rfl, rfl, rfl, rfl, rfl, rfl⟩ := hm
  by_cases hq : s0 = e0
  case' pos => (subst hq; have hq1 : (s0 != s0) = false := bne_self_eq_false s0; have hq2 : (s0 == s0) = true := beq_self_eq_true s0)
  case' neg => (have hq1 : (s0 != e0) = true := bne_iff_ne.mpr hq; have hq2 : (s0 == e0) = false := beq_eq_false_iff_ne.mpr hq)
  all_goals cases c0
  all_goals (refine wpAny_call ?_; k_enter)
  k_with_none
  k_with "execs cons" => (k_here; dsimp only; k_gentoks)
  all_goals repeat' (first | (k_unfold; (try dsimp only)) | (k_end; wrow_close) | walk1 | (dsimp only; walk1) | (leave1; walk_say "STEP leave1"; try dsimp only) | fail "no step")
  all_goals (try simp only [beq_self_eq_true])
  all_goals exact hk _ _ _ _ (by assumption) (by first | assumption | exact news_tl (by assumption) | exact news_tl (news_tl (by assumption)))
set_option maxRecDepth 100000 in
set_option maxHeartbeats 8000000 in
theorem granted1 (S : Fast) (d : Dyn) (B : Below callerA base [] h₀) (F : Fr h₀ L s.heap m) (X : (hd.heap_39 w.params).In h₀) (T : Top p loose mean mg mb h₀)
    (N : News h₀ L s.heap (pre ++ (ledF w S d ++ own))) (hr : rises S) (hoff : OwnOff own (adrF S)) (hb : bnd d) (hm : mir d) (hsys : (S.H == sysModules) = false)
    (hoH : S.oH.IsDictOf (PySem.strKind prog w) (strPairs [(.str (Str.ofString "lets") x0, .ref S.HL), (.str (Str.ofString "told") x1, .ref S.HT), (.str (Str.ofString "owes") x2, .ref S.HO)]))
    (hk : ∀ h' tk t1 t2, Fr h₀ L h' m → News h₀ L h' (ledF w S { d with t1 := d.a1, s1 := d.a1, b1 := false, c1 := false, pt1 := t1, ht1 := t2 } ++ own) → Q (.bool true) { s with heap := h', toks := tk }) :
    wpAny (model prog w) (callerA.deeper (envOf cn { kind := .function, names := nms, isGenerator := false, isCoroutine := false, more := [] } L fa cd)) (call (.ref 167) [.ref S.I, .int 1 ts, .ref S.H] []) Q E s := by
  have N0 : News h₀ L s.heap (ledF w S d ++ own) := fun q hq => N q (List.mem_append_right _ hq)
  clear N
  have hMk := kstMark
  have hnd := rises_nd S hr
  obtain ⟨P, l, I, dI, OL, PL, OM, PM, TL, OW, H, HL, HT, HO, oH, vs, c, role, tc, k0, k1, k2, k3, k4, k5, k6, tr, o0, o1, m0, m1, q0, q1, nP, nl, nOL, nPL, nOM, nPM, nTL, nOW, nHL, nHT, nHO⟩ := S
  obtain ⟨i, a0, a1, e0, e1, t0, t1, s0, s1, b0, b1, c0, c1, ti, pa0, pa1, la0, la1, pt0, pt1, ht0, ht1⟩ := d
  dsimp only [ledF, adrF, bnd, mir, List.cons_append, List.nil_append] at *
  obtain ⟨rfl, rfl, rfl, rfl, rfl, rfl⟩ := hm
  by_cases hq : s1 = e1
  case' pos => (subst hq; have hq1 : (s1 != s1) = false := bne_self_eq_false s1; have hq2 : (s1 == s1) = true := beq_self_eq_true s1)
  case' neg => (have hq1 : (s1 != e1) = true := bne_iff_ne.mpr hq; have hq2 : (s1 == e1) = false := beq_eq_false_iff_ne.mpr hq)
  all_goals cases c1
  all_goals (refine wpAny_call ?_; k_enter)
  all_goals repeat' (first | (k_unfold; (try dsimp only)) | (k_end; wrow_close) | walk1 | (dsimp only; walk1) | (leave1; walk_say "STEP leave1"; try dsimp only) | fail "no step")
  all_goals (try simp only [beq_self_eq_true])
  all_goals exact hk _ _ _ _ (by assumption) (by first | assumption | exact news_tl (by assumption) | exact news_tl (news_tl (by assumption)))
end
end
section
theorem fillC4 : (fun (_ : OpenLaw) (_ : Params → Frag) => True) PySem.Challenge.rw_pf0250_01 hd.heap_39 := by
  k_fill
  trivial
theorem fm_t {x : Int} (h : x % 2 = 1) : (Int.fmod x 2 == 1) = true := by rw [Int.fmod_eq_emod_of_nonneg _ (by decide)]; exact beq_iff_eq.mpr h
theorem fm_f {x : Int} (h : x % 2 = 0) : (Int.fmod x 2 == 1) = false := by rw [Int.fmod_eq_emod_of_nonneg _ (by decide)]; exact beq_eq_false_iff_ne.mpr (by omega)
theorem fd_t {x : Int} (h : x / 2 % 2 = 1) : (Int.fmod (Int.fdiv x 2) 2 == 1) = true := by rw [Int.fmod_eq_emod_of_nonneg _ (by decide), Int.fdiv_eq_ediv_of_nonneg _ (by decide)]; exact beq_iff_eq.mpr h
theorem fd_f {x : Int} (h : x / 2 % 2 = 0) : (Int.fmod (Int.fdiv x 2) 2 == 1) = false := by rw [Int.fmod_eq_emod_of_nonneg _ (by decide), Int.fdiv_eq_ediv_of_nonneg _ (by decide)]; exact beq_eq_false_iff_ne.mpr (by omega)
theorem stored_off {z : Str} (hc : [Str.ofString "at", Str.ofString "form", Str.ofString "number", Str.ofString "is_own", Str.ofString "lost"].contains z = false) :
    z ≠ Str.ofString "at" ∧ z ≠ Str.ofString "form" ∧ z ≠ Str.ofString "number" ∧ z ≠ Str.ofString "is_own" ∧ z ≠ Str.ofString "lost" := by
  refine ⟨?_, ?_, ?_, ?_, ?_⟩ <;> (rintro rfl; revert hc; decide)
section
variable {prog : Program} {w : World} {base h₀ : Heap} {s : Shared} {L fa : Addr} {m mg mb : Str → Option Value} {pre own : List (Addr × Obj)}
    {ts : Tok} {cn : Str} {nms : List (Str × NameKind)} {cd : Value} {p : Program} {loose : List Str} {mean : ExcName → Option Value} {Q : Value → Shared → Prop} {E : Value → Shared → Prop} {lost : Int}
set_option maxRecDepth 100000 in
set_option maxHeartbeats 8000000 in
theorem lost0 (S : Fast) (d : Dyn) (q : Bool) (B : Below callerA base [] h₀) (F : Fr h₀ L s.heap m) (X : (hd.heap_39 w.params).In h₀) (T : Top p loose mean mg mb h₀)
    (N : News h₀ L s.heap (pre ++ (ledF w S d ++ own))) (hr : rises S) (hoff : OwnOff own (adrF S)) (hq : (d.t0 == lost) = q)
    (hk : ∀ h' tk, Fr h₀ L h' m → News h₀ L h' (ledF w S { d with b0 := q || d.b0 } ++ own) → Q .none { s with heap := h', toks := tk }) :
    wpAny (model prog w) (callerA.deeper (envOf cn { kind := .function, names := nms, isGenerator := false, isCoroutine := false, more := [] } L fa cd)) (call (.ref 139) [.ref S.I, .bool (0 == (1 : Int)), .int lost ts] []) Q E s := by
  have N0 : News h₀ L s.heap (ledF w S d ++ own) := fun q hq => N q (List.mem_append_right _ hq)
  clear N
  have hMk := kstMark
  have hnd := rises_nd S hr
  obtain ⟨P, l, I, dI, OL, PL, OM, PM, TL, OW, H, HL, HT, HO, oH, vs, c, role, tc, k0, k1, k2, k3, k4, k5, k6, tr, o0, o1, m0, m1, q0, q1, nP, nl, nOL, nPL, nOM, nPM, nTL, nOW, nHL, nHT, nHO⟩ := S
  obtain ⟨i, a0, a1, e0, e1, t0, t1, s0, s1, b0, b1, c0, c1, ti, pa0, pa1, la0, la1, pt0, pt1, ht0, ht1⟩ := d
  dsimp only [ledF, adrF, bnd, mir, List.cons_append, List.nil_append] at *
  cases q
  all_goals (refine wpAny_call ?_; k_enter)
  k_with_none
  k_with "execs cons" => (k_here; dsimp only; k_gentoks)
  all_goals k_steps
  all_goals exact hk _ _ (by assumption) (by first | assumption | exact news_tl (by assumption) | exact news_tl (news_tl (by assumption)))
set_option maxRecDepth 100000 in
set_option maxHeartbeats 8000000 in
theorem lost1 (S : Fast) (d : Dyn) (q : Bool) (B : Below callerA base [] h₀) (F : Fr h₀ L s.heap m) (X : (hd.heap_39 w.params).In h₀) (T : Top p loose mean mg mb h₀)
    (N : News h₀ L s.heap (pre ++ (ledF w S d ++ own))) (hr : rises S) (hoff : OwnOff own (adrF S)) (hq : (d.t1 == lost) = q)
    (hk : ∀ h' tk, Fr h₀ L h' m → News h₀ L h' (ledF w S { d with b1 := q || d.b1 } ++ own) → Q .none { s with heap := h', toks := tk }) :
    wpAny (model prog w) (callerA.deeper (envOf cn { kind := .function, names := nms, isGenerator := false, isCoroutine := false, more := [] } L fa cd)) (call (.ref 139) [.ref S.I, .bool (1 == (1 : Int)), .int lost ts] []) Q E s := by
  have N0 : News h₀ L s.heap (ledF w S d ++ own) := fun q hq => N q (List.mem_append_right _ hq)
  clear N
  have hMk := kstMark
  have hnd := rises_nd S hr
  obtain ⟨P, l, I, dI, OL, PL, OM, PM, TL, OW, H, HL, HT, HO, oH, vs, c, role, tc, k0, k1, k2, k3, k4, k5, k6, tr, o0, o1, m0, m1, q0, q1, nP, nl, nOL, nPL, nOM, nPM, nTL, nOW, nHL, nHT, nHO⟩ := S
  obtain ⟨i, a0, a1, e0, e1, t0, t1, s0, s1, b0, b1, c0, c1, ti, pa0, pa1, la0, la1, pt0, pt1, ht0, ht1⟩ := d
  dsimp only [ledF, adrF, bnd, mir, List.cons_append, List.nil_append] at *
  cases q
  all_goals (refine wpAny_call ?_; k_enter)
  all_goals k_steps
  all_goals exact hk _ _ (by assumption) (by first | assumption | exact news_tl (by assumption) | exact news_tl (news_tl (by assumption)))
end
end
section
open PySem.Calls PySem.Spec
abbrev excObj (C t : Addr) : Obj := { cls := .ref C, data := .fields #[.ref t, .none, .none, .none, .bool false, .none] }
abbrev tupObj (vs : List Value) : Obj := { cls := .type "tuple", data := .seq vs.toArray }
section
variable {prog : Program} {w : World} {A : Around} {h : Heap} {g : Array GenState} {d : Drawn} {t : Nat} {os : OsState} {K : Frag} {R : Result → Shared → Prop}
variable {nm q : Str} {C N fI : Addr} {bs bm : List Value} {hdct : Bool} {sn : List Str} {sub : List Value} {ab : Bool} {col : Option Bool} {dd : Option Addr} {k0 k1 k2 k3 k5 : Option Value} {B newId initId : String}
set_option maxHeartbeats 4000000 in
theorem exc_make (X : K.In h) (F : ExcBaseFacts B newId initId bm) {rest : List Value}
    (hC : h.get? C = some (excClassObj nm q C N bs bm hdct sn sub ab col dd k0 k1 k2 k3 k5 newId))
    (hi : findIn K (.ref C) "__init__" = some (some (.ref fI))) (hf : typeIn K (.ref fI) = some (.type "function")) (hrest : rest.length ≤ sizeLine)
    (hq : codeAny (model prog w) (A.under (.builtin "type.__call__" ⟨.ref C :: rest, []⟩)) (.call (.ref fI) ⟨.ref (h.objs.size + 1) :: rest, []⟩) (InitBack (h.objs.size + 1) R)
      ⟨(h.push (tupObj rest)).push (excObj C h.objs.size), g, d, t, os⟩) :
    codeAny (model prog w) A (.call (.ref C) ⟨rest, []⟩) R ⟨h, g, d, t, os⟩ := by
  have f1 := tc_lookup
  have f2 := tc_bind (.ref C)
  have hT : (⟨h, g, d, t, os⟩ : Shared).TypeIs (.ref C) "type" := ⟨_, hC, rfl⟩
  refine codeAny_of_tree ?_
  show wpAny _ _ (callAny (.ref C) _) _ _ _
  repeat (any_goals (first | assumption | with_reducible refine wpAny_loadPart_at hC ?_ | wp_step))
  refine ⟨rfl, ?_⟩
  refine codeAny_call_builtin_at (Code.quiet_builtin _ (by decide +kernel)) entry_typeCall (wpAny_check_type_call_sub hC ?_)
  repeat (first | with_reducible refine wpAny_loadPart_at hC ?_ | with_reducible refine wpAny_madeBy_exc hC ?_ | wp_step)
  refine codeAny_call_builtin_code (Code.quiet_builtin _ F.quiet) (wpAny_check_new_sub F hC ?_)
  refine codeAny_exc_new_sub F hC ?_ hrest
  show wpAny _ _ _ _ _ _
  have k : ∀ b o, h.get? b = some o → ((h.push (tupObj rest)).push (excObj C h.objs.size)).get? b = some o := fun b o e => Heap.get?_push_of_some _ (Heap.get?_push_of_some _ e)
  have hC₁ := k _ _ hC
  have hget : ((h.push (tupObj rest)).push (excObj C h.objs.size)).get? (h.objs.size + 1) = some (excObj C h.objs.size) := by heap_get
  have hcC : (Value.ref C :: bm).contains (.ref C) = true := by simp
  unfold isInstance
  repeat (first | with_reducible refine wpAny_loadPart_at hget ?_ | (with_reducible refine wpAny_isSubtype_exc hC₁ ?_; rw [hcC]) | wp_step)
  show wpAny (model prog w) (A.under (Code.builtin "type.__call__" ⟨.ref C :: rest, []⟩)) (isSubtype (.ref C) (.ref C)) _ _ ⟨(h.push (tupObj rest)).push (excObj C h.objs.size), g, d, t, os⟩
  refine wpAny_isSubtype_exc hC₁ ?_
  rw [hcC]
  have t1 : Looks (model prog w) ((h.push (tupObj rest)).push (excObj C h.objs.size)) (typeOf (.ref (h.objs.size + 1))) (.ref C) := (Looks.ld hget).andThen .now
  have i1 := looks_findIn (M := model prog w) (X.keeps k) hi
  have b1 := bind_fn (M := model prog w) (X.keeps k) (.ref (h.objs.size + 1)) hf
  show wpAny _ _ (if (!true) = true then _ else (do
          let r ← holding [Value.ref (h.objs.size + 1)] (callSpecial? (Value.ref (h.objs.size + 1)) (Str.ofString "__init__") rest [])
          _ : Sem Fin)) _ _ _
  unfold callSpecial? specialOf
  repeat (first | with_reducible refine wpAny_call ?_ | lk)
  refine codeAny_mono hq fun r s' z => ?_
  rcases r with e | (v | _ | _ | _) <;> first | exact z | exact z.elim | skip
  obtain ⟨rfl, z⟩ := z
  exact wpAny_pure (wpAny_pure z)
end
theorem fillEX : (fun (_ : OpenLaw) (_ : Params → Frag) => True) PySem.Challenge.rw_pf0250_01 hd.heap_39 := by
  k_fill
  trivial
section
variable {prog : Program} {w : World} {A A₀ : Around} {base h₀ : Heap} {s : Shared} {L : Addr} {m mg mb : Str → Option Value} {news : List (Addr × Obj)} {env : Env} {outer : List Env}
    {p : Program} {loose : List Str} {mean : ExcName → Option Value} {Q : Value → Shared → Prop} {E : Value → Shared → Prop}
set_option maxRecDepth 100000 in
set_option maxHeartbeats 4000000 in
theorem call_quic {args : List Value} (F : Fr h₀ L s.heap m) (X : (hd.heap_39 w.params).In h₀) (N : News h₀ L s.heap news) (hlen : args.length ≤ sizeLine)
    (hq : ∀ x t h', Fr h₀ L h' m → News h₀ L h' ((x, excObj 38 t) :: (t, tupObj args) :: news) → (∀ p ∈ news, p.1 < t) → t < x →
      codeAny (model prog w) (A.under (.builtin "type.__call__" ⟨.ref 38 :: args, []⟩)) (.call (.ref 35) ⟨.ref x :: args, []⟩)
        (InitBack x fun r s' => match r with | .ok (.ret v) => Q v s' | .ok _ => False | .error e => E e s') { s with heap := h' }) :
    wpAny (model prog w) A (call (.ref 38) args []) Q E s := by
  obtain ⟨hh, g, d, t, os⟩ := s
  refine' wpAny_call (exc_make (X.keeps F.keep) PySem.F.excBase_Exception (X.keeps F.keep 38 _ ?l) ?i ?f hlen (hq _ hh.objs.size _ ((F.push _).push _) ?n (fun p hp => Heap.lt_size (N p hp).1) (Nat.lt_succ_self _)))
  case l => k_is
  case i => k_is
  case f => k_is
  have := (N.push F (tupObj args)).push (F.push _) (excObj 38 hh.objs.size)
  rwa [Heap.size_push] at this
end
end
section
open PySem.Calls PySem.Spec
open PySem.Builtin PySem.Builtin.ObjectAttr
set_option maxRecDepth 100000
section
variable {prog : Program} {w : World} {A : Around} {E : Value → Shared → Prop} {h : Heap} {g : Array GenState} {d : Drawn} {tk₀ : Nat} {os : OsState}
variable {nm q : Str} {C N x t : Addr} {bs bm : List Value} {sn : List Str} {sub : List Value} {ab : Bool} {col : Option Bool} {dd : Option Addr} {k0 k1 k2 k3 k5 : Option Value} {B newId sa owner : String}
  {mN : Str → Option Value} {name : Str} {v : Value}
theorem first_entry {tk : Tok} {Q : Fin → Shared → Prop} (SF : StoreFacts B bm sa owner)
    (hC : h.get? C = some (excClassObj nm q C N bs bm true sn sub ab col dd k0 k1 k2 k3 k5 newId)) (hn : h.Ns N mN) (hna : mN name = none)
    (hB : typeLookup (.type B) name = pure none) (hx : h.get? x = some (excObj C t))
    (hq : ∀ h' tk', h'.get? x = some { excObj C t with dict := some h.objs.size } → h'.Ns1 h.objs.size (fun y => if y = name then some v else none) →
      (∀ b o, b ≠ x → h.get? b = some o → h'.get? b = some o) → Q (.done (.ret .none)) ⟨h', g, d, tk', os⟩) :
    wpAny (model prog w) A (Builtin.«object.__setattr__» ⟨[.ref x, .str name tk, v], []⟩) Q E ⟨h, g, d, tk₀, os⟩ := by
  obtain ⟨o, ho⟩ : ∃ o, o = excObj C t := ⟨_, rfl⟩
  have hc : o.cls = .ref C := by rw [ho]
  have hdn : o.dict = none := by rw [ho]
  have hnc : ∀ c, o.data ≠ .cls c := fun c z => by rw [ho] at z; cases z
  have hfree : ({ cls := o.cls, dict := some h.objs.size, data := o.data, slots := o.slots } : Obj).isFreed = false := by rw [ho]; rfl
  rw [← ho] at hx
  have ho1 : ({ excObj C t with dict := some h.objs.size } : Obj) = { cls := o.cls, dict := some h.objs.size, data := o.data, slots := o.slots } := by rw [ho]
  rw [ho1] at hq
  clear ho1 ho
  have hpass := SF.passes (.ref x)
  unfold Builtin.«object.__setattr__»
  repeat (first | rw [refuse_eq] | (rw [refuseLoop_ref, hpass]) | (with_reducible refine wpAny_loadPart_at hx ?_; rw [hc]) | with_reducible refine wpAny_mroOf_exc hC ?_ | (with_reducible refine wpAny_typeLookup_exc hC hn SF.mro hB ?_; rw [hna]) | wp_step)
  rw [hdn, if_neg (by simp [typeHasDict])]
  split
  · rename_i hcd
    cases hcd
  split
  · rename_i c hcd
    exact absurd hcd (hnc c)
  have hx₁ : (h.push { cls := .type "dict", data := .dict #[] }).get? x = some o := Heap.get?_push_of_some _ hx
  have hxs : x ≠ h.objs.size := Nat.ne_of_lt (Heap.lt_size hx)
  refine wpAny_bind (wpAny_alloc' (wpAny_bind (wpAny_update' hx₁ (wpAny_pure ?_))))
  have hnd : ((h.push { cls := .type "dict", data := .dict #[] }).update x fun o => { cls := o.cls, dict := some h.objs.size, data := o.data, slots := o.slots }).Ns h.objs.size (fun _ => none) :=
    ⟨_, #[], _, (Heap.get?_update_ne _ _ _ _ hxs.symm).trans (Heap.get?_push_at rfl rfl), rfl, fun e he => absurd he (by simp), fun _ => rfl⟩
  show wpAny _ _ (storeInDict h.objs.size (.str name tk) name v) _ _ _
  unfold storeInDict newKeyGuard
  refine wpAny_bind (wpAny_pure (wpAny_bind (wpAny_nsSet1 (Heap.Ns1.of_empty hnd) fun h' hn' hs => ?_)))
  obtain ⟨oD, esD, epD, hoD, hdD, hcD⟩ := hn'.count (Within.cons name v Within.nil)
  refine wpAny_bind (wpAny_lookBehind hoD (by rw [hdD]; exact pastItsLine_dict (Nat.le_trans hcD (by rw [List.length_cons, List.length_nil, sizeLine_eq]; omega))) ?_)
  wp_walk
  refine hq h' _ ((hs.2 x hxs).trans (Heap.get?_update_self _ hx₁ hfree)) hn' fun b ob hbx hb => ?_
  exact (hs.2 b (Nat.ne_of_lt (Heap.lt_size hb))).trans ((Heap.get?_update_ne _ _ _ _ hbx).trans (Heap.get?_push_of_some _ hb))
theorem first_attr {Q : Unit → Shared → Prop} (SF : StoreFacts B bm sa owner)
    (hC : h.get? C = some (excClassObj nm q C N bs bm true sn sub ab col dd k0 k1 k2 k3 k5 newId)) (hn : h.Ns N mN) (hns : mN "__setattr__" = none) (hna : mN name = none)
    (hB : typeLookup (.type B) name = pure none) (hx : h.get? x = some (excObj C t))
    (hq : ∀ h' tk', h'.get? x = some { excObj C t with dict := some h.objs.size } → h'.Ns1 h.objs.size (fun y => if y = name then some v else none) →
      (∀ b o, b ≠ x → h.get? b = some o → h'.get? b = some o) → Q () ⟨h', g, d, tk', os⟩) :
    wpAny (model prog w) A (setAttr (.ref x) name v) Q E ⟨h, g, d, tk₀, os⟩ := by
  have hc : (excObj C t).cls = .ref C := rfl
  have f3 := SF.slot.bind (.ref x)
  unfold setAttr callSpecial? specialOf
  repeat (any_goals (first | assumption | (with_reducible refine wpAny_loadPart_at hx ?_; rw [hc]) | (with_reducible refine wpAny_typeLookup_exc hC hn SF.mro SF.slot.lookup ?_; rw [hns]) | wp_step))
  refine codeAny_call_builtin SF.slot.plain SF.entry (wpAny_check_sa SF hC hx hc (first_entry SF hC hn hna hB hx fun h' tk' e1 e2 e3 => ?_))
  repeat (any_goals (first | assumption | wp_step))
  exact hq h' tk' e1 e2 e3
end
theorem fillSE : (fun (_ : OpenLaw) (_ : Params → Frag) => True) PySem.Challenge.rw_pf0250_01 hd.heap_39 := by
  k_fill
  trivial
section
variable {prog : Program} {w : World} {A : Around} {E : Value → Shared → Prop} {s : Shared} {h₀ : Heap} {L x t D : Addr} {m mA : Str → Option Value} {rest : List (Addr × Obj)} {name : Str} {v : Value} {Q : Unit → Shared → Prop} {oD : Obj}
theorem ns37 {h : Heap} (X : (hd.heap_39 w.params).In h) : h.isNs 37 = true := by
  have hl : ∃ es n, (hd.heap_39 w.params).lookup 37 = some ⟨.type "dict", none, .dict es n, #[]⟩ ∧ (es.all fun e => match e.key with | .str _ _ => true | _ => false) = true := ⟨_, _, by k_is, by rw [← Array.all_toList]; rfl⟩
  obtain ⟨es, n, hl, ha⟩ := hl
  unfold Heap.isNs
  rw [X 37 _ hl]
  exact ha
theorem set_q1 (F : Fr h₀ L s.heap m) (X : (hd.heap_39 w.params).In h₀) (N : News h₀ L s.heap ((x, excObj 38 t) :: rest)) (hoff : ∀ p ∈ rest, p.1 ≠ x)
    (hna : nsIn (hd.heap_39 w.params) 37 name = some none) (hB : typeLookup (.type "Exception") name = pure none)
    (h : ∀ h' D oD tk', Fr h₀ L h' m → News h₀ L h' ((x, { excObj 38 t with dict := some D }) :: (D, oD) :: rest) → (∀ p ∈ rest, p.1 ≠ D) → x ≠ D →
      (∀ hh : Heap, hh.get? D = some oD → hh.Ns1 D (fun y => if y = name then some v else none)) → Q () { s with heap := h', toks := tk' }) :
    wpAny (model prog w) A (setAttr (.ref x) name v) Q E s := by
  obtain ⟨hh, g, d, tk, os⟩ := s
  have X' := X.keeps F.keep
  have G : hh.Ns 37 (hh.nsMap 37) := .of_isNs (ns37 X')
  refine' first_attr PySem.F.store_Exception (X' 38 _ ?l) G (ns_none_of X' G ?a) (ns_none_of X' G hna) hB (N _ (.head _)).1 fun h' tk' e1 e2 e3 => ?_
  case l => k_is
  case a => k_is
  have hxL := (N _ (.head _)).2
  have hxs : x ≠ hh.objs.size := Nat.ne_of_lt (Heap.lt_size (N _ (.head _)).1)
  obtain ⟨oL, a1, a2, hoL, a3⟩ := F.ns
  have F' : Fr h₀ L h' m := ⟨⟨oL, a1, a2, e3 L oL (Ne.symm hxL.1) hoL, a3⟩, fun b o e => e3 b o (fun z => by rw [z, hxL.2] at e; cases e) (F.keep b o e), F.above⟩
  have hDL : hh.objs.size ≠ L := Nat.ne_of_gt F.ns.lt
  have hD0 : h₀.get? hh.objs.size = none := none_at_size F
  obtain ⟨oD, es, ep, hoD, r⟩ := id e2
  refine h h' hh.objs.size oD tk' F' (fun p hp => ?_) (fun p hp => Nat.ne_of_lt (Heap.lt_size (N p (.tail _ hp)).1)) hxs (fun h9 e9 => ?_)
  · rcases List.mem_cons.mp hp with rfl | hp
    · exact ⟨e1, hxL⟩
    · rcases List.mem_cons.mp hp with rfl | hp
      · exact ⟨hoD, hDL, hD0⟩
      · exact ⟨e3 _ _ (hoff p hp) (N p (.tail _ hp)).1, (N p (.tail _ hp)).2⟩
  · exact ⟨oD, es, ep, e9, r⟩
theorem set_q2 {ns : List Str} (F : Fr h₀ L s.heap m) (X : (hd.heap_39 w.params).In h₀) (N : News h₀ L s.heap ((x, { excObj 38 t with dict := some D }) :: (D, oD) :: rest)) (hoff : ∀ p ∈ rest, p.1 ≠ x) (hoffD : ∀ p ∈ rest, p.1 ≠ D) (hxD : x ≠ D)
    (hD : ∀ hh : Heap, hh.get? D = some oD → hh.Ns1 D mA) (hw : Within mA ns) (hsz : ns.length ≤ 100)
    (hna : nsIn (hd.heap_39 w.params) 37 name = some none) (hB : typeLookup (.type "Exception") name = pure none)
    (h : ∀ h' oD' tk', Fr h₀ L h' m → News h₀ L h' ((x, { excObj 38 t with dict := some D }) :: (D, oD') :: rest) →
      (∀ hh : Heap, hh.get? D = some oD' → hh.Ns1 D (fun y => if y = name then some v else mA y)) → Q () { s with heap := h', toks := tk' }) :
    wpAny (model prog w) A (setAttr (.ref x) name v) Q E s := by
  obtain ⟨hh, g, d, tk, os⟩ := s
  have X' := X.keeps F.keep
  have G : hh.Ns 37 (hh.nsMap 37) := .of_isNs (ns37 X')
  have hx := N _ (.head _)
  have hDn := N _ (.tail _ (.head _))
  have hl : ∃ o, (hd.heap_39 w.params).lookup 38 = some o := ⟨_, by k_is⟩
  have hxC : x ≠ 38 := fun z => by
    obtain ⟨o, ho⟩ := hl
    have := X _ _ ho
    rw [← z, hx.2.2] at this
    cases this
  have I : hh.Inst x 38 mA := ⟨_, hx.1, rfl, (fun c z => nomatch z), .inr ⟨D, rfl, Ne.symm hxD, hD _ hDn.1⟩⟩
  refine' store_attr PySem.F.store_Exception (X' 38 _ ?l) G (ns_none_of X' G ?a) (ns_none_of X' G hna) hB hxC I (fun h' tk' I' keep same => ?_) hw (by rw [sizeLine_eq]; omega)
  case l => k_is
  case a => k_is
  obtain ⟨o1, e1, c1, c2, c3, c4⟩ := same _ hx.1
  have e2 : h'.get? x = some ({ excObj 38 t with dict := some D } : Obj) := by
    rw [e1]
    obtain ⟨oc, od, odt, osl⟩ := o1
    have c5 := c4 D rfl
    dsimp only at c1 c2 c3 c5
    rw [c1, c2, c3, c5]
  have kp : ∀ b o, b ≠ x → b ≠ D → hh.get? b = some o → h'.get? b = some o := fun b o n1 n2 e => keep b o n1 (fun o0 dx z1 z2 => by
    have z1' : hh.get? x = some o0 := z1
    rw [hx.1] at z1'
    cases z1'
    cases z2
    exact n2) e
  obtain ⟨o, f1, f2, f3, f4⟩ := I'
  rw [e2] at f1
  cases f1
  rcases f4 with ⟨z, _⟩ | ⟨dx, z, f5, f6⟩
  · cases z
  cases z
  obtain ⟨oD', es, ep, hoD, r⟩ := id f6
  obtain ⟨oL, a1, a2, hoL, a3⟩ := F.ns
  have F' : Fr h₀ L h' m := ⟨⟨oL, a1, a2, kp L oL (Ne.symm hx.2.1) (Ne.symm hDn.2.1) hoL, a3⟩, fun b o e => kp b o (fun z => by rw [z, hx.2.2] at e; cases e) (fun z => by rw [z, hDn.2.2] at e; cases e) (F.keep b o e), F.above⟩
  refine h h' oD' tk' F' (fun p hp => ?_) (fun h9 e9 => ⟨oD', es, ep, e9, r⟩)
  rcases List.mem_cons.mp hp with rfl | hp
  · exact ⟨e2, hx.2⟩
  · rcases List.mem_cons.mp hp with rfl | hp
    · exact ⟨hoD, hDn.2⟩
    · exact ⟨kp _ _ (hoff p hp) (hoffD p hp) (N p (.tail _ (.tail _ hp))).1, (N p (.tail _ (.tail _ hp))).2⟩
theorem init_call {v : Value} {Q : Value → Shared → Prop} (F : Fr h₀ L s.heap m) (X : (hd.heap_39 w.params).In h₀) (N : News h₀ L s.heap ((x, excObj 38 t) :: rest)) (hoff : ∀ p ∈ rest, p.1 ≠ x)
    (h : ∀ h' t', Fr h₀ L h' m → News h₀ L h' ((x, excObj 38 t') :: rest) → Q .none { s with heap := h' }) :
    wpAny (model prog w) A (call (.builtin "Exception.__init__") [.ref x, v]) Q E s := by
  obtain ⟨hh, g, d, tk, os⟩ := s
  have X' := X.keeps F.keep
  have hx := N _ (.head _)
  have hget := hx.1
  have FB := PySem.F.excBase_Exception
  refine' wpAny_call (codeAny_call_builtin FB.init.plain FB.initEntry (wpAny_check_init_sub FB (X' 38 _ ?l) hget rfl ?_))
  case l => k_is
  wp_walk
  have N1 := N.push F (tupObj [v])
  have F1 := F.push (tupObj [v])
  have e1 : ((hh.push (tupObj [v])).update x (Obj.mapFields (·.setIfInBounds 0 (.ref hh.objs.size)))).get? x = some (excObj 38 hh.objs.size) := by
    rw [Heap.get?_update_self _ (Heap.get?_push_of_some _ hget) rfl]
    rfl
  have sb := Heap.SameBut.update (hh.push (tupObj [v])) x (Obj.mapFields (·.setIfInBounds 0 (.ref hh.objs.size)))
  refine h _ hh.objs.size (F1.change sb hx.2.1 hx.2.2) (fun p hp => ?_)
  rcases List.mem_cons.mp hp with rfl | hp
  · exact ⟨e1, hx.2⟩
  · exact ⟨(sb.2 _ (hoff p hp)).trans (N1 p (.tail _ (.tail _ hp))).1, (N p (.tail _ hp)).2⟩
end
end
section
open PySem.Calls PySem.Spec
theorem fillIQ : (fun (_ : OpenLaw) (_ : Params → Frag) => True) PySem.Challenge.rw_pf0250_01 hd.heap_39 := by
  k_fill
  trivial
theorem news_mid {h₀ h : Heap} {L : Addr} {a b c : Addr × Obj} {news : List (Addr × Obj)} (N : News h₀ L h (a :: b :: c :: news)) : News h₀ L h (a :: b :: news) := fun r hr => N r (by
  rcases List.mem_cons.mp hr with rfl | hr
  · exact .head _
  · rcases List.mem_cons.mp hr with rfl | hr
    · exact .tail _ (.head _)
    · exact .tail _ (.tail _ (.tail _ hr)))
section
variable {prog : Program} {w : World} {A A₀ : Around} {base h₀ : Heap} {s : Shared} {L : Addr} {m mg mb : Str → Option Value} {news : List (Addr × Obj)} {env : Env} {outer : List Env}
    {p : Program} {loose : List Str} {mean : ExcName → Option Value} {R : Result → Shared → Prop} {x t : Addr} {t1 t2 t3 : Tok}
set_option maxRecDepth 100000 in
theorem meth_exc {E : Value → Shared → Prop} {pl : Sem Bool} {Q : Value × List Value → Shared → Prop} (F : Fr h₀ L s.heap m) (X : (hd.heap_39 w.params).In h₀) (h : Q (.builtin "Exception.__init__", []) { s with toks := s.toks + 1 }) :
    wpAny (model prog w) A (getMethod (.type "Exception") (Str.ofString "__init__") pl) Q E s := by
  refine method_type (K := hd.heap_39 w.params) (v := .builtin "Exception.__init__") F X ?a ?b ?c ?d h
  case a => kernel_rfl
  case b => decide +kernel
  case c => k_is
  case d => rfl
set_option maxRecDepth 100000 in
set_option maxHeartbeats 4000000 in
theorem init_quic (B : Below A₀ base outer h₀) (F : Fr h₀ L s.heap m) (X : (hd.heap_39 w.params).In h₀) (T : Top p loose mean mg mb h₀)
    (N : News h₀ L s.heap ((x, excObj 38 t) :: (t, tupObj [.int 4 t1, .int 8 t2, .str (Str.ofString "too many streams") t3]) :: news)) (hlt : @LT.lt Nat _ t x) (hlow : ∀ q ∈ news, q.1 < t)
    (hA : A.frames = some (env :: outer)) (hf : env.frame = some L) (hke : env.scope.kind = .function) (hroom : A.depth < recursionLimit)
    (hk : ∀ h' tk D t' oD mA, Fr h₀ L h' m → News h₀ L h' ((x, { excObj 38 t' with dict := some D }) :: (D, oD) :: news) → (∀ hh : Heap, hh.get? D = some oD → hh.Ns1 D mA) → mA (Str.ofString "code") = some (.int 4 t1) → x ≠ D → R (.ok (.ret .none)) { s with heap := h', toks := tk }) :
    codeAny (model prog w) A (.call (.ref 35) ⟨[.ref x, .int 4 t1, .int 8 t2, .str (Str.ofString "too many streams") t3], []⟩) R s := by
  have hMk := kstMark
  have hlow' := allLt_of hlow
  have hoffx : OwnOff news [x] := fun q hq b hb => by rw [List.mem_singleton.mp hb]; exact Nat.ne_of_lt (Nat.lt_trans (hlow q hq) hlt)
  (refine' code_def B F X N T hA hf hke ?k6 ?k7 hroom ?k9 ?kB ?_ ?c2 ?c3 ?c4 ?c5; (case k6 => k_is); (case k7 => k_is); (case k9 => exact BindsTo.of_eq rfl); (case c5 => decide); (case kB => exact locs rfl); (case c2 => exact rfl); (case c3 => exact rfl); (case c4 => exact rfl); k_whole; intro g' L' h' FG' F' N' B' X' T'; (try dsimp only); (try k_lift B'); (try k_fold))
  k_with_none
  k_with "getMethod" => (k_here; (with_reducible refine atMe ?_); k_dflt (refine meth_exc (by k_asm) (by k_asm) ?_; k_whole))
  k_with "call builtin:Exception.__init__" => (k_here; k_dflt (refine init_call (by k_asm) (by k_asm) (by k_asm) (by k_all) ?_; k_whole); intros; (try k_sweep))
  k_with "setAttr ref" => (k_here; first | (k_dflt (refine set_q1 (by k_asm) (by k_asm) (by k_asm) (by k_all) (by k_is) (by (rw [typeLookup_type, builtinLookup_eq_fast]; kernel_rfl)) ?_; k_whole); intros; (try k_sweep)) | (k_dflt (refine set_q2 (by k_asm) (by k_asm) (by k_asm) (by k_all) (by assumption) (by assumption) (by assumption) (by first | exact .cons _ _ .nil | exact .cons _ _ (.cons _ _ .nil)) (by decide) (by k_is) (by (rw [typeLookup_type, builtinLookup_eq_fast]; kernel_rfl)) ?_; k_whole); intros; (try k_sweep)))
  repeat' (first | (k_unfold; (try dsimp only)) | (k_end; wrow_close) | walk1 | (dsimp only; walk1) | (leave1; walk_say "STEP leave1"; try dsimp only) | fail "no step")
  exact hk _ _ _ _ _ _ (by assumption) (news_mid (by assumption)) (by assumption) (by rfl) (by assumption)
end
end
section
open PySem.Calls PySem.Spec
theorem fillRS : (fun (_ : OpenLaw) (_ : Params → Frag) => True) PySem.Challenge.rw_pf0250_01 hd.heap_39 := by
  k_fill
  trivial
section
variable {prog : Program} {w : World} {A A₀ : Around} {base h₀ : Heap} {s : Shared} {L : Addr} {m mg mb : Str → Option Value} {news : List (Addr × Obj)} {env : Env} {outer : List Env}
    {p : Program} {loose : List Str} {mean : ExcName → Option Value} {E : Value → Shared → Prop} {t1 t2 t3 : Tok}
theorem quic_call {Q : Value → Shared → Prop} (B : Below A₀ base outer h₀) (F : Fr h₀ L s.heap m) (X : (hd.heap_39 w.params).In h₀) (T : Top p loose mean mg mb h₀) (N : News h₀ L s.heap news)
    (hA : A.frames = some (env :: outer)) (hf : env.frame = some L) (hke : env.scope.kind = .function)
    (hroom : (A.under (.builtin "type.__call__" ⟨[.ref 38, .int 4 t1, .int 8 t2, .str (Str.ofString "too many streams") t3], []⟩)).depth < recursionLimit)
    (hk : ∀ h' tk x D t' oD mA, Fr h₀ L h' m → News h₀ L h' ((x, { excObj 38 t' with dict := some D }) :: (D, oD) :: news) → (∀ hh : Heap, hh.get? D = some oD → hh.Ns1 D mA) → mA (Str.ofString "code") = some (.int 4 t1) → (∀ q ∈ ((D, oD) :: news), q.1 ≠ x) →
      Q (.ref x) { s with heap := h', toks := tk }) :
    wpAny (model prog w) A (call (.ref 38) [.int 4 t1, .int 8 t2, .str (Str.ofString "too many streams") t3] []) Q E s := by
  refine call_quic F X N (by rw [sizeLine_eq]; exact Nat.le_of_ble_eq_true rfl) fun x t h' F' N' l1 l2 => ?_
  refine init_quic (s := { s with heap := h' }) B F' X T N' l2 l1 hA hf hke hroom fun h'' tk D t' oD mA F'' N'' a b c => ?_
  exact ⟨rfl, hk h'' tk x D t' oD mA F'' N'' a b fun q hq => by
    rcases List.mem_cons.mp hq with rfl | hq
    · exact Ne.symm c
    · exact Nat.ne_of_lt (Nat.lt_trans (l1 q hq) l2)⟩
theorem raise_open {Q : Flow → Shared → Prop} {e : PySem.Expr} {pos : Pos} (hh : A.handled = none)
    (h : wpAny (model prog w) A (eval e env) (fun v s₁ => ∃ x D t', v = .ref x ∧ s₁.heap.get? x = some ({ excObj 38 t' with dict := some D } : Obj) ∧ (hd.heap_39 w.params).In s₁.heap ∧ E (.ref x) s₁) E s) :
    wpAny (model prog w) A (exec (.Raise (some e) none pos) env) Q E s := by
  rw [arm_exec_Raise]
  simp only [evalOpt, Option.map]
  refine wpAny_bind (wpAny_standAt ?_)
  unfold raiseStmt
  refine wpAny_bind (wpAny_bind (wpAny_mono h (fun v s₁ h₁ => ?_) fun _ _ x => x))
  obtain ⟨x, D, t', rfl, hx, X', hE⟩ := h₁
  refine wpAny_bind (wpAny_standAt (wpAny_pure ?_))
  have hcls : ∃ nm q N bs hdct sn sub ab col dd k0 k1 k2 k3 k5, s₁.heap.get? 38 = some (excClassObj nm q 38 N bs [.type "Exception", .type "BaseException", .type "object"] hdct sn sub ab col dd k0 k1 k2 k3 k5 "Exception.__new__") :=
    ⟨_, _, _, _, _, _, _, _, _, _, _, _, _, _, _, X' 38 _ (by k_is)⟩
  obtain ⟨nm, q, N, bs, hdct, sn, sub, ab, col, dd, k0, k1, k2, k3, k5, hC⟩ := hcls
  have hcB : (Value.ref 38 :: [Value.type "Exception", .type "BaseException", .type "object"]).contains (.type "BaseException") = true := by decide
  obtain ⟨hp, g, d, tk, os⟩ := s₁
  repeat (first | with_reducible refine wpAny_loadPart_at hx ?_ | with_reducible refine wpAny_loadPart_at hC ?_ | (with_reducible refine wpAny_isSubtype_exc hC ?_; rw [hcB]) | wp_step)
  exact wpAny_raiseNew_none hh hE
end
end
section
open PySem.Calls PySem.Spec
/-- the exception in flight, its own dict told too -/
def TracedD (h base : Heap) (e : Addr) (cls : Value) (dd : Option Addr) (a0 fl : Value) : Prop :=
  ∃ oe vs T oT ts, h.get? e = some oe ∧ (oe.cls = cls ∧ oe.dict = dd ∧ vs[0]? = some a0) ∧ oe.data = .fields vs ∧ vs[1]? = some (.ref T) ∧ base.get? T = none ∧ T ≠ e ∧ h.get? T = some oT ∧ oT.data = .fields ts ∧ ts[3]? = some fl
def HoldD (base : Heap) (l : List Env) (e : Addr) (cls : Value) (dd : Option Addr) (a0 fl : Value) (h : Heap) : Prop :=
  base.StaysIn h ∧ base.get? e = none ∧ h.FunFrames base l ∧ TracedD h base e cls dd a0 fl
theorem mapF_dict (o : Obj) (f : Array Value → Array Value) : (Obj.mapFields f o).dict = o.dict := by
  unfold Obj.mapFields
  split <;> rfl
section
variable {M : Model} {A : Around} {E : Value → Shared → Prop} {s : Shared} {base : Heap} {env : Env} {outer : List Env} {L e : Addr} {a0 : Value} {Q : Unit → Shared → Prop}
theorem entryD {oe : Obj} {vs : Array Value} {head : Value} {hadNext : Bool}
    (hfr : A.frames = some (env :: outer)) (hl : s.heap.FunFrames base (env :: outer)) (hf : env.frame = some L)
    (he : s.heap.get? e = some oe) (hkb : base.StaysIn s.heap) (hen : base.get? e = none) (hd : oe.data = .fields vs) (hsz : 1 < vs.size) (h0 : vs[0]? = some a0)
    (h : ∀ h', HoldD base (env :: outer) e oe.cls oe.dict a0 (rawInt L) h' → s.heap.UpToSlots h' → Q () { s with heap := h' }) :
    wpAny M A (do let a ← frameOf env; let pl ← entryPlaceOf L hadNext; let b ← EntryCells.newEntry head a .none (rawInt L) .none pl; setField (.ref e) 1 b) Q E s := by
  have hout : e ∉ (env :: outer).filterMap (·.frame) := fun hm => by
    obtain ⟨_, o, ho, hnf⟩ := hl.mem hm
    rw [he] at ho
    cases ho
    exact hnf vs hd
  refine wpAny_bind (wpAny_frameOf_fun hfr hl hf fun g hg => ?_)
  refine wpAny_bind (wpAny_entryPlaceOf fun pl hpl => ?_)
  unfold EntryCells.newEntry newFields
  refine wpAny_bind (wpAny_newObj_type ?_ (hpl.sizeOk5 _ _ _ _ _))
  have e1 : g.get? e = some oe := (hg.2.1 e hout).trans he
  have kb : base.StaysIn g := fun b o q => (hg.2.1 b fun hm => by rw [(hl.mem hm).1] at q; cases q).trans (hkb b o q)
  generalize hoT : ({ cls := .type "traceback", dict := none, data := .fields ([head, .ref L, .none, rawInt L, .none] ++ (if pl.isEmpty then List.replicate 6 Value.none else pl)).toArray } : Obj) = oT
  have dT : oT.data = .fields ([head, .ref L, .none, rawInt L, .none] ++ (if pl.isEmpty then List.replicate 6 Value.none else pl)).toArray := by rw [← hoT]
  have fT : oT.isFreed = false := Obj.isFreed_of_fields dT
  have e2 := Heap.get?_push_of_some (h := g) oT e1
  refine wpAny_setField e2 hd hsz (h _ ?_ ?_)
  · have hTe : g.objs.size ≠ e := Nat.ne_of_gt (Heap.lt_size e1)
    have d3 := Obj.data_mapFields hd (·.setIfInBounds 1 (Value.ref g.objs.size))
    have e3 := Heap.get?_update_self (Obj.mapFields (·.setIfInBounds 1 (Value.ref g.objs.size))) e2 (Obj.isFreed_of_fields d3)
    have off : ∀ b o, b ≠ e → g.get? b = some o → ((g.push oT).update e (Obj.mapFields (·.setIfInBounds 1 (Value.ref g.objs.size)))).get? b = some o := fun b o hb q => by
      rw [Heap.get?_update_other _ _ (Ne.symm hb)]
      exact Heap.get?_push_of_some _ q
    have T3 := (Heap.get?_update_other (g.push oT) (Obj.mapFields (·.setIfInBounds 1 (Value.ref g.objs.size))) (Ne.symm hTe)).trans (Heap.get?_push_size g fT)
    refine ⟨fun b o q => off b o (fun z => by rw [z, hen] at q; cases q) (kb b o q), hen, hl.of_keeps fun b o q hnf => ?_, ?_⟩
    · obtain ⟨sl, hs⟩ := hg.2.2 b o q
      exact ⟨_, off b _ (fun z => by rw [z, he] at q; cases q; exact hnf vs hd) hs, rfl⟩
    · exact ⟨_, _, g.objs.size, _, _, e3, ⟨Obj.cls_mapFields _ _, mapF_dict _ _, by rw [Array.getElem?_setIfInBounds_ne (by decide)]; exact h0⟩, d3, by simp [hsz], kb.fresh, hTe, T3, dT, by simp⟩
  · intro b o q hnf
    obtain ⟨sl, hs⟩ := hg.2.2 b o q
    refine ⟨sl, ?_⟩
    rw [Heap.get?_update_other _ _ (fun z => by rw [← z, he] at q; cases q; exact hnf vs hd)]
    exact Heap.get?_push_of_some _ hs
theorem noteD1 {oe : Obj} {vs : Array Value} (hfr : A.frames = some (env :: outer)) (hl : s.heap.FunFrames base (env :: outer)) (hf : env.frame = some L)
    (he : s.heap.get? e = some oe) (hkb : base.StaysIn s.heap) (hen : base.get? e = none) (hd : oe.data = .fields vs) (h1 : vs[1]? = some .none) (h0 : vs[0]? = some a0)
    (h : ∀ h', HoldD base (env :: outer) e oe.cls oe.dict a0 (rawInt L) h' → s.heap.UpToSlots h' → Q () { s with heap := h' }) : wpAny M A (noteFrame (.ref e) env) Q E s := by
  unfold noteFrame
  simp only [hf]
  refine wpAny_bind (wpAny_field he hd h1 ?_)
  rw [if_neg (by decide)]
  exact entryD hfr hl hf he hkb hen hd (Array.getElem?_eq_some_iff.mp h1).1 h0 h
theorem noteD2 {cls : Value} {dd : Option Addr} (hfr : A.frames = some (env :: outer)) (hf : env.frame = some L) (hh : HoldD base (env :: outer) e cls dd a0 .none s.heap)
    (h : ∀ h', HoldD base (env :: outer) e cls dd a0 (rawInt L) h' → s.heap.UpToSlots h' → Q () { s with heap := h' }) : wpAny M A (noteFrame (.ref e) env) Q E s := by
  obtain ⟨hkb, hen, hl, oe, vs, T, oT, ts, he, ⟨rfl, rfl, h0⟩, hd, h1, hnT, hTe, hT, hdT, h3⟩ := hh
  unfold noteFrame
  simp only [hf]
  refine wpAny_bind (wpAny_field he hd h1 ?_)
  rw [if_pos (show (Value.ref T != Value.none) = true from by simp)]
  refine wpAny_bind (wpAny_field hT hdT h3 ?_)
  rw [if_neg (show ¬ ((Value.none == rawInt L) = true) from by simp [rawInt])]
  refine wpAny_bind (wpAny_setField hT hdT (Array.getElem?_eq_some_iff.mp h3).1 ?_)
  have off : ∀ b, b ≠ T → (s.heap.update T (Obj.mapFields (·.setIfInBounds 3 Value.none))).get? b = s.heap.get? b := fun b hb => Heap.get?_update_other _ _ (Ne.symm hb)
  have rec_ : ∀ b o, s.heap.get? b = some o → (∀ vs, o.data ≠ .fields vs) → b ≠ T := fun b o q hnf z => by rw [z, hT] at q; cases q; exact hnf ts hdT
  refine entryD hfr (hl.of_keeps fun b o q hnf => ⟨o, (off b (rec_ b o q hnf)).trans q, rfl⟩) hf ((off e (Ne.symm hTe)).trans he) (fun b o q => (off b fun z => by rw [z, hnT] at q; cases q).trans (hkb b o q)) hen hd (Array.getElem?_eq_some_iff.mp h1).1 h0
    fun h' H U => h h' H fun b o q hnf => U b o ((off b (rec_ b o q hnf)).trans q) hnf
theorem flightD {l : List Env} {cls fl : Value} {dd : Option Addr} (hh : HoldD base l e cls dd a0 fl s.heap)
    (h : ∀ h', HoldD base l e cls dd a0 .none h' → s.heap.UpToSlots h' → Q () { s with heap := h' }) : wpAny M A (setFlight (.ref e) none) Q E s := by
  obtain ⟨hkb, hen, hl, oe, vs, T, oT, ts, he, hc, hd, h1, hnT, hTe, hT, hdT, h3⟩ := hh
  have hz : 3 < ts.size := (Array.getElem?_eq_some_iff.mp h3).1
  have off : ∀ b, b ≠ T → (s.heap.update T (Obj.mapFields (·.setIfInBounds 3 ((none : Option Addr).elim Value.none fun f => rawInt f)))).get? b = s.heap.get? b := fun b hb => Heap.get?_update_other _ _ (Ne.symm hb)
  have rec_ : ∀ b o, s.heap.get? b = some o → (∀ vs, o.data ≠ .fields vs) → b ≠ T := fun b o q hnf z => by rw [z, hT] at q; cases q; exact hnf ts hdT
  unfold setFlight
  refine wpAny_bind (wpAny_field he hd h1 ?_)
  rw [if_pos (show (Value.ref T != Value.none) = true from by simp)]
  refine wpAny_setField hT hdT hz (h _ ⟨fun b o q => (off b fun z => by rw [z, hnT] at q; cases q).trans (hkb b o q), hen, hl.of_keeps fun b o q hnf => ⟨o, (off b (rec_ b o q hnf)).trans q, rfl⟩, ?_⟩ fun b o q hnf => ⟨o.slots, (off b (rec_ b o q hnf)).trans q⟩)
  exact ⟨oe, vs, T, _, _, (off e (Ne.symm hTe)).trans he, hc, hd, h1, hnT, hTe, Heap.get?_update_self _ hT (Obj.isFreed_of_fields (Obj.data_mapFields hdT _)), Obj.data_mapFields hdT _, by simp [hz]⟩
end
/-- raised, on its way up -/
def RaisedD (base G : Heap) (l : List Env) (e : Addr) (cls : Value) (dd : Option Addr) (news : List (Addr × Obj)) (h : Heap) : Prop :=
  ∃ B a0, base.StaysIn B ∧ (∀ b o, G.get? b = some o → b ∉ l.filterMap (·.frame) → B.get? b = some o) ∧ (∀ q ∈ news, B.get? q.1 = some q.2 ∧ G.get? q.1 = none ∧ base.get? q.1 = none) ∧ HoldD B l e cls dd a0 .none h
section
variable {M : Model} {A : Around} {E : Value → Shared → Prop} {s : Shared} {base g : Heap} {env : Env} {outer : List Env} {L e t : Addr} {m : Str → Option Value} {dd : Option Addr} {C : Addr} {news : List (Addr × Obj)} {Q : Unit → Shared → Prop}
theorem leave_D (K : Below A base outer g) (hf : env.frame = some L) (hkd : env.scope.kind = .function) (F : Fr g L s.heap m) (N : News g L s.heap ((e, { excObj C t with dict := dd }) :: news)) (hoff : ∀ q ∈ news, q.1 ≠ e)
    (hQ : ∀ h', RaisedD base g outer e (.ref C) dd news h' → g.UpToSlots h' → Q () { s with heap := h' }) :
    wpAny M (A.deeper env) (leaving env (.ref e)) Q E s := by
  have he := N _ (.head _)
  have hL : g.get? L = none := kts_self F
  have hbL : base.get? L = none := fresh_of_stays K.stays hL
  have hbe : base.get? e = none := fresh_of_stays K.stays he.2.2
  obtain ⟨oL, es, ep, hoL, hdL, _⟩ := id F.ns
  have FF : s.heap.FunFrames base (env :: outer) := ⟨by rw [hkd]; decide, ⟨L, oL, hf, hbL, hoL, fun vs q => by rw [hdL] at q; cases q⟩, K.frames.of_keeps fun b o q _ => ⟨o, F.keep b o q, rfl⟩⟩
  have hin : ∀ ev ∈ (env :: outer), ∀ b, ev.frame = some b → b ∈ e :: (env :: outer).filterMap (·.frame) := fun ev hv b hb => .tail _ (List.mem_filterMap.mpr ⟨ev, hv, hb⟩)
  have nb : ∀ b o, base.get? b = some o → b ∉ e :: (env :: outer).filterMap (·.frame) := fun b o q hm => by
    rcases List.mem_cons.mp hm with z | z
    · rw [z, hbe] at q; cases q
    · rw [(FF.mem z).1] at q; cases q
  have st : base.StaysIn (hideAll s.heap (e :: (env :: outer).filterMap (·.frame))) := fun b o q => hideAll_get _ (F.keep b o (K.stays b o q)) (nb b o q)
  have fr : ∀ b, b ∈ (env :: outer).filterMap (·.frame) → b = L ∨ b ∈ outer.filterMap (·.frame) := fun b hm => by
    obtain ⟨ev, hv, hb⟩ := List.mem_filterMap.mp hm
    rcases List.mem_cons.mp hv with rfl | hv
    · rw [hf] at hb; exact .inl (Option.some.inj hb).symm
    · exact .inr (List.mem_filterMap.mpr ⟨ev, hv, hb⟩)
  have sg : ∀ b o, g.get? b = some o → b ∉ outer.filterMap (·.frame) → (hideAll s.heap (e :: (env :: outer).filterMap (·.frame))).get? b = some o := fun b o q nm => hideAll_get _ (F.keep b o q) fun hm => by
    rcases List.mem_cons.mp hm with z | z
    · rw [z, he.2.2] at q; cases q
    · rcases fr b z with z | z
      · rw [z, hL] at q; cases q
      · exact nm z
  have hl : ∀ q ∈ news, (hideAll s.heap (e :: (env :: outer).filterMap (·.frame))).get? q.1 = some q.2 ∧ g.get? q.1 = none ∧ base.get? q.1 = none := fun q hq => by
    have hn := N q (.tail _ hq)
    refine ⟨hideAll_get _ hn.1 fun hm => ?_, hn.2.2, fresh_of_stays K.stays hn.2.2⟩
    rcases List.mem_cons.mp hm with z | z
    · exact hoff q hq z
    · rcases fr _ z with z | z
      · exact hn.2.1 z
      · obtain ⟨o, ho, _⟩ := (K.frames.mem z).2
        rw [hn.2.2] at ho; cases ho
  unfold leaving
  refine wpAny_bind (noteD1 (a0 := .ref t) (Around.frames_deeper K.stack) (funFrames_hide FF hin) hf he.1 (fun b o q => of_hideAll _ q) (hideAll_none _ (.head _)) rfl rfl rfl fun h1 H1 U1 => ?_)
  refine flightD H1 fun h2 H2 U2 => ?_
  obtain ⟨k1, k2, ⟨_, _, k3⟩, k4⟩ := H2
  exact hQ h2 ⟨_, .ref t, st, sg, hl, k1, k2, k3, k4⟩ (((Heap.UpToSlots.of_keeps F.keep).trans U1).trans U2)
end
section
variable {prog : Program} {w : World} {A₀ : Around} {E : Value → Shared → Prop} {s' : Shared} {base g g₀ G : Heap} {outer : List Env} {L a e C D : Addr} {m : Str → Option Value} {name : Str} {scope : Scope} {cd : Value}
  {n : Str} {b₀ : Stmt} {suite : List Stmt} {pos np : Pos} {rest : List ExceptHandler} {Q : Flow → Shared → Prop} {news : List (Addr × Obj)} {KF : Frag}
  {p : Program} {loose : List Str} {mean : ExcName → Option Value} {mg mb : Str → Option Value} {x : Str}
theorem caught_D (R : RaisedD base G (envOf name scope L a cd :: outer) e (.ref C) (some D) news s'.heap) (F : Fr g L G m) (K : Below A₀ base outer g) (hsm : G.UpToSlots s'.heap) (XB : KF.In base) (TB : Top p loose mean mg mb base)
    (DD : KtsDicts (outer.filterMap (·.frame)) g) (T0 : KtsTurn (outer.filterMap (·.frame)) g₀ g)
    (ex : nsIn KF mainGlobals x = some (some (.ref C))) (q : ktsIn KF C "BaseException" = true)
    (k : ∀ h' g' tk oe vs, KtsTurn (outer.filterMap (·.frame)) g₀ g' → Fr g' L h' (fun y => if y = n then some (.ref e) else m y) → oe.cls = .ref C → oe.dict = some D → oe.data = .fields vs → News g' L h' ((e, oe) :: news) → Below A₀ base outer g' → KF.In g' → Top p loose mean mg mb g' → KtsDicts (outer.filterMap (·.frame)) g' →
      wpAny (model prog w) ((A₀.deeper (envOf name scope L a cd)).mark (some (.ref e))) (execs (b₀ :: suite) (envOf name scope L a cd))
        (fun f s₄ => wpAny (model prog w) (A₀.deeper (envOf name scope L a cd)) (do bindName (envOf name scope L a cd) n .none; unbindBehindTheSuite (envOf name scope L a cd) n pos) (fun _ s₅ => Q f s₅) E s₄)
        (AsSuiteRaised (model prog w) ((A₀.deeper (envOf name scope L a cd)).mark (some (.ref e))) (envOf name scope L a cd) n pos (notedBy (model prog w) ((A₀.deeper (envOf name scope L a cd)).mark (some (.ref e))) (envOf name scope L a cd) (cameBackBy (model prog w) (A₀.deeper (envOf name scope L a cd)) (envOf name scope L a cd) E)))
        { s' with heap := h', toks := tk })
    (hk : scope.kind = .function := by rfl) (hlo : (envOf name scope L a cd).kindOf n = some .local := by rfl) (hx : (envOf name scope L a cd).kindOf x = some .globalImplicit := by rfl) (hd : (x == ("__debug__" : Str)) = false := by decide) :
    wpAny (model prog w) (A₀.deeper (envOf name scope L a cd)) (noteFrame (.ref e) (envOf name scope L a cd))
      (fun _ s₂ => wpAny (model prog w) (A₀.deeper (envOf name scope L a cd)) (setFlight (.ref e) none) (fun _ s₃ =>
        wpAny (model prog w) (A₀.deeper (envOf name scope L a cd)) (handleBy (.ref e) (envOf name scope L a cd) (.ExceptHandler (some (.Name x np)) (some n) (b₀ :: suite) pos :: rest)) Q E s₃) E s₂) E s' := by
  obtain ⟨B, a0, hB, hBG, hl, H⟩ := R
  have hL : B.get? L = none := by
    obtain ⟨_, ⟨L', _, hf, hn', _⟩, _⟩ := H.2.2.1
    obtain rfl : L = L' := Option.some.inj hf
    exact hn'
  refine noteD2 (Around.frames_deeper K.stack) rfl H fun h4 H4 U4 => ?_
  refine flightD H4 fun h5 H5 U5 => ?_
  obtain ⟨g5, T5, F5, K5⟩ := kts_ground K F hBG H5.1 (hsm.trans (U4.trans U5))
  have X5 : KF.In g5 := XB.keeps K5.stays
  have P5 : TopRead p loose mg mb g5 := topRead_of (TB.keeps K5.stays)
  obtain ⟨ob, _, _, _, _, hob, ⟨hobc, _⟩, _⟩ := id H5.2.2.2
  obtain ⟨nm, q', N, bs, bm, hdct, sn, sub, ab, col, dd, k0, k1, k2, k3, k5, newId, hC, hbase, hbT⟩ := kts_cls X5 q
  have hC5 := F5.keep _ _ hC
  refine wpAny_handleBy_cons (codeAny_handlers_test (name_K F5 X5 P5 ex ?_ hk hx hd)) (by intro q; cases q)
  refine wpAny_excMatches_sub_self hC5 hob hobc hbase (codeAny_handlers_suite_as ?_)
  refine flightD H5 fun h6 H6 U6 => ?_
  obtain ⟨g6, T6, F6, K6⟩ := kts_ground K F hBG H6.1 ((hsm.trans (U4.trans U5)).trans U6)
  obtain ⟨oe, vs, _, _, _, hoe, ⟨hoc, hod, _⟩, hdat, _⟩ := id H6.2.2.2
  have ne6 : g6.get? e = none := T6.none_ _ (kts_fresh F hBG H6.2.1 fun o ho hm => by
    obtain ⟨_, o', ho', hdd⟩ := K.frames.mem hm
    rw [ho] at ho'
    cases ho'
    obtain ⟨sl, hs⟩ := ((hsm.trans (U4.trans U5)).trans U6) _ _ (F.keep _ _ ho) hdd
    rw [hoe] at hs
    cases hs
    exact hdd _ hdat)
  have hes : ∀ es ep, oe.data ≠ .dict es ep := fun es ep z => by rw [hdat] at z; cases z
  have N6 : News g6 L h6 ((e, oe) :: news) := fun r hr => by
    rcases List.mem_cons.mp hr with rfl | hr
    · exact ⟨hoe, (fun z => by
        obtain ⟨oL, es, ep, hoL, hdL, _⟩ := F6.ns
        have z' : e = L := z
        rw [← z', hoe] at hoL
        cases hoL
        exact hes _ _ hdL), ne6⟩
    · exact ⟨H6.1 _ _ (hl r hr).1, (fun z => by have := (hl r hr).1; rw [z, hL] at this; cases this), T6.none_ _ (kts_none F.keep (hl r hr).2.1)⟩
  refine stN F6 N6 (fun h7 F7 N7 => ?_) hk hlo
  exact k h7 g6 _ oe vs (T0.trans T6) F7 hoc hod hdat N7 K6 (XB.keeps K6.stays) (TB.keeps K6.stays) (DD.turn T6)
end
end
section
open PySem.Calls PySem.Spec
theorem fillGA : (fun (_ : OpenLaw) (_ : Params → Frag) => True) PySem.Challenge.rw_pf0250_01 hd.heap_39 := by
  k_fill
  trivial
theorem lkE_ga : typeLookup (.type "Exception") "__getattribute__" = pure (some (.builtin "BaseException.__getattribute__")) := by rw [typeLookup_type, builtinLookup_eq_fast]; kernel_rfl
theorem lkE_code : typeLookup (.type "Exception") (Str.ofString "code") = pure none := by rw [typeLookup_type, builtinLookup_eq_fast]; kernel_rfl
theorem canonE_ga : (Manifest.canonical "BaseException.__getattribute__" != "object.__getattribute__") = false := by decide +kernel
section
variable {prog : Program} {w : World} {A : Around} {E : Value → Shared → Prop} {h : Heap} {g : Array GenState} {d : Drawn} {t : Nat} {os : OsState}
variable {nm q : Str} {C N x D : Addr} {bs : List Value} {sn : List Str} {sub : List Value} {ab : Bool} {col : Option Bool} {dd : Option Addr} {k0 k1 k2 k3 k5 : Option Value} {newId : String}
  {mN mA : Str → Option Value} {v : Value} {o : Obj} {vs : Array Value}
theorem code_entry {tk : Tok} {Q : Fin → Shared → Prop}
    (hC : h.get? C = some (excClassObj nm q C N bs [.type "Exception", .type "BaseException", .type "object"] true sn sub ab col dd k0 k1 k2 k3 k5 newId)) (hn : h.Ns N mN) (hna : mN (Str.ofString "code") = none)
    (hx : h.get? x = some o) (hc : o.cls = .ref C) (hdat : o.data = .fields vs) (hdx : o.dict = some D) (hns : h.Ns1 D mA) (hv : mA (Str.ofString "code") = some v) (hq : Q (.done (.ret v)) ⟨h, g, d, t, os⟩) :
    wpAny (model prog w) A (Builtin.«object.__getattribute__» ⟨[.ref x, .str (Str.ofString "code") tk], []⟩) Q E ⟨h, g, d, t, os⟩ := by
  repeat (any_goals (first | assumption | (with_reducible refine wpAny_loadPart_at hx ?_; rw [hc]) | (with_reducible refine wpAny_typeLookup_exc hC hn PySem.F.store_Exception.mro lkE_code ?_; rw [hna]) | wp_step))
  rw [hdat]
  show wpAny _ _ (instanceDict x false) _ _ _
  unfold instanceDict
  repeat (first | (with_reducible refine wpAny_loadPart_at hx ?_; rw [hc]) | with_reducible refine wpAny_loadPart_at hC ?_ | wp_step)
  rw [hdx]
  repeat (first | (with_reducible refine wpAny_nsGet hns.ns ?_; rw [hv]) | wp_step)
  exact hq
theorem check_code {M : Model} {nameV : Value} {Q : Unit → Shared → Prop} (hC : h.get? C = some (excClassObj nm q C N bs [.type "Exception", .type "BaseException", .type "object"] true sn sub ab col dd k0 k1 k2 k3 k5 newId))
    (hx : h.get? x = some o) (hc : o.cls = .ref C) (hq : Q () ⟨h, g, d, t, os⟩) : wpAny M A (checkBuiltinCall "BaseException.__getattribute__" ⟨[.ref x, nameV], []⟩) Q E ⟨h, g, d, t, os⟩ := by
  have hk : builtinKind "BaseException.__getattribute__" = some .slot := by decide +kernel
  have hsplit : splitId "BaseException.__getattribute__" = some ("BaseException", "__getattribute__") := by decide +kernel
  have hcB : (Value.ref C :: [Value.type "Exception", .type "BaseException", .type "object"]).contains (.type "BaseException") = true := by rw [List.contains_cons]; rfl
  have ha := PySem.F.args_bexc_ga (.ref x) nameV
  simp only [checkBuiltinCall, hk, hsplit]
  refine wpAny_bind ?_
  · unfold isInstance
    repeat (first | (with_reducible refine wpAny_loadPart_at hx ?_; rw [hc]) | (with_reducible refine wpAny_isSubtype_exc hC ?_; rw [hcB]) | wp_step)
    exact hq
theorem code_attr {expr : Bool} {Q : Value → Shared → Prop}
    (hC : h.get? C = some (excClassObj nm q C N bs [.type "Exception", .type "BaseException", .type "object"] true sn sub ab col dd k0 k1 k2 k3 k5 newId)) (hn : h.Ns N mN) (hng : mN "__getattribute__" = none) (hnh : mN "__getattr__" = none) (hna : mN (Str.ofString "code") = none)
    (hx : h.get? x = some o) (hc : o.cls = .ref C) (hdat : o.data = .fields vs) (hdx : o.dict = some D) (hns : h.Ns1 D mA) (hv : mA (Str.ofString "code") = some v) (hh : handedOut v = pure v) (hq : Q v ⟨h, g, d, t + 1, os⟩) :
    wpAny (model prog w) A (getAttr (.ref x) (Str.ofString "code") expr) Q E ⟨h, g, d, t, os⟩ := by
  have FB := PySem.F.attrBase_Exception
  have f3 := FB.ga.bind (.ref x)
  have hx0 : (expr && onTheHeap (Value.builtin "BaseException.__getattribute__")) = false := by cases expr <;> rfl
  have hx2 : (Value.builtin "BaseException.__getattribute__" == Value.builtin "object.__getattribute__") = false := by decide +kernel
  have hx1 : (onTheHeap (Value.ref C) && Value.builtin "BaseException.__getattribute__" == Value.builtin "object.__getattribute__") = false := by rw [hx2]; rfl
  unfold getAttr
  repeat (any_goals (first | assumption | (with_reducible refine wpAny_loadPart_at hx ?_; rw [hc]) | (with_reducible refine wpAny_typeLookup_exc hC hn FB.mro FB.ga.lookup ?_; rw [hng]) | (with_reducible refine wpAny_typeLookup_exc hC hn FB.mro FB.noGetattr ?_; rw [hnh]) | wp_step))
  refine codeAny_call_builtin FB.ga.plain PySem.F.entry_bexc_ga (check_code hC hx hc (code_entry hC hn hna hx hc hdat hdx hns hv ?_))
  repeat (any_goals (first | assumption | wp_step))
end
section
variable {prog : Program} {w : World} {A : Around} {E : Value → Shared → Prop} {s : Shared} {h₀ : Heap} {L x D : Addr} {m mA : Str → Option Value} {news : List (Addr × Obj)} {Q : Value → Shared → Prop} {o oD : Obj} {vs : Array Value} {k : Int} {tk : Tok} {expr : Bool}
theorem get_code (F : Fr h₀ L s.heap m) (X : (hd.heap_39 w.params).In h₀) (N : News h₀ L s.heap news) (h1 : (x, o) ∈ news) (hc : o.cls = .ref 38) (hdat : o.data = .fields vs) (hdx : o.dict = some D) (h2 : (D, oD) ∈ news)
    (hD : ∀ hh : Heap, hh.get? D = some oD → hh.Ns1 D mA) (hv : mA (Str.ofString "code") = some (.int k tk)) (hq : Q (.int k tk) { s with toks := s.toks + 1 }) :
    wpAny (model prog w) A (getAttr (.ref x) (Str.ofString "code") expr) Q E s := by
  obtain ⟨hh, g, d, t, os⟩ := s
  have X' := X.keeps F.keep
  have G : hh.Ns 37 (hh.nsMap 37) := .of_isNs (ns37 X')
  refine' code_attr (X' 38 _ ?l) G (ns_none_of X' G ?a) (ns_none_of X' G ?b) (ns_none_of X' G ?c) (N _ h1).1 hc hdat hdx (hD _ (N _ h2).1) hv rfl hq
  case l => k_is
  case a => k_is
  case b => k_is
  case c => k_is
end
end
section
theorem fillRF : (fun (_ : OpenLaw) (_ : Params → Frag) => True) PySem.Challenge.rw_pf0250_01 hd.heap_39 := by
  k_fill
  trivial
section
variable {prog : Program} {w : World} {A A₀ : Around} {base h₀ : Heap} {s : Shared} {L : Addr} {m mg mb : Str → Option Value} {news : List (Addr × Obj)} {env : Env} {outer : List Env}
    {sid : Int} {ts : Tok} {p : Program} {loose : List Str} {mean : ExcName → Option Value} {Q : Value → Shared → Prop} {E : Value → Shared → Prop}
set_option maxRecDepth 100000 in
set_option maxHeartbeats 8000000 in
theorem number_call (n : Int) (B : Below A₀ base outer h₀) (F : Fr h₀ L s.heap m) (X : (hd.heap_39 w.params).In h₀) (T : Top p loose mean mg mb h₀) (N : News h₀ L s.heap news)
    (hA : A.frames = some (env :: outer)) (hf : env.frame = some L) (hke : env.scope.kind = .function) (hroom : A.depth < recursionLimit)
    (hb : Int.fdiv sid 4 = n)
    (hk : ∀ h' tk, Fr h₀ L h' m → News h₀ L h' news → ∀ t, Q (.int n t) { s with heap := h', toks := tk }) :
    wpAny (model prog w) A (call (.ref 57) [.int sid ts] []) Q E s := by
  refine wpAny_call ?_
  (refine' code_def B F X N T hA hf hke ?k6 ?k7 hroom ?k9 ?kB ?_ ?c2 ?c3 ?c4 ?c5; (case k6 => k_is); (case k7 => k_is); (case k9 => exact BindsTo.of_eq rfl); (case c5 => decide); (case kB => exact locs rfl); (case c2 => exact rfl); (case c3 => exact rfl); (case c4 => exact rfl); k_whole; intro g' L' h' FG' F' N' B' X' T'; (try dsimp only); (try k_lift B'); (try k_fold))
  k_with_none
  k_steps
  subst hb
  exact hk _ _ (by assumption) (by assumption) _
end
set_option maxRecDepth 100000 in
theorem notin_sending {prog : Program} {w : World} {A : Around} {E : Value → Shared → Prop} {s : Shared} {h₀ : Heap} {L : Addr} {m : Str → Option Value} {t : Tok} {Q : Value → Shared → Prop}
    (F : Fr h₀ L s.heap m) (X : (hd.heap_39 w.params).In h₀) (h : Q (.bool false) s) : wpAny (model prog w) A (compareOp .NotIn (.str (Str.ofString "stream") t) (.ref 42)) Q E s := by
  refine' notin_tuple_strs (ys := [Str.ofString "stream", Str.ofString "reset_stream", Str.ofString "stream_data_blocked"]) (tupK (K := hd.heap_39 w.params) (X.keeps F.keep) ?l) ?i ?_
  case l => k_is
  case i => exact PyProof.Rows.StrsAre.cons _ _ (PyProof.Rows.StrsAre.cons _ _ (PyProof.Rows.StrsAre.cons _ _ PyProof.Rows.StrsAre.nil))
  exact h
theorem reo {B F X T N A f k R : Prop} (h : B → F → X → T → N → A → f → k → R) (a : A) (b : f) (c : k) (d : B) (e : F) (g : X) (i : T) (j : N) : R := h d e g i j a b c
set_option maxRecDepth 100000 in
set_option maxHeartbeats 8000000 in
theorem refused_call {prog : Program} {w : World} {h₀ : Heap} {s : Shared} {L I dI TL OL PL OM PM OW fa : Addr} {m mg mb : Str → Option Value} {news : List (Addr × Obj)}
    {role : Str} {bit sid at_ t0 t1 : Int} {k0 k1 k2 k3 k4 k5 k6 tr u0 u1 ts : Tok} {nTL : Nat} {cn : Str} {nms : List (Str × NameKind)} {cd : Value} {p : Program} {loose : List Str} {mean : ExcName → Option Value}
    {Q : Value → Shared → Prop} {E : Value → Shared → Prop}
    (B : Below callerA h₀ [] h₀) (F : Fr h₀ L s.heap m) (X : (hd.heap_39 w.params).In h₀) (T : Top p loose mean mg mb h₀) (N : News h₀ L s.heap news)
    (h1 : (I, instObj 142 dI) ∈ news) (h2 : (dI, dictOf (idsEs w role k0 k1 k2 k3 k4 k5 k6 tr OL PL OM PM TL OW) 7) ∈ news) (h3 : (TL, listOf #[.int t0 u0, .int t1 u1] nTL) ∈ news)
    (hrole : role = Str.ofString "client" ∧ bit = 1 ∨ role = Str.ofString "server" ∧ bit = 0)
    (ht0 : 0 ≤ t0 ∧ t0 ≤ 1152921504606846976) (ht1 : 0 ≤ t1 ∧ t1 ≤ 1152921504606846976)
    (hs : at_ = 0 ∧ sid = 4 * t0 + bit ∨ at_ = 1 ∧ sid = 4 * t1 + 2 + bit)
    (hk : ∀ h' tk, Fr h₀ L h' m → News h₀ L h' news → Q (.bool true) { s with heap := h', toks := tk }) :
    wpAny (model prog w) (callerA.deeper (envOf cn { kind := .function, names := nms, isGenerator := false, isCoroutine := false, more := [] } L fa cd)) (call (.ref 160) [.ref I, .int sid ts] []) Q E s := by
  have hMk := kstMark
  have N0 : News h₀ L s.heap ((I, instObj 142 dI) :: (dI, dictOf (idsEs w role k0 k1 k2 k3 k4 k5 k6 tr OL PL OM PM TL OW) 7) :: (TL, listOf #[.int t0 u0, .int t1 u1] nTL) :: news) := fun q hq => by
    rcases List.mem_cons.mp hq with rfl | hq
    · exact N _ h1
    · rcases List.mem_cons.mp hq with rfl | hq
      · exact N _ h2
      · rcases List.mem_cons.mp hq with rfl | hq
        · exact N _ h3
        · exact N _ hq
  have hnum : (at_ = 0 ∧ Int.fdiv sid 4 = t0) ∨ (at_ = 1 ∧ Int.fdiv sid 4 = t1) := by
    rw [Int.fdiv_eq_ediv_of_nonneg _ (by decide)]
    rcases hs with ⟨z, rfl⟩ | ⟨z, rfl⟩ <;> rcases hrole with ⟨_, rfl⟩ | ⟨_, rfl⟩ <;> first | exact .inl ⟨z, by omega⟩ | exact .inr ⟨z, by omega⟩
  have hpar : (role = Str.ofString "client" ∧ (Int.fmod sid 2 == 1) = true) ∨ (role = Str.ofString "server" ∧ (Int.fmod sid 2 == 1) = false) := by
    rw [Int.fmod_eq_emod_of_nonneg _ (by decide)]
    rcases hs with ⟨z, rfl⟩ | ⟨z, rfl⟩ <;> rcases hrole with ⟨r, rfl⟩ | ⟨r, rfl⟩ <;> first | exact .inl ⟨r, beq_iff_eq.mpr (by omega)⟩ | exact .inr ⟨r, beq_eq_false_iff_ne.mpr (by omega)⟩
  have hone : (at_ = 0 ∧ (Int.fmod (Int.fdiv sid 2) 2 == 1) = false) ∨ (at_ = 1 ∧ (Int.fmod (Int.fdiv sid 2) 2 == 1) = true) := by
    rw [Int.fmod_eq_emod_of_nonneg _ (by decide), Int.fdiv_eq_ediv_of_nonneg _ (by decide)]
    rcases hs with ⟨z, rfl⟩ | ⟨z, rfl⟩ <;> rcases hrole with ⟨r, rfl⟩ | ⟨r, rfl⟩ <;> first | exact .inl ⟨z, beq_eq_false_iff_ne.mpr (by omega)⟩ | exact .inr ⟨z, beq_iff_eq.mpr (by omega)⟩
  have hat : at_ = 0 ∨ at_ = 1 := by rcases hs with ⟨z, _⟩ | ⟨z, _⟩ <;> simp [z]
  clear hs hrole N h1 h2 h3
  replace hnum : Int.fdiv sid 4 = (if at_ = 0 then t0 else t1) := by rcases hnum with ⟨z, h⟩ | ⟨z, h⟩ <;> simp [z, h]
  rcases hat with rfl | rfl
  case' inl => (replace hnum : Int.fdiv sid 4 = t0 := by simpa using hnum)
  case' inr => (replace hnum : Int.fdiv sid 4 = t1 := by simpa using hnum)
  case' inl => (replace hone : (Int.fmod (Int.fdiv sid 2) 2 == 1) = false := by rcases hone with ⟨_, z⟩ | ⟨z, _⟩ <;> first | exact z | omega)
  case' inr => (replace hone : (Int.fmod (Int.fdiv sid 2) 2 == 1) = true := by rcases hone with ⟨z, _⟩ | ⟨_, z⟩ <;> first | exact z | omega)
  all_goals rcases hpar with ⟨rfl, hpar⟩ | ⟨rfl, hpar⟩
  all_goals refine wpAny_call ?_
  all_goals (refine' code_defS0 B F X N0 T ?kA ?k6 ?k7 ?k8 ?k9 ?kB ?_ ?c1 ?c2 ?c3 ?c4 ?c5; (case kA => exact rfl); (case k6 => k_is); (case k7 => k_is); (case k8 => k_room); (case k9 => exact BindsTo.of_eq rfl); (case kB => exact locs rfl); (case c1 => exact rfl); (case c2 => exact rfl); (case c3 => exact rfl); (case c4 => exact rfl); (case c5 => decide); intro g' L' h' FG' F' N' B' X' T' D'; (try dsimp only); (try k_lift B'); (try k_fold))
  k_with_none
  k_with "compareOp NotIn str ref" => (k_here; k_dflt (refine notin_sending (by k_asm) (by k_asm) ?_; k_whole))
  k_with "execs cons" => (k_here; dsimp only; k_gentoks)
  k_with "call ref" => (k_here; ((with_reducible refine atR 71 ?_); k_dflt (refine reo (oneway_call _) (by exact rfl) (by exact rfl) (by exact rfl) (by k_asm) (by k_asm) (by k_asm) (by k_asm) (by k_asm) (by k_room) (by assumption) ?_; k_whole); intros; (try simp only [Bool.false_eq_true, if_true, if_false, ite_true, ite_false]); (try k_sweep)))
  k_with "call ref" => (k_here; ((with_reducible refine atR 64 ?_); k_dflt (refine reo (opener_call _) (by exact rfl) (by exact rfl) (by exact rfl) (by k_asm) (by k_asm) (by k_asm) (by k_asm) (by k_asm) (by k_room) (by assumption) ?_; k_whole); intros; (try simp only [Bool.false_eq_true, if_true, if_false, ite_true, ite_false]); (try k_sweep)))
  k_with "call ref" => (k_here; ((with_reducible refine atR 57 ?_); k_dflt (refine reo (number_call _) (by exact rfl) (by exact rfl) (by exact rfl) (by k_asm) (by k_asm) (by k_asm) (by k_asm) (by k_asm) (by k_room) (by assumption) ?_; k_whole); intros; (try simp only [Bool.false_eq_true, if_true, if_false, ite_true, ite_false]); (try k_sweep)))
  k_with "call ref" => (k_here; ((with_reducible refine atR 38 ?_); k_dflt (refine reo (quic_call) (by exact rfl) (by exact rfl) (by exact rfl) (by k_asm) (by k_asm) (by k_asm) (by k_asm) (by k_asm) (by k_room) ?_; k_whole); intros; (try simp only [Bool.false_eq_true, if_true, if_false, ite_true, ite_false]); (try k_sweep)))
  k_with "exec Raise some none" => (k_here; k_dflt (refine raise_open (by exact rfl) ?_))
  k_with "Exists" => ((rename Fr _ _ _ _ => eF); (rename News _ _ _ _ => eN); refine ⟨_, _, _, rfl, (eN _ (List.Mem.head _)).1, Frag.In.keeps (by assumption) (Fr.keep eF), ?_⟩)
  k_with "leaving ref" => (k_here; k_dflt (refine leave_D (by assumption) (by exact rfl) (by exact rfl) (by assumption) (by assumption) (by assumption) ?_; k_whole); intro h' R' U'; (try dsimp only at R' U' ⊢))
  k_with "noteFrame ref" => (k_here; (rename RaisedD _ _ _ _ _ _ _ _ => rkX); k_dflt (refine caught_D rkX (by assumption) (by assumption) (by assumption) (by assumption) (by assumption) (by assumption) (by exact KtsTurn.refl) (by k_is) (by kts_isx) ?_; k_whole); intros)
  k_with "getAttr ref" => (k_here; (with_reducible refine atA ?_); k_dflt (refine get_code (by k_asm) (by k_asm) (by k_asm) (by k_mem) (by assumption) (by assumption) (by assumption) (by k_mem) (by assumption) (by assumption) ?_; k_whole))
  all_goals k_steps
  all_goals ((rename News _ _ _ _ => eN); exact hk _ _ (by assumption) (fun q hq => eN q (by k_ownIn)))
end
section
theorem fillN : (fun (_ : OpenLaw) (_ : Params → Frag) => True) PySem.Challenge.rw_pf0250_01 hd.heap_39 := by
  k_fill
  trivial
set_option maxRecDepth 100000 in
set_option maxHeartbeats 8000000 in
theorem turn_ok {prog : Program} {w : World} {h₀ h : Heap} {s : Shared} {L fa : Addr} {cd : Value} {mg mb mr u : Str → Option Value} {own : List (Addr × Obj)} {ns : List Int}
    {p : Program} {loose : List Str} {mean : ExcName → Option Value} {bit k : Int} {tb tm t tk x0 x1 x2 : Tok} (S : Fast) (d : Dyn)
    {Q : Flow → Shared → Prop} {E : Value → Shared → Prop}
    (B : Below callerA h₀ [] h₀) (X : (hd.heap_39 w.params).In h₀) (T : Top p loose mean mg mb h₀)
    (hI : IntsAre S.vs ns) (hlen : ns.length ≤ 63) (hr : rises S) (hsys : (S.H == sysModules) = false)
    (hoH : S.oH.IsDictOf (PySem.strKind prog w) (strPairs [(.str (Str.ofString "lets") x0, .ref S.HL), (.str (Str.ofString "told") x1, .ref S.HT), (.str (Str.ofString "owes") x2, .ref S.HO)]))
    (hrole : S.role = Str.ofString "client" ∧ bit = 1 ∨ S.role = Str.ofString "server" ∧ bit = 0)
    (hi : 0 ≤ d.i ∧ d.i ≤ 900) (hb : bnd d) (hm : mir d) (hoff : OwnOff own (adrF S))
    (F : Fr h₀ L h (fun y => if y = Str.ofString "turn" then some (.int k t) else if [Str.ofString "at", Str.ofString "form", Str.ofString "number", Str.ofString "is_own", Str.ofString "lost"].contains y then u y else
      if y = Str.ofString "here" then some (.ref S.H) else if y = Str.ofString "ids" then some (.ref S.I) else if y = Str.ofString "bit" then some (.int bit tb) else if y = Str.ofString "pen" then some (.ref S.P) else
      if y = Str.ofString "most" then some (.int 1152921504606846976 tm) else mr y))
    (N : News h₀ L h (ledF w S d ++ own))
    (hend : ∀ d' m' h' tk', bnd d' → mir d' → 0 ≤ d'.i → d'.i ≤ d.i + 4 → Fr h₀ L h' m' → News h₀ L h' (ledF w S d' ++ own) →
      (∀ z, z ≠ Str.ofString "turn" → [Str.ofString "at", Str.ofString "form", Str.ofString "number", Str.ofString "is_own", Str.ofString "lost"].contains z = false →
        m' z = (if z = Str.ofString "here" then some (.ref S.H) else if z = Str.ofString "ids" then some (.ref S.I) else if z = Str.ofString "bit" then some (.int bit tb) else if z = Str.ofString "pen" then some (.ref S.P) else
      if z = Str.ofString "most" then some (.int 1152921504606846976 tm) else mr z)) → Q .next { s with heap := h', toks := tk' }) :
    wpAny (model prog w) (callerA.deeper (envOf (Str.ofString "law") lawScope L fa cd)) (execs turnBody (envOf (Str.ofString "law") lawScope L fa cd)) Q E { s with heap := h, toks := tk } := by
  have hMk := kstMark
  have e1 : turnBody = turnBody := rfl
  conv at e1 => rhs; whnf
  have e2 : lawScope = lawScope := rfl
  conv at e2 => rhs; whnf
  rw [e1, e2]
  clear e1 e2
  have hnd := rises_nd S hr
  obtain ⟨P, l, I, dI, OL, PL, OM, PM, TL, OW, H, HL, HT, HO, oH, vs, c, role, tc, k0, k1, k2, k3, k4, k5, k6, tr, o0, o1, m0, m1, q0, q1, nP, nl, nOL, nPL, nOM, nPM, nTL, nOW, nHL, nHT, nHO⟩ := S
  obtain ⟨i, a0, a1, e0, e1, t0, t1, s0, s1, b0, b1, c0, c1, ti, pa0, pa1, la0, la1, pt0, pt1, ht0, ht1⟩ := d
  dsimp only [ledF, adrF, rises, bnd, mir, List.cons_append, List.nil_append] at *
  obtain ⟨rfl, rfl, rfl, rfl, rfl, rfl⟩ := hm
  obtain ⟨hb1, hb2, hb3, hb4⟩ := id hb
  k_with_none
  k_with "execs cons" => (k_here; dsimp only; k_gentoks)
  k_with "ite" => (k_here; first | (refine ite_pos (beq_iff_eq.mpr (by omega)) ?_) | (refine ite_isFalse (beq_eq_false_iff_ne.mpr (by omega)) ?_) | (refine ite_isFalse (by rw [Bool.not_eq_false']; exact decide_eq_true rfl) ?_))
  k_with "call ref" => (k_here; ((with_reducible refine atR 160 ?_); (rename News _ _ _ _ => nP); (with_unfolding_all (refine refused_call (by assumption) (by assumption) (by assumption) (by assumption) nP (by k_mem) (by k_mem) (by k_mem) (by assumption) (by assumption) (by assumption) (by first | exact Or.inl ⟨rfl, by k_dflt omega⟩ | exact Or.inr ⟨rfl, by k_dflt omega⟩) ?_; k_whole)); ((rename News _ _ _ _ => nP); clear nP; intros; (rename News _ _ _ _ => nP); (try dsimp only [ledF, List.take, List.cons_append, List.nil_append] at nP); (try k_sweep))))
  k_with "call ref" => (k_here; ((with_reducible refine atR 153 ?_); (rename News _ _ _ _ => nP); (with_unfolding_all (refine pick_n _ (by assumption) (by assumption) (by assumption) (by assumption) nP (by first | exact dr 12 | exact dr 13 | exact dr 14) (by k_mem) (by k_dflt (first | assumption | omega)) (by k_dflt (k_all)) (by k_dflt (k_all)) (by assumption) (by k_dflt (first | assumption | (simp only [List.length_take]; omega))) (by k_dflt omega) (by k_dflt omega) (by k_dflt decide) (by k_dflt decide) ?_; k_whole)); ((rename News _ _ _ _ => nP); clear nP; intros; (rename News _ _ _ _ => nP); (try dsimp only [ledF, List.take, List.cons_append, List.nil_append] at nP); (try k_sweep)); (try ((rename ((_ : Int) < 2) => q2); (have z2 := int_two (by assumption) q2); clear q2; rcases z2 with z2 | z2 <;> subst z2))))
  k_with "call ref" => (k_here; ((with_reducible refine atR 125 ?_); (rename News _ _ _ _ => nP); (with_unfolding_all first | (refine closed_own (pre := [_, _]) (Fast.mk ..) (Dyn.mk ..) (by assumption) (by assumption) (by assumption) (by assumption) nP (by assumption) (by assumption) (by exact hs_own (by assumption) (by k_dflt omega)) ?_; k_whole) | (refine closed_own (pre := [_]) (Fast.mk ..) (Dyn.mk ..) (by assumption) (by assumption) (by assumption) (by assumption) nP (by assumption) (by assumption) (by exact hs_own (by assumption) (by k_dflt omega)) ?_; k_whole) | (refine closed_own (pre := []) (Fast.mk ..) (Dyn.mk ..) (by assumption) (by assumption) (by assumption) (by assumption) nP (by assumption) (by assumption) (by exact hs_own (by assumption) (by k_dflt omega)) ?_; k_whole) | (refine closed_own (pre := [_, _, _]) (Fast.mk ..) (Dyn.mk ..) (by assumption) (by assumption) (by assumption) (by assumption) nP (by assumption) (by assumption) (by exact hs_own (by assumption) (by k_dflt omega)) ?_; k_whole) | (refine closed_peer0 (pre := [_, _]) (Fast.mk ..) (Dyn.mk ..) (by assumption) (by assumption) (by assumption) (by assumption) nP (by assumption) (by assumption) (by assumption) (by exact hs_peer (by assumption) (by k_dflt omega)) (by exact fd_f (by k_dflt omega)) ?_; k_whole) | (refine closed_peer0 (pre := [_]) (Fast.mk ..) (Dyn.mk ..) (by assumption) (by assumption) (by assumption) (by assumption) nP (by assumption) (by assumption) (by assumption) (by exact hs_peer (by assumption) (by k_dflt omega)) (by exact fd_f (by k_dflt omega)) ?_; k_whole) | (refine closed_peer0 (pre := []) (Fast.mk ..) (Dyn.mk ..) (by assumption) (by assumption) (by assumption) (by assumption) nP (by assumption) (by assumption) (by assumption) (by exact hs_peer (by assumption) (by k_dflt omega)) (by exact fd_f (by k_dflt omega)) ?_; k_whole) | (refine closed_peer0 (pre := [_, _, _]) (Fast.mk ..) (Dyn.mk ..) (by assumption) (by assumption) (by assumption) (by assumption) nP (by assumption) (by assumption) (by assumption) (by exact hs_peer (by assumption) (by k_dflt omega)) (by exact fd_f (by k_dflt omega)) ?_; k_whole) | (refine closed_peer1 (pre := [_, _]) (Fast.mk ..) (Dyn.mk ..) (by assumption) (by assumption) (by assumption) (by assumption) nP (by assumption) (by assumption) (by assumption) (by exact hs_peer (by assumption) (by k_dflt omega)) (by exact fd_t (by k_dflt omega)) ?_; k_whole) | (refine closed_peer1 (pre := [_]) (Fast.mk ..) (Dyn.mk ..) (by assumption) (by assumption) (by assumption) (by assumption) nP (by assumption) (by assumption) (by assumption) (by exact hs_peer (by assumption) (by k_dflt omega)) (by exact fd_t (by k_dflt omega)) ?_; k_whole) | (refine closed_peer1 (pre := []) (Fast.mk ..) (Dyn.mk ..) (by assumption) (by assumption) (by assumption) (by assumption) nP (by assumption) (by assumption) (by assumption) (by exact hs_peer (by assumption) (by k_dflt omega)) (by exact fd_t (by k_dflt omega)) ?_; k_whole) | (refine closed_peer1 (pre := [_, _, _]) (Fast.mk ..) (Dyn.mk ..) (by assumption) (by assumption) (by assumption) (by assumption) nP (by assumption) (by assumption) (by assumption) (by exact hs_peer (by assumption) (by k_dflt omega)) (by exact fd_t (by k_dflt omega)) ?_; k_whole)); ((rename News _ _ _ _ => nP); clear nP; intros; (rename News _ _ _ _ => nP); (try dsimp only [ledF, List.take, List.cons_append, List.nil_append] at nP); (try k_sweep))))
  k_with "call ref" => (k_here; ((with_reducible refine atR 167 ?_); (rename News _ _ _ _ => nP); (with_unfolding_all first | (refine granted0 (pre := [_]) (Fast.mk ..) (Dyn.mk ..) (by assumption) (by assumption) (by assumption) (by assumption) nP (by assumption) (by assumption) (by assumption) mir_r (by assumption) (by assumption) ?_; k_whole) | (refine granted0 (pre := []) (Fast.mk ..) (Dyn.mk ..) (by assumption) (by assumption) (by assumption) (by assumption) nP (by assumption) (by assumption) (by assumption) mir_r (by assumption) (by assumption) ?_; k_whole) | (refine granted0 (pre := [_, _]) (Fast.mk ..) (Dyn.mk ..) (by assumption) (by assumption) (by assumption) (by assumption) nP (by assumption) (by assumption) (by assumption) mir_r (by assumption) (by assumption) ?_; k_whole) | (refine granted1 (pre := [_]) (Fast.mk ..) (Dyn.mk ..) (by assumption) (by assumption) (by assumption) (by assumption) nP (by assumption) (by assumption) (by assumption) mir_r (by assumption) (by assumption) ?_; k_whole) | (refine granted1 (pre := []) (Fast.mk ..) (Dyn.mk ..) (by assumption) (by assumption) (by assumption) (by assumption) nP (by assumption) (by assumption) (by assumption) mir_r (by assumption) (by assumption) ?_; k_whole) | (refine granted1 (pre := [_, _]) (Fast.mk ..) (Dyn.mk ..) (by assumption) (by assumption) (by assumption) (by assumption) nP (by assumption) (by assumption) (by assumption) mir_r (by assumption) (by assumption) ?_; k_whole)); ((rename News _ _ _ _ => nP); clear nP; intros; (rename News _ _ _ _ => nP); (try dsimp only [ledF, List.take, List.cons_append, List.nil_append] at nP); (try k_sweep))))
  k_with "call ref" => (k_here; ((with_reducible refine atR 139 ?_); (rename News _ _ _ _ => nP); (with_unfolding_all first | (refine lost0 (pre := [_]) (Fast.mk ..) (Dyn.mk ..) _ (by assumption) (by assumption) (by assumption) (by assumption) nP (by assumption) (by assumption) (by first | exact beq_iff_eq.mpr (by ((try dsimp only); k_dflt omega)) | exact beq_eq_false_iff_ne.mpr (by ((try dsimp only); k_dflt omega))) ?_; k_whole) | (refine lost0 (pre := []) (Fast.mk ..) (Dyn.mk ..) _ (by assumption) (by assumption) (by assumption) (by assumption) nP (by assumption) (by assumption) (by first | exact beq_iff_eq.mpr (by ((try dsimp only); k_dflt omega)) | exact beq_eq_false_iff_ne.mpr (by ((try dsimp only); k_dflt omega))) ?_; k_whole) | (refine lost0 (pre := [_, _]) (Fast.mk ..) (Dyn.mk ..) _ (by assumption) (by assumption) (by assumption) (by assumption) nP (by assumption) (by assumption) (by first | exact beq_iff_eq.mpr (by ((try dsimp only); k_dflt omega)) | exact beq_eq_false_iff_ne.mpr (by ((try dsimp only); k_dflt omega))) ?_; k_whole) | (refine lost1 (pre := [_]) (Fast.mk ..) (Dyn.mk ..) _ (by assumption) (by assumption) (by assumption) (by assumption) nP (by assumption) (by assumption) (by first | exact beq_iff_eq.mpr (by ((try dsimp only); k_dflt omega)) | exact beq_eq_false_iff_ne.mpr (by ((try dsimp only); k_dflt omega))) ?_; k_whole) | (refine lost1 (pre := []) (Fast.mk ..) (Dyn.mk ..) _ (by assumption) (by assumption) (by assumption) (by assumption) nP (by assumption) (by assumption) (by first | exact beq_iff_eq.mpr (by ((try dsimp only); k_dflt omega)) | exact beq_eq_false_iff_ne.mpr (by ((try dsimp only); k_dflt omega))) ?_; k_whole) | (refine lost1 (pre := [_, _]) (Fast.mk ..) (Dyn.mk ..) _ (by assumption) (by assumption) (by assumption) (by assumption) nP (by assumption) (by assumption) (by first | exact beq_iff_eq.mpr (by ((try dsimp only); k_dflt omega)) | exact beq_eq_false_iff_ne.mpr (by ((try dsimp only); k_dflt omega))) ?_; k_whole)); ((rename News _ _ _ _ => nP); clear nP; intros; (rename News _ _ _ _ => nP); (try dsimp only [ledF, List.take, List.cons_append, List.nil_append] at nP); (try k_sweep))))
  repeat' (first | (k_unfold; (try dsimp only)) | (k_end; wrow_close) | walk1 | (dsimp only; walk1) | (leave1; walk_say "STEP leave1"; try dsimp only) | fail "no step")
  all_goals (try (exfalso; omega))
  all_goals (refine' hend ⟨_, _, _, _, _, _, _, _, _, _, _, _, _, _, _, _, _, _, _, _, _, _⟩ _ _ _ ?eB ?eM ?eI ?eJ ?eF ?eN ?eZ; (case eF => assumption); (case eN => (dsimp only [List.cons_append, List.nil_append]; first | assumption | exact news_tl (by assumption) | exact news_tl (news_tl (by assumption)))); (case eB => (refine ⟨⟨?_, ?_⟩, ⟨?_, ?_⟩, ⟨?_, ?_⟩, ?_, ?_⟩ <;> dsimp only <;> omega)); (case eM => (refine ⟨?_, ?_, ?_, ?_, ?_, ?_⟩ <;> dsimp only <;> first | rfl | (cases c0 <;> first | contradiction | rfl | exact beq_iff_eq.mpr (by omega) | exact beq_eq_false_iff_ne.mpr (by omega)) | (cases c1 <;> first | contradiction | rfl | exact beq_iff_eq.mpr (by omega) | exact beq_eq_false_iff_ne.mpr (by omega)))); (case eI => (dsimp only; omega)); (case eJ => (dsimp only; omega)); (case eZ => (intro z hz hc; obtain ⟨z1, z2, z3, z4, z5⟩ := stored_off hc; simp only [hz, hc, z1, z2, z3, z4, z5, if_false, Bool.false_eq_true])))
end
section
abbrev storedN : List Str := [Str.ofString "at", Str.ofString "form", Str.ofString "number", Str.ofString "is_own", Str.ofString "lost"]
abbrev mapN (S : Fast) (bit : Int) (tb tm : Tok) (m : Str → Option Value) : Str → Option Value := fun z =>
  if z = Str.ofString "here" then some (.ref S.H) else if z = Str.ofString "ids" then some (.ref S.I) else if z = Str.ofString "bit" then some (.int bit tb) else if z = Str.ofString "pen" then some (.ref S.P) else
      if z = Str.ofString "most" then some (.int 1152921504606846976 tm) else m z
theorem mapN_eq {S : Fast} {bit : Int} {tb tm : Tok} {m : Str → Option Value} (h1 : m (Str.ofString "here") = some (.ref S.H)) (h2 : m (Str.ofString "ids") = some (.ref S.I)) (h3 : m (Str.ofString "bit") = some (.int bit tb))
    (h4 : m (Str.ofString "pen") = some (.ref S.P)) (h5 : m (Str.ofString "most") = some (.int 1152921504606846976 tm)) : m = mapN S bit tb tm m := by
  funext z
  unfold mapN
  by_cases e1 : z = Str.ofString "here"
  · rw [if_pos e1, e1, h1]
  rw [if_neg e1]
  by_cases e2 : z = Str.ofString "ids"
  · rw [if_pos e2, e2, h2]
  rw [if_neg e2]
  by_cases e3 : z = Str.ofString "bit"
  · rw [if_pos e3, e3, h3]
  rw [if_neg e3]
  by_cases e4 : z = Str.ofString "pen"
  · rw [if_pos e4, e4, h4]
  rw [if_neg e4]
  by_cases e5 : z = Str.ofString "most"
  · rw [if_pos e5, e5, h5]
  rw [if_neg e5]
set_option maxHeartbeats 4000000 in
theorem loop_ok {prog : Program} {w : World} {h₀ : Heap} {s : Shared} {L fa r : Addr} {cd : Value} {mg mb m : Str → Option Value} {ns : List Int} {p : Program} {loose : List Str} {mean : ExcName → Option Value}
    {bit M : Int} {tb tm x0 x1 x2 r1 r2 r3 : Tok} (S : Fast) (d₀ : Dyn) {Q : Flow → Shared → Prop} {E : Value → Shared → Prop} {pre rest : List (Addr × Obj)} {y1 y2 y3 y4 y5 y6 y7 y8 : Addr × Obj}
    (B : Below callerA h₀ [] h₀) (X : (hd.heap_39 w.params).In h₀) (T : Top p loose mean mg mb h₀) (F : Fr h₀ L s.heap m) (rg : IsRange s.heap r 0 14 1 r1 r2 r3)
    (N : News h₀ L s.heap (pre ++ ((S.HO, listOf #[.bool d₀.c0, .bool d₀.c1] S.nHO) :: (S.HT, listOf #[.int d₀.s0 d₀.ht0, .int d₀.s1 d₀.ht1] S.nHT) :: (S.HL, listOf #[.int d₀.e0 d₀.la0, .int d₀.e1 d₀.la1] S.nHL) :: (S.H, S.oH) :: y1 ::
      (S.OW, listOf #[.bool d₀.b0, .bool d₀.b1] S.nOW) :: (S.TL, listOf #[.int d₀.t0 d₀.pt0, .int d₀.t1 d₀.pt1] S.nTL) :: (S.PM, listOf #[.int 0 S.q0, .int 0 S.q1] S.nPM) :: (S.OM, listOf #[.int 0 S.m0, .int 0 S.m1] S.nOM) ::
      (S.PL, listOf #[.int d₀.a0 d₀.pa0, .int d₀.a1 d₀.pa1] S.nPL) :: (S.OL, listOf #[.int 1 S.o0, .int 1 S.o1] S.nOL) :: (S.I, instObj 142 S.dI) ::
      (S.dI, dictOf (idsEs w S.role S.k0 S.k1 S.k2 S.k3 S.k4 S.k5 S.k6 S.tr S.OL S.PL S.OM S.PM S.TL S.OW) 7) :: y2 :: y3 :: y4 :: y5 :: y6 :: y7 :: (S.P, listOf #[.ref S.l, .int d₀.i d₀.ti, .int S.c S.tc] S.nP) :: y8 :: (S.l, listOf S.vs.toArray S.nl) :: rest)))
    (hI : IntsAre S.vs ns) (hlen : ns.length ≤ 63) (hr : rises S) (hsys : (S.H == sysModules) = false)
    (hoH : S.oH.IsDictOf (PySem.strKind prog w) (strPairs [(.str (Str.ofString "lets") x0, .ref S.HL), (.str (Str.ofString "told") x1, .ref S.HT), (.str (Str.ofString "owes") x2, .ref S.HO)]))
    (hrole : S.role = Str.ofString "client" ∧ bit = 1 ∨ S.role = Str.ofString "server" ∧ bit = 0) (hi : d₀.i = 4) (hb : bnd d₀) (hm : mir d₀)
    (m1 : m (Str.ofString "here") = some (.ref S.H)) (m2 : m (Str.ofString "ids") = some (.ref S.I)) (m3 : m (Str.ofString "bit") = some (.int bit tb)) (m4 : m (Str.ofString "pen") = some (.ref S.P)) (m5 : m (Str.ofString "most") = some (.int M tm)) (hM : M = 1152921504606846976)
    (hdone : ∀ (i a0 a1 t0 t1 : Int) (b0 b1 : Bool) (ti pa0 pa1 la0 la1 pt0 pt1 ht0 ht1 : Tok) (u : Str → Option Value) h tk,
      rises S → OwnOff [] (adrF S) → (0 ≤ a0 ∧ a0 ≤ 1152921504606846976) ∧ (0 ≤ a1 ∧ a1 ≤ 1152921504606846976) ∧ (0 ≤ t0 ∧ t0 ≤ 1152921504606846976) ∧ (0 ≤ t1 ∧ t1 ≤ 1152921504606846976) →
      Fr h₀ L h (fun y => if y = Str.ofString "turn" then u y else if storedN.contains y then u y else mapN S bit tb tm m y) → News h₀ L h (ledF w S ⟨i, a0, a1, a0, a1, t0, t1, t0, t1, b0, b1, b0, b1, ti, pa0, pa1, la0, la1, pt0, pt1, ht0, ht1⟩) →
      Q .next { s with heap := h, toks := tk }) :
    wpAny (model prog w) (callerA.deeper (envOf (Str.ofString "law") lawScope L fa cd)) (pyIter (.ref r))
      (fun it s₂ => LoopAtV prog w (callerA.deeper (envOf (Str.ofString "law") lawScope L fa cd)) h₀ (envOf (Str.ofString "law") lawScope L fa cd) (Str.ofString "turn") turnBody Q E it s₂) E s := by
  subst hM
  have F0 : Fr h₀ L s.heap (mapN S bit tb tm m) := by rw [← mapN_eq m1 m2 m3 m4 m5]; exact F
  have N0 : News h₀ L s.heap (ledF w S d₀) := fun q hq => N q (List.mem_append_right _ (by
    simp only [ledF, List.mem_cons, List.not_mem_nil, or_false] at hq ⊢
    grind))
  refine kst_range (σ := Dyn) (Led := ledF w S) (ps := fun _ => []) (Facts := fun d => bnd d ∧ mir d) (stored := storedN) (P := fun pre d => 0 ≤ d.i ∧ d.i ≤ 4 + 4 * (pre.length : Int)) (c₀ := d₀) (n := 14) (m₀ := mapN S bit tb tm m)
    rfl rg (by decide) (by decide) F0 N0 ⟨hb, hm⟩ (fun p hp => nomatch hp) ⟨by omega, by simp [hi]⟩ ?_ ?_
  · intro c pre k t u h tk own hk hlt hoff hf hp F1 N1
    have hlt' : (pre.length : Int) < 14 := by omega
    refine turn_ok (mr := m) (u := u) S c B X T hI hlen hr hsys hoH hrole ⟨hp.1, by omega⟩ hf.1 hf.2 hoff F1 N1 fun d' m' h' tk' hb' hm' hi0 hi1 F2 N2 hz => ?_
    refine kst_end d' F2 N2 (fun p hp => List.mem_append_left _ hp) (fun p hp => List.mem_append_right _ hp) rfl ⟨hb', hm'⟩ (fun p hp => nomatch hp) (fun z z1 _ z3 => hz z z1 z3) ⟨hi0, ?_⟩
    simp only [List.length_append, List.length_singleton]
    omega
  · intro c u h tk hf hp F1 N1
    obtain ⟨i, a0, a1, e0, e1, t0, t1, s0, s1, b0, b1, c0, c1, ti, pa0, pa1, la0, la1, pt0, pt1, ht0, ht1⟩ := c
    obtain ⟨hb', hm'⟩ := hf
    dsimp only [mir] at hm'
    obtain ⟨rfl, rfl, rfl, rfl, rfl, rfl⟩ := hm'
    exact hdone _ _ _ _ _ _ _ _ _ _ _ _ _ _ _ _ u h tk hr (fun q hq => nomatch hq) hb' F1 N1
section
variable {prog : Program} {w : World} {base h₀ : Heap} {s : Shared} {L fa : Addr} {m mg mb : Str → Option Value} {pre own : List (Addr × Obj)}
    {ts : Tok} {cn : Str} {nms : List (Str × NameKind)} {cd : Value} {p : Program} {loose : List Str} {mean : ExcName → Option Value} {Q : Value → Shared → Prop} {E : Value → Shared → Prop} {x0 x1 x2 : Tok}
theorem off_pre {prog : Program} {w : World} {h₀ h : Heap} {L : Addr} {pre own : List (Addr × Obj)} {x0 x1 x2 : Tok} (S : Fast) (d : Dyn) (N : News h₀ L h (pre ++ (ledF w S d ++ own)))
    (hoH : S.oH.IsDictOf (PySem.strKind prog w) (strPairs [(.str (Str.ofString "lets") x0, .ref S.HL), (.str (Str.ofString "told") x1, .ref S.HT), (.str (Str.ofString "owes") x2, .ref S.HO)]))
    (hc : ∀ q ∈ pre, q.2.cls ≠ .type "list" ∧ q.2.cls ≠ .type "dict" ∧ q.2.cls ≠ .ref 142) : OwnOff pre (adrF S) := by
  intro q hq b hb e
  have hb' : b ∈ (ledF w S d).map (·.1) := hb
  obtain ⟨r, hr, hrb⟩ := List.mem_map.mp hb'
  have e1 := (N q (List.mem_append_left _ hq)).1
  have e2 := (N r (List.mem_append_right _ (List.mem_append_left _ hr))).1
  rw [hrb, ← e, e1] at e2
  have e3 : q.2 = r.2 := Option.some.inj e2
  obtain ⟨c1, c2, c3⟩ := hc q hq
  rw [e3] at c1 c2 c3
  have hd : S.oH.cls = .type "dict" := by
    obtain ⟨es, ep, hx, _⟩ := hoH
    exact hx.1
  simp only [ledF, List.mem_cons, List.not_mem_nil, or_false] at hr
  rcases hr with rfl | rfl | rfl | rfl | rfl | rfl | rfl | rfl | rfl | rfl | rfl | rfl | rfl | rfl
  all_goals first
    | exact c1 rfl
    | exact c2 rfl
    | exact c3 rfl
    | exact c2 hd
theorem granted0K (S : Fast) (d : Dyn) (B : Below callerA base [] h₀) (F : Fr h₀ L s.heap m) (X : (hd.heap_39 w.params).In h₀) (T : Top p loose mean mg mb h₀)
    (N : News h₀ L s.heap (pre ++ (ledF w S d ++ own))) (hr : rises S) (hoff : OwnOff own (adrF S)) (hpc : ∀ q ∈ pre, q.2.cls ≠ .type "list" ∧ q.2.cls ≠ .type "dict" ∧ q.2.cls ≠ .ref 142) (hb : bnd d) (hm : mir d) (hsys : (S.H == sysModules) = false)
    (hoH : S.oH.IsDictOf (PySem.strKind prog w) (strPairs [(.str (Str.ofString "lets") x0, .ref S.HL), (.str (Str.ofString "told") x1, .ref S.HT), (.str (Str.ofString "owes") x2, .ref S.HO)]))
    (hk : ∀ h' tk t1 t2, Fr h₀ L h' m → News h₀ L h' (pre ++ (ledF w S { d with t0 := d.a0, s0 := d.a0, b0 := false, c0 := false, pt0 := t1, ht0 := t2 } ++ own)) → Q (.bool true) { s with heap := h', toks := tk }) :
    wpAny (model prog w) (callerA.deeper (envOf cn { kind := .function, names := nms, isGenerator := false, isCoroutine := false, more := [] } L fa cd)) (call (.ref 167) [.ref S.I, .int 0 ts, .ref S.H] []) Q E s := by
  refine granted0 (pre := []) (own := pre ++ own) S d B F X T (fun q hq => N q ?_) hr (fun q hq => ?_) hb hm hsys hoH fun h' tk t1 t2 F' N' => hk h' tk t1 t2 F' fun q hq => N' q ?_
  · simp only [List.nil_append, List.mem_append] at hq ⊢
    grind
  · rcases List.mem_append.mp hq with z | z
    · exact off_pre S d N hoH hpc q z
    · exact hoff q z
  · simp only [List.mem_append] at hq ⊢
    grind
theorem granted1K (S : Fast) (d : Dyn) (B : Below callerA base [] h₀) (F : Fr h₀ L s.heap m) (X : (hd.heap_39 w.params).In h₀) (T : Top p loose mean mg mb h₀)
    (N : News h₀ L s.heap (pre ++ (ledF w S d ++ own))) (hr : rises S) (hoff : OwnOff own (adrF S)) (hpc : ∀ q ∈ pre, q.2.cls ≠ .type "list" ∧ q.2.cls ≠ .type "dict" ∧ q.2.cls ≠ .ref 142) (hb : bnd d) (hm : mir d) (hsys : (S.H == sysModules) = false)
    (hoH : S.oH.IsDictOf (PySem.strKind prog w) (strPairs [(.str (Str.ofString "lets") x0, .ref S.HL), (.str (Str.ofString "told") x1, .ref S.HT), (.str (Str.ofString "owes") x2, .ref S.HO)]))
    (hk : ∀ h' tk t1 t2, Fr h₀ L h' m → News h₀ L h' (pre ++ (ledF w S { d with t1 := d.a1, s1 := d.a1, b1 := false, c1 := false, pt1 := t1, ht1 := t2 } ++ own)) → Q (.bool true) { s with heap := h', toks := tk }) :
    wpAny (model prog w) (callerA.deeper (envOf cn { kind := .function, names := nms, isGenerator := false, isCoroutine := false, more := [] } L fa cd)) (call (.ref 167) [.ref S.I, .int 1 ts, .ref S.H] []) Q E s := by
  refine granted1 (pre := []) (own := pre ++ own) S d B F X T (fun q hq => N q ?_) hr (fun q hq => ?_) hb hm hsys hoH fun h' tk t1 t2 F' N' => hk h' tk t1 t2 F' fun q hq => N' q ?_
  · simp only [List.nil_append, List.mem_append] at hq ⊢
    grind
  · rcases List.mem_append.mp hq with z | z
    · exact off_pre S d N hoH hpc q z
    · exact hoff q z
  · simp only [List.mem_append] at hq ⊢
    grind
end
theorem pre2 {i D : Addr} {o o2 : Obj} {c : String} (h : o.cls = .type c) (hc : (c != "list" && c != "dict") = true) (h2 : o2.cls = .type "tuple") :
    ∀ q ∈ [(i, o), (D, o2)], q.2.cls ≠ .type "list" ∧ q.2.cls ≠ .type "dict" ∧ q.2.cls ≠ .ref 142 := by
  obtain ⟨c1, c2⟩ := Bool.and_eq_true_iff.mp hc
  refine List.forall_mem_cons.mpr ⟨⟨?_, ?_, ?_⟩, List.forall_mem_cons.mpr ⟨⟨?_, ?_, ?_⟩, List.forall_mem_nil _⟩⟩ <;> dsimp only
  · rw [h]; intro z; exact bne_iff_ne.mp c1 (Value.type.inj z)
  · rw [h]; intro z; exact bne_iff_ne.mp c2 (Value.type.inj z)
  · rw [h]; intro z; cases z
  · rw [h2]; intro z; exact absurd (Value.type.inj z) (by decide)
  · rw [h2]; intro z; exact absurd (Value.type.inj z) (by decide)
  · rw [h2]; intro z; cases z
end
section
theorem fillMN : (fun (_ : OpenLaw) (_ : Params → Frag) => True) PySem.Challenge.rw_pf0250_01 hd.heap_39 := by
  k_fill
  trivial
theorem pow60 : (2 : Int) ^ (Int.toNat 60) = 1152921504606846976 := by decide
theorem loop_b0 {v1 v2 : Int} (h2 : 0 ≤ v1) (h3 : v1 < 4) (h4 : 0 ≤ v2) (h5 : v2 < 3) (d : Dyn)
    (e0 : d.a0 = 2 ^ Int.toNat 60 - v2) (e1 : d.a1 = 2 ^ Int.toNat 60 - v1) (e2 : d.t0 = 2 ^ Int.toNat 60 - v2) (e3 : d.t1 = 2 ^ Int.toNat 60 - v1) : bnd d := by
  unfold bnd
  rw [e0, e1, e2, e3, pow60]
  omega
theorem loop_b1 {v1 v2 : Int} (h2 : 0 ≤ v1) (h3 : v1 < 4) (h4 : 0 ≤ v2) (h5 : v2 < 3) (d : Dyn)
    (e0 : d.a0 = 2 ^ Int.toNat 60 - v2) (e1 : d.a1 = v1) (e2 : d.t0 = 2 ^ Int.toNat 60 - v2) (e3 : d.t1 = v1) : bnd d := by
  unfold bnd
  rw [e0, e1, e2, e3, pow60]
  omega
theorem bndG {a0 a1 t0 t1 : Int} {d : Dyn} (h : (0 ≤ a0 ∧ a0 ≤ 1152921504606846976) ∧ (0 ≤ a1 ∧ a1 ≤ 1152921504606846976) ∧ (0 ≤ t0 ∧ t0 ≤ 1152921504606846976) ∧ (0 ≤ t1 ∧ t1 ≤ 1152921504606846976))
    (h0 : d.a0 = a0) (h1 : d.a1 = a1) (h2 : d.t0 = t0 ∨ d.t0 = a0) (h3 : d.t1 = t1 ∨ d.t1 = a1) : bnd d := by
  unfold bnd
  rw [h0, h1]
  exact ⟨h.1, h.2.1, h2.elim (fun e => e ▸ h.2.2.1) (fun e => e ▸ h.1), h3.elim (fun e => e ▸ h.2.2.2) (fun e => e ▸ h.2.1)⟩
theorem post_t (args : List WData) : (RowW.claim (OpenRow.toRowW (OpenLaw.row PySem.Challenge.rw_pf0250_01))).post args (.bool true) args = true := by
  (refine postW_of (by wrow_shape) (w_eq_bool (w_res rfl) w_lit) ?_)
  rfl
set_option maxRecDepth 100000 in
set_option maxHeartbeats 8000000 in
theorem fin : PySem.Challenge.rw_pf0250_01.Holds := hd (by
  k_with_none
  k_with "execs cons" => (k_here; dsimp only; k_gentoks)
  k_with "call ref" => (k_here; ((with_reducible refine atR 153 ?_); (rename News _ _ _ _ => nP); (with_unfolding_all (refine pick_n _ (by assumption) (by assumption) (by assumption) (by assumption) nP (by first | exact dr 0 | exact dr 1 | exact dr 2 | exact dr 3) (by k_mem) (by k_dflt (first | assumption | omega)) (by k_dflt (k_all)) (by k_dflt (k_all)) (by assumption) (by k_dflt (first | assumption | (simp only [List.length_take]; omega))) (by k_dflt omega) (by k_dflt omega) (by k_dflt decide) (by k_dflt decide) ?_; k_whole)); ((rename News _ _ _ _ => nP); clear nP; intros; (rename News _ _ _ _ => nP); (try dsimp only [ledF, List.take, List.cons_append, List.nil_append] at nP); (try k_sweep))))
  k_with "call ref" => (k_here; ((with_reducible refine atR 167 ?_); (rename News _ _ _ _ => nP); (with_unfolding_all first | (refine granted0K (pre := [_, _]) (Fast.mk ..) (Dyn.mk ..) (by assumption) (by assumption) (by assumption) (by assumption) nP (by assumption) (by assumption) (by exact pre2 (by assumption) (by decide) (by exact rfl)) (by (rename ((0 ≤ _ ∧ _ ≤ (1152921504606846976 : Int)) ∧ _) => bX); exact bndG bX (by exact rfl) (by exact rfl) (by first | exact Or.inl rfl | exact Or.inr rfl) (by first | exact Or.inl rfl | exact Or.inr rfl)) mir_r (by assumption) (by assumption) ?_; k_whole) | (refine granted1K (pre := [_, _]) (Fast.mk ..) (Dyn.mk ..) (by assumption) (by assumption) (by assumption) (by assumption) nP (by assumption) (by assumption) (by exact pre2 (by assumption) (by decide) (by exact rfl)) (by (rename ((0 ≤ _ ∧ _ ≤ (1152921504606846976 : Int)) ∧ _) => bX); exact bndG bX (by exact rfl) (by exact rfl) (by first | exact Or.inl rfl | exact Or.inr rfl) (by first | exact Or.inl rfl | exact Or.inr rfl)) mir_r (by assumption) (by assumption) ?_; k_whole)); ((rename News _ _ _ _ => nP); clear nP; intros; (rename News _ _ _ _ => nP); (try dsimp only [ledF, List.take, List.cons_append, List.nil_append] at nP); (try k_sweep))))
  k_with "exec For Name Call cons nil" => (k_here; (rename Fr _ _ _ _ => lF'); (with_unfolding_all (refine For_invVF lF' (by exact rfl) (by exact rfl) ?_; k_whole)))
  k_with "pyIter ref" => (k_here; (with_reducible show wpAny _ _ (pyIter (Value.ref _)) (fun it s₂ => LoopAtV _ _ _ _ _ _ _ _ _ it s₂) _ _); (rename News _ _ _ _ => nP); (rename IsRange _ _ _ _ _ _ _ _ => rgX); (with_unfolding_all (first | (refine loop_ok (pre := []) (y1 := _) (Fast.mk ..) (Dyn.mk ..) (by assumption) (by assumption) (by assumption) (by assumption) rgX nP (by assumption) (by (simp only [List.length_take]; omega)) (by dsimp only [rises]; omega) (by assumption) (by assumption) (by first | exact Or.inl ⟨rfl, rfl⟩ | exact Or.inr ⟨rfl, rfl⟩) (by exact rfl) (by (rename ((_ : Int) < 2) => q1); (rename ((_ : Int) < 4) => q3); (rename ((_ : Int) < 3) => q5); (rcases int_two (by assumption) q1 with q1' | q1') <;> (subst q1'; first | exact loop_b0 (by assumption) q3 (by assumption) q5 _ rfl rfl rfl rfl | exact loop_b1 (by assumption) q3 (by assumption) q5 _ rfl rfl rfl rfl)) mir_r (by exact rfl) (by exact rfl) (by exact rfl) (by exact rfl) (by exact rfl) (by exact rfl) ?_; k_whole) | (refine loop_ok (pre := [_]) (y1 := _) (Fast.mk ..) (Dyn.mk ..) (by assumption) (by assumption) (by assumption) (by assumption) rgX nP (by assumption) (by (simp only [List.length_take]; omega)) (by dsimp only [rises]; omega) (by assumption) (by assumption) (by first | exact Or.inl ⟨rfl, rfl⟩ | exact Or.inr ⟨rfl, rfl⟩) (by exact rfl) (by (rename ((_ : Int) < 2) => q1); (rename ((_ : Int) < 4) => q3); (rename ((_ : Int) < 3) => q5); (rcases int_two (by assumption) q1 with q1' | q1') <;> (subst q1'; first | exact loop_b0 (by assumption) q3 (by assumption) q5 _ rfl rfl rfl rfl | exact loop_b1 (by assumption) q3 (by assumption) q5 _ rfl rfl rfl rfl)) mir_r (by exact rfl) (by exact rfl) (by exact rfl) (by exact rfl) (by exact rfl) (by exact rfl) ?_; k_whole))); clear nP; intros; (rename News _ _ _ _ => nP); (rename rises _ => rX); (try dsimp only [rises] at rX); (try dsimp only [ledF, List.cons_append, List.nil_append] at nP); (try k_sweep))
  k_go0
  (all_goals try k_fold)
  repeat' (first | (k_unfold; (try dsimp only)) | (k_end; kc_bool; (first | (refine goodW_bool (by with_reducible assumption) (by with_reducible assumption) (raisesW_false ?_) ?_) | (refine goodW_bool (by assumption) (by assumption) (raisesW_false ?_) ?_)); (· wrow_none_raised); (· exact post_t _)) | walk1 | (dsimp only; walk1) | (leave1; walk_say "STEP leave1"; try dsimp only) | fail "no step")
  done)
end
end Mine
set_option maxRecDepth 100000 in
theorem PySem.Challenge.cw_pf0250_01_holds : PySem.Challenge.rw_pf0250_01.Holds :=
  Mine.fin
