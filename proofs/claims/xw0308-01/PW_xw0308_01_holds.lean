import PyProof.Rows.All
import Wide.All
import OpenK.AllK
import Wide.FinOn
import PySem.Challenge.RW_xw0308_01
open PySem PySem.W PyProof.Rows PySem.Calls PySem.Spec
set_option Elab.async false

namespace Mine
set_option maxRecDepth 100000 in
set_option maxHeartbeats 8000000 in
open_top hd for PySem.Challenge.rw_xw0308_01
end Mine

namespace Mine
abbrev hostEs (hv hl hr hw hs hg : Int) (kv kl kr kw ks kg : Tok) (vA rA gA : Addr) (tl tw ts : Tok) (k : Int) : List DictEntry :=
  [⟨hv, .str (Str.ofString "values") kv, .ref vA⟩, ⟨hl, .str (Str.ofString "limit") kl, .int 9999 tl⟩, ⟨hr, .str (Str.ofString "refused") kr, .ref rA⟩,
   ⟨hw, .str (Str.ofString "width") kw, .int 64 tw⟩, ⟨hs, .str (Str.ofString "steps") ks, .int k ts⟩, ⟨hg, .str (Str.ofString "log") kg, .ref gA⟩]
theorem my_notin {prog : Program} {w : World} {A : Around} {E : Value → Shared → Prop} {s : Shared} {K : Frag} {h₀ : Heap} {L a : Addr} {m : Str → Option Value} {l : List Value} {n : Nat} {dd : Option Addr} {sl : Array (Option Value)} {ys : List Str} {x : Str} {u : Tok} {Q : Value → Shared → Prop}
    (F : Fr h₀ L s.heap m) (X₀ : K.In h₀) (hl : K.lookup a = some ⟨.type "tuple", dd, .seq l.toArray n, sl⟩) (hi : StrsAre l ys)
    (h : Q (.bool (!(ys.any (· == x)))) s) : wpAny (model prog w) A (compareOp .NotIn (.str x u) (.ref a)) Q E s :=
  notin_tuple_strs (tupK (X₀.keeps F.keep) hl) (by simpa using hi) h
theorem my_eq_tup_str {prog : Program} {w : World} {A : Around} {E : Value → Shared → Prop} {s : Shared} {a : Addr} {ds : List PyData} {as : List Addr} {x : Str} {u : Tok} {Q : Value → Shared → Prop}
    (ra : Reads s.heap (.ref a) (.tuple ds) as) (ha : SeqAt.shaped (.tuple ds) = true) (hb : SeqAt.shaped (.str x) = true) (hu : A.units + 64 < cLine) (h : Q (.bool false) s) : wpAny (model prog w) A (compareOp .Eq (.ref a) (.str x u)) Q E s :=
  eq_dataH ra (Reads.str _ _) ha hb hu h
inductive Pick (d : Addr) (o : Obj) : List (Addr × Obj) → List (Addr × Obj) → Prop
  | head {r} : Pick d o ((d, o) :: r) r
  | tail {p r r'} : Pick d o r r' → Pick d o (p :: r) (p :: r')
theorem Pick.mem {d : Addr} {o : Obj} {l r : List (Addr × Obj)} (P : Pick d o l r) : ∀ p ∈ (d, o) :: r, p ∈ l := by
  induction P with
  | head => exact fun _ h => h
  | tail _ ih =>
    intro p hp
    rcases List.mem_cons.mp hp with rfl | hp
    · exact .tail _ (ih _ (.head _))
    · rcases List.mem_cons.mp hp with rfl | hp
      · exact .head _
      · exact .tail _ (ih _ (.tail _ hp))
theorem pick3 {h₀ h : Heap} {L d1 d2 d3 : Addr} {o1 o2 o3 : Obj} {l l1 l2 l3 : List (Addr × Obj)} (N : News h₀ L h l) (P2 : Pick d2 o2 l l1) (P1 : Pick d1 o1 l1 l2) (P3 : Pick d3 o3 l2 l3) :
    News h₀ L h ((d1, o1) :: (d2, o2) :: (d3, o3) :: l3) := by
  intro p hp
  apply N
  rcases List.mem_cons.mp hp with rfl | hp
  · exact P2.mem _ (.tail _ (P1.mem _ (.head _)))
  · rcases List.mem_cons.mp hp with rfl | hp
    · exact P2.mem _ (.head _)
    · rcases List.mem_cons.mp hp with rfl | hp
      · exact P2.mem _ (.tail _ (P1.mem _ (.tail _ (P3.mem _ (.head _)))))
      · exact P2.mem _ (.tail _ (P1.mem _ (.tail _ (P3.mem _ (.tail _ hp)))))
theorem pick4 {h₀ h : Heap} {L d1 d2 d3 d4 : Addr} {o1 o2 o3 o4 : Obj} {l l1 l2 l3 l4 : List (Addr × Obj)} (N : News h₀ L h l) (P2 : Pick d2 o2 l l1) (P1 : Pick d1 o1 l1 l2) (P3 : Pick d3 o3 l2 l3) (P4 : Pick d4 o4 l3 l4) :
    News h₀ L h ((d1, o1) :: (d2, o2) :: (d3, o3) :: (d4, o4) :: l4) := by
  have N3 := pick3 N P2 P1 P3
  intro p hp
  apply N3
  rcases List.mem_cons.mp hp with rfl | hp
  · exact .head _
  · rcases List.mem_cons.mp hp with rfl | hp
    · exact .tail _ (.head _)
    · rcases List.mem_cons.mp hp with rfl | hp
      · exact .tail _ (.tail _ (.head _))
      · exact .tail _ (.tail _ (.tail _ (P4.mem _ hp)))
theorem mem_grow {ls r r' : List (Addr × Obj)} {a q : Addr × Obj} (hq : q ∈ ls) (hls : ∀ p ∈ ls, p ∈ a :: r) (hr : ∀ p ∈ r, p ∈ r') : q ∈ a :: r' := by
  rcases List.mem_cons.mp (hls q hq) with rfl | h
  · exact .head _
  · exact .tail _ (hr q h)
theorem allLt_app {d : Addr} {l r : List (Addr × Obj)} (h : AllLt d (l ++ r)) : AllLt d l := by
  induction l with
  | nil => trivial
  | cons q t ih => exact ⟨h.1, ih h.2⟩
theorem mem_app_left {p : Addr × Obj} {l r : List (Addr × Obj)} (h : p ∈ l) : List.Mem p (l ++ r) := List.mem_append_left r h
theorem allLt_rest {d : Addr} {l : List (Addr × Obj)} (h : AllLt d l) : ∀ p ∈ l, p.1 < d := by
  induction l with
  | nil => exact fun _ h => nomatch h
  | cons q r ih =>
    intro p hp
    rcases List.mem_cons.mp hp with rfl | hp
    · exact h.1
    · exact ih h.2 p hp
theorem sub_tail {ls led : List (Addr × Obj)} {a : Addr × Obj} (h : ∀ p ∈ ls, p ∈ led) : ∀ p ∈ ls, p ∈ a :: led := fun p hp => .tail _ (h p hp)
def LamOK (prog : Program) (w : World) (K : Frag) (p : Program) (loose : List Str) (mean : ExcName → Option Value) (mg mb : Str → Option Value) (lm : Addr) (ls : List (Addr × Obj)) (R : Str) : Prop :=
  ∀ (dp un : Nat) (gd : Option (List Code)) (cn : Str) (cs : Scope) (a : Addr) (ccd : Value) (cl : List (Str × Addr)) (outer : List Env) (A₀ : Around) (base h₀ : Heap) (L : Addr) (m : Str → Option Value) (rest : List (Addr × Obj)) (s : Shared) (Q E : Value → Shared → Prop) (v : Value),
    Below A₀ base outer h₀ → Fr h₀ L s.heap m → K.In h₀ → News h₀ L s.heap (ls ++ rest) → Top p loose mean mg mb h₀ → cs.kind = .function → dp + 5 < recursionLimit → un + 100 < cLine →
    (∀ t h' tk', Fr h₀ L h' m → News h₀ L h' (ls ++ rest) → Q (.str R t) { s with heap := h', toks := tk' }) →
    wpAny (model prog w) (ktrTop dp un gd cn cs L a ccd cl outer) (call (.ref lm) [v]) Q E s
theorem lam_use {prog : Program} {w : World} {K : Frag} {p : Program} {loose : List Str} {mean : ExcName → Option Value} {mg mb : Str → Option Value} {lm : Addr} {ls : List (Addr × Obj)} {R : Str}
    {dp un : Nat} {gd : Option (List Code)} {cn : Str} {cs : Scope} {a : Addr} {ccd : Value} {cl : List (Str × Addr)} {outer : List Env} {A₀ : Around} {base h₀ : Heap} {L : Addr} {m : Str → Option Value} {led : List (Addr × Obj)} {s : Shared} {Q E : Value → Shared → Prop} {v : Value}
    (hL : LamOK prog w K p loose mean mg mb lm ls R) (B : Below A₀ base outer h₀) (F : Fr h₀ L s.heap m) (X : K.In h₀) (N : News h₀ L s.heap led) (hs : ∀ p ∈ ls, p ∈ led) (T : Top p loose mean mg mb h₀) (hk : cs.kind = .function) (hd : dp + 5 < recursionLimit) (hu : un + 100 < cLine)
    (ret : ∀ t h' tk', Fr h₀ L h' m → News h₀ L h' led → Q (.str R t) { s with heap := h', toks := tk' }) :
    wpAny (model prog w) (ktrTop dp un gd cn cs L a ccd cl outer) (call (.ref lm) [v]) Q E s := by
  refine hL _ _ _ _ _ _ _ _ _ _ _ _ _ _ led _ _ _ _ B F X (fun q hq => ?_) T hk hd hu fun t h' tk' F' N' => ret t h' tk' F' fun q hq => N' q (List.mem_append_right _ hq)
  rcases List.mem_append.mp hq with h | h
  · exact N q (hs q h)
  · exact N q h
theorem my_iter_nil {prog : Program} {w : World} {A : Around} {E : Value → Shared → Prop} {s : Shared} {env : Env} {h₀ : Heap} {target : Expr} {body : List Stmt} {Q : Flow → Shared → Prop} {ax : Addr} {n : Nat} {m₀ : Str → Option Value} {news : List (Addr × Obj)}
    (hh : A.handled = none) (F : Fr h₀ env.locals s.heap m₀) (N : News h₀ env.locals s.heap news) (hm : (ax, W.listOf #[] n) ∈ news)
    (h : ∀ h' tk, Fr h₀ env.locals h' m₀ → News h₀ env.locals h' news → Q .next { s with heap := h', toks := tk }) :
    wpAny (model prog w) A (pyIter (.ref ax)) (fun it s₂ => TurnsAt prog w A h₀ env target body Q E it s₂) E s :=
  iter_listTurns (vs := []) hh F N hm rfl rfl fun _ _ => h
def onceAt (S T R : Str) (i : Nat) : Str := Txt.slice S none (some (i : Int)) ++ R ++ Txt.slice S (some ((i : Int) + (T.length : Int))) none
def hit (S T : Str) (i : Nat) : Bool := Txt.slice S (some (i : Int)) (some ((i : Int) + (T.length : Int))) == T
theorem hit_of {S T : Str} {kN : Int} {i : Nat} {b : Bool} (e : kN = 0 + (i : Int)) (hc : (Txt.slice S (some kN) (some (kN + (T.length : Int))) == T) = b) : hit S T i = b := by
  have e' : kN = (i : Int) := by omega
  subst e'; exact hc
theorem plain_state {S T : Str} {k n kN : Int} {pre : List Int} (h1 : n = k + (pre.length : Int)) (h2 : ∀ i : Nat, i < pre.length → hit S T i = false) (e : kN = 0 + (pre.length : Int))
    (hc : (Txt.slice S (some kN) (some (kN + (T.length : Int))) == T) = false) : n + 1 = k + ((pre ++ [kN]).length : Int) ∧ ∀ i : Nat, i < (pre ++ [kN]).length → hit S T i = false := by
  refine ⟨by rw [List.length_append]; simp; omega, fun i hi => ?_⟩
  rw [List.length_append] at hi
  simp at hi
  by_cases q : i < pre.length
  · exact h2 i q
  · have : i = pre.length := by omega
    subst this
    exact hit_of e hc
def firstHit (S T : Str) : Option Nat := (List.range (S.length + 1)).find? (hit S T)
def step1 (T R S : Str) : Option Str := (firstHit S T).map (onceAt S T R)
def steps (T R : Str) : Nat → Str → Option Str
  | 0, S => some S
  | n + 1, S => (step1 T R S).bind (steps T R n)
def often (T R : Str) : Nat → Str → Str × Nat
  | 0, S => (S, 0)
  | n + 1, S => match step1 T R S with
    | none => (S, 0)
    | some S1 => ((often T R n S1).1, (often T R n S1).2 + 1)
theorem firstHit_none {S T : Str} (h : ∀ i : Nat, i ≤ S.length → hit S T i = false) : firstHit S T = none := by
  unfold firstHit
  rw [List.find?_eq_none]
  intro i hi
  rw [h i (by have := List.mem_range.mp hi; omega)]
  simp
theorem firstHit_some {S T : Str} {i : Nat} (hi : i ≤ S.length) (h : hit S T i = true) (hp : ∀ j : Nat, j < i → hit S T j = false) : firstHit S T = some i := by
  unfold firstHit
  rw [List.find?_range_eq_some]
  exact ⟨h, List.mem_range.mpr (by omega), fun j hj => by rw [hp j hj]; rfl⟩
theorem steps_snoc {T R : Str} : ∀ (n : Nat) (S : Str), steps T R (n + 1) S = (steps T R n S).bind (step1 T R)
  | 0, S => by simp [steps]
  | n + 1, S => by
    rw [steps]
    cases h : step1 T R S with
    | none => simp [steps, h]
    | some S1 => simp only [Option.bind_some]; rw [steps_snoc n S1]; simp [steps, h]
theorem often_of {T R : Str} : ∀ (c n : Nat) (S S' : Str), steps T R c S = some S' → (c = n ∨ (c ≤ n ∧ step1 T R S' = none)) → often T R n S = (S', c)
  | 0, n, S, S', h, q => by
    simp only [steps, Option.some.injEq] at h
    subst h
    rcases q with rfl | ⟨_, q⟩
    · rfl
    · cases n with
      | zero => rfl
      | succ n => simp [often, q]
  | c + 1, n, S, S', h, q => by
    rw [steps] at h
    cases hs : step1 T R S with
    | none => rw [hs] at h; simp at h
    | some S1 =>
      rw [hs, Option.bind_some] at h
      cases n with
      | zero => rcases q with q | ⟨q, _⟩ <;> omega
      | succ n =>
        have := often_of c n S1 S' h (by rcases q with q | ⟨q, r⟩; exact .inl (by omega); exact .inr ⟨by omega, r⟩)
        simp [often, hs, this]
theorem length_slice_ns (S : Str) (i : Nat) : (Txt.slice S none (some (i : Int))).length ≤ i := by
  have h := fact_slice_ns S (i : Int)
  by_cases q : i ≤ S.length
  · have := h.1 (by omega) (by omega); omega
  · have := h.2 (by omega); omega
theorem length_slice_sn (S : Str) (i : Nat) : (Txt.slice S (some (i : Int)) none).length ≤ S.length - i := by
  have h := fact_slice_sn S (i : Int)
  by_cases q : i ≤ S.length
  · have := h.1 (by omega) (by omega); omega
  · have := h.2 (by omega); omega
theorem length_onceAt {S T R : Str} {i : Nat} (hi : i ≤ S.length) : (onceAt S T R i).length ≤ S.length + R.length := by
  have h1 := length_slice_ns S i
  have h2 := length_slice_sn S (i + T.length)
  unfold onceAt
  rw [show ((i : Int) + (T.length : Int)) = ((i + T.length : Nat) : Int) by omega]
  simp only [Str.length_append]
  omega
def OInv (T R S : Str) (most k : Int) (S1 : Str) (j n : Int) : Prop :=
  0 ≤ j ∧ j ≤ most ∧ steps T R j.toNat S = some S1 ∧ (S1.length : Int) ≤ S.length + 2 * j ∧ k ≤ n ∧ n ≤ k + 100 * j
theorem OInv.start {T R S : Str} {most k : Int} (h : 0 ≤ most) : OInv T R S most k S 0 k := ⟨by omega, h, rfl, by omega, by omega, by omega⟩
theorem OInv.next {T R S S1 : Str} {most k j n n' : Int} {i : Nat} (I : OInv T R S most k S1 j n) (hR : R.length ≤ 2) (hS : (S.length : Int) + 2 * most ≤ 99) (hj : j < most) (hi : i ≤ S1.length) (h : hit S1 T i = true) (hp : ∀ j : Nat, j < i → hit S1 T j = false)
    (hn : n ≤ n') (hn' : n' ≤ n + S1.length + 1) : OInv T R S most k (onceAt S1 T R i) (j + 1) n' := by
  obtain ⟨a, b, c, d, e, f⟩ := I
  refine ⟨by omega, by omega, ?_, ?_, by omega, by omega⟩
  · rw [show (j + 1).toNat = j.toNat + 1 by omega, steps_snoc, c, Option.bind_some, step1, firstHit_some hi h hp]; rfl
  · have := length_onceAt (S := S1) (T := T) (R := R) (i := i) hi
    omega
theorem OInv.stop {T R S S1 : Str} {most k j n : Int} (I : OInv T R S most k S1 j n) (h : ∀ i : Nat, i ≤ S1.length → hit S1 T i = false) : often T R most.toNat S = (S1, j.toNat) := by
  obtain ⟨a, b, c, d, e, f⟩ := I
  exact often_of _ _ _ _ c (.inr ⟨by omega, by rw [step1, firstHit_none h]; rfl⟩)
theorem OInv.full {T R S S1 : Str} {most k j n : Int} (I : OInv T R S most k S1 j n) (h : ¬ j < most) : often T R most.toNat S = (S1, j.toNat) := by
  obtain ⟨a, b, c, d, e, f⟩ := I
  exact often_of _ _ _ _ c (.inl (by omega))
theorem OInv.bounds {T R S S1 : Str} {most k j n : Int} (I : OInv T R S most k S1 j n) (hS : (S.length : Int) + 2 * most ≤ 99) : 0 ≤ j ∧ j ≤ most ∧ S1.length ≤ 99 ∧ k ≤ n ∧ n ≤ k + 100 * j := by
  obtain ⟨a, b, c, d, e, f⟩ := I
  exact ⟨a, b, by omega, e, f⟩
end Mine

namespace Mine
def PPost (h₀ : Heap) (L : Addr) (own news₁ : List (Addr × Obj)) (Rst : (Str → Option Value) → List (Addr × Obj) → Prop) (s₁ : Shared) (Q : Flow → Shared → Prop) (f : Flow) (s₂ : Shared) : Prop :=
  match f with
  | .ret v => Q (.ret v) s₂
  | .brk => Q .next s₂
  | _ => ∃ h' tk m' news', s₂ = { s₁ with heap := h', toks := tk } ∧ Fr h₀ L h' m' ∧ News h₀ L h' (news' ++ own) ∧ news'.map (·.1) = news₁.map (·.1) ∧ Rst m' news'
def PRest (prog : Program) (w : World) (A : Around) (E : Value → Shared → Prop) (h₀ : Heap) (env : Env) (xi xc : Str) (body : List Stmt) (Q : Flow → Shared → Prop) (s : Shared) : List Str → Nat → (Str → Option Value) → List (Addr × Obj) → Prop
  | [], _ => fun m₁ news₁ => ∀ h' tk, Fr h₀ env.locals h' m₁ → News h₀ env.locals h' news₁ → Q .next { s with heap := h', toks := tk }
  | a :: r, i => fun m₁ news₁ => ∀ t u h tk own, OwnOff own (news₁.map (·.1)) → Fr h₀ env.locals h (fun y => if y = xc then some (.str a u) else if y = xi then some (.int i t) else m₁ y) → News h₀ env.locals h (news₁ ++ own) →
      wpAny (model prog w) A (execs body env) (PPost h₀ env.locals own news₁ (PRest prog w A E h₀ env xi xc body Q s r (i + 1)) { s with heap := h, toks := tk } Q) E { s with heap := h, toks := tk }
theorem news_swap {h₀ h : Heap} {L : Addr} {a b : List (Addr × Obj)} (N : News h₀ L h (a ++ b)) : News h₀ L h (b ++ a) := fun p hp => N p (by
  rcases List.mem_append.mp hp with h | h
  · exact List.mem_append_right _ h
  · exact List.mem_append_left _ h)
theorem my_pair {prog : Program} {w : World} {A : Around} {E : Value → Shared → Prop} {s : Shared} {env : Env} {h₀ : Heap} {m : Str → Option Value} {news : List (Addr × Obj)} {as : List Str} {xv : Value} {xi xc : Str} {body : List Stmt} {Q : Flow → Shared → Prop}
    (S : PairSrcL prog w A E h₀ env.locals ItemKind.str as xv s m news) (h : PRest prog w A E h₀ env xi xc body Q s as 0 m news) :
    wpAny (model prog w) A (pyIter xv) (fun it s₂ => PairAt3 prog w A h₀ env xi xc body Q E it s₂) E s := by
  refine S env rfl xi xc body Q (fun i m₁ news₁ => news₁.map (·.1) = news.map (·.1) ∧ PRest prog w A E h₀ env xi xc body Q s (as.drop i) i m₁ news₁) ⟨rfl, h⟩ ?_ ?_
  · rintro i a t v m₁ news₁ _ own ⟨h, tk, rfl⟩ hget hK ⟨_, hJ⟩ ha hoff F₁ N₁
    obtain ⟨u, rfl⟩ := ItemKind.str_is hK
    have hd : as.drop i = a :: as.drop (i + 1) := by
      obtain ⟨hlt, e⟩ := List.getElem?_eq_some_iff.mp hget
      rw [← e, ← List.drop_eq_getElem_cons hlt]
    rw [hd] at hJ
    have off : OwnOff own (news₁.map (·.1)) := by
      intro p hp b hb
      rw [ha] at hb
      obtain ⟨q, hq, rfl⟩ := List.mem_map.mp hb
      exact hoff p hp q hq
    refine wpAny_mono (hJ t u h tk own off F₁ (news_swap N₁)) (fun f s₂ hp => ?_) fun _ _ e => e
    cases f with
    | ret v => exact hp
    | brk => exact hp
    | next =>
      obtain ⟨h', tk', m', news', rfl, F', N', ha', r⟩ := hp
      exact ⟨rfl, h', tk', m', news', rfl, F', news_swap N', ha', ha'.trans ha, r⟩
    | cont =>
      obtain ⟨h', tk', m', news', rfl, F', N', ha', r⟩ := hp
      exact ⟨rfl, h', tk', m', news', rfl, F', news_swap N', ha', ha'.trans ha, r⟩
  · rintro h' tk m' news' F' N' _ ⟨_, r⟩
    rw [List.drop_length] at r
    exact r h' tk F' N'
theorem my_pair2 {prog : Program} {w : World} {A : Around} {E : Value → Shared → Prop} {s : Shared} {env : Env} {h₀ : Heap} {m : Str → Option Value} {news : List (Addr × Obj)} {as : List Str} {a0 : Str} {r : List Str} {xv : Value} {xi xc : Str} {body : List Stmt} {Q : Flow → Shared → Prop}
    (S : PairSrcL prog w A E h₀ env.locals ItemKind.str as xv s m news) (hs : as = a0 :: r)
    (h : ∀ t u h tk own, OwnOff own (news.map (·.1)) → Fr h₀ env.locals h (fun y => if y = xc then some (.str a0 u) else if y = xi then some (.int 0 t) else m y) → News h₀ env.locals h (news ++ own) → KstMark →
      wpAny (model prog w) A (execs body env) (PPost h₀ env.locals own news (PRest prog w A E h₀ env xi xc body Q s r 1) { s with heap := h, toks := tk } Q) E { s with heap := h, toks := tk }) :
    wpAny (model prog w) A (pyIter xv) (fun it s₂ => PairAt3 prog w A h₀ env xi xc body Q E it s₂) E s := my_pair S (by rw [hs]; exact fun t u h' tk own a b c => h t u h' tk own a b c kstMark)
inductive Keep (own : List (Addr × Obj)) : List (Addr × Obj) → List (Addr × Obj) → List (Addr × Obj) → Prop
  | base {r} : Keep own (r ++ own) r r
  | keep {a o o' l n n'} : Keep own l n n' → Keep own ((a, o') :: l) ((a, o) :: n) ((a, o') :: n')
  | drop {p l n n'} : Keep own l n n' → Keep own (p :: l) n n'
theorem Keep.mem {own l n n' : List (Addr × Obj)} (K : Keep own l n n') : (∀ p ∈ n' ++ own, p ∈ l) ∧ n'.map (·.1) = n.map (·.1) := by
  induction K with
  | base => exact ⟨fun _ h => h, rfl⟩
  | keep _ ih =>
    refine ⟨fun p hp => ?_, by rw [List.map_cons, List.map_cons, ih.2]⟩
    rw [List.cons_append] at hp
    rcases List.mem_cons.mp hp with rfl | hp
    · exact .head _
    · exact .tail _ (ih.1 p hp)
  | drop _ ih => exact ⟨fun p hp => .tail _ (ih.1 p hp), ih.2⟩
theorem my_pnext {h₀ : Heap} {L : Addr} {own news₁ : List (Addr × Obj)} {Rst : (Str → Option Value) → List (Addr × Obj) → Prop} {s₁ : Shared} {Q : Flow → Shared → Prop} {h' : Heap} {tk : Nat} {m' : Str → Option Value} {news' led : List (Addr × Obj)}
    (F : Fr h₀ L h' m') (N : News h₀ L h' led) (K : Keep own led news₁ news') (r : Rst m' news') : PPost h₀ L own news₁ Rst s₁ Q .next { s₁ with heap := h', toks := tk } :=
  ⟨h', tk, m', news', rfl, F, fun p hp => N p (K.mem.1 p hp), K.mem.2, r⟩
theorem my_prest1 {prog : Program} {w : World} {A : Around} {E : Value → Shared → Prop} {s : Shared} {env : Env} {h₀ : Heap} {m : Str → Option Value} {news : List (Addr × Obj)} {a1 : Str} {r : List Str} {xi xc : Str} {body : List Stmt} {Q : Flow → Shared → Prop}
    (h : ∀ t u h tk own, OwnOff own (news.map (·.1)) → Fr h₀ env.locals h (fun y => if y = xc then some (.str a1 u) else if y = xi then some (.int 1 t) else m y) → News h₀ env.locals h (news ++ own) → KstMark →
      wpAny (model prog w) A (execs body env) (PPost h₀ env.locals own news (PRest prog w A E h₀ env xi xc body Q s r 2) { s with heap := h, toks := tk } Q) E { s with heap := h, toks := tk }) :
    PRest prog w A E h₀ env xi xc body Q s (a1 :: r) 1 m news := fun t u h' tk own a b c => h t u h' tk own a b c kstMark
theorem my_prest0 {prog : Program} {w : World} {A : Around} {E : Value → Shared → Prop} {s : Shared} {env : Env} {h₀ : Heap} {m : Str → Option Value} {news : List (Addr × Obj)} {xi xc : Str} {body : List Stmt} {Q : Flow → Shared → Prop} {i : Nat}
    (h : ∀ h' tk, Fr h₀ env.locals h' m → News h₀ env.locals h' news → Q .next { s with heap := h', toks := tk }) :
    PRest prog w A E h₀ env xi xc body Q s [] i m news := h
end Mine

namespace Mine
def swapSign (a c b d x : Str) : Str := if x = a then c else if x = b then d else x
section
variable {prog : Program} {w : World} {A : Around} {E : Value → Shared → Prop} {s : Shared} {h₀ : Heap} {L : Addr} {m : Str → Option Value} {env : Env}
/-- a comprehension over a text: what its turns owe -/
def CSrc (prog : Program) (w : World) (A : Around) (h₀ : Heap) (L : Addr) (m : Str → Option Value) (env : Env) (elt : Expr) (x : Str) (scope : Scope) (cl : List (Str × Addr)) (Q : Value → Shared → Prop) (xv : Value) (s₁ : Shared) : Prop :=
  ∃ S t news, xv = .str S t ∧ A.handled = none ∧ Fr h₀ L s₁.heap m ∧ News h₀ L s₁.heap news ∧ S.length ≤ sizeLine ∧
    ∀ g : Heap, LCg.CompRest prog w A h₀ L m env elt x scope cl { s₁ with heap := g } (fun _ => True) (SignAt S) (LCg.FinE h₀ L m { s₁ with heap := g } Q) S.cps.size 0 [] news
theorem strIter_at {h h' : Heap} {I : Addr} {n : String} {x : Str} {t : Tok} {i : Nat} {o : Obj} (st : h.IsStrIter I n x t i) (e : h.get? I = some o) (e' : h'.get? I = some o) : h'.IsStrIter I n x t i := by
  obtain ⟨o', q, r⟩ := st
  rw [e] at q
  cases q
  exact ⟨o, e', r⟩
theorem comp_str {elt iter : Expr} {x : Str} {px : Pos} {scope : Scope} {cl : List (Str × Addr)} {pos : Pos} {Q : Value → Shared → Prop} (_F₀ : Fr h₀ L s.heap m)
    (hclos : closureFor scope env = pure cl) (hcell : ∀ y ∈ scope.names, y.2 ≠ .cell) (hkind : scope.kind = .function)
    (hnames : ∀ y ∈ scope.names, y.2 = .local → scope.names.lookup y.1 = some .local) (hx : scope.names.lookup x = some .local)
    (h : wpAny (model prog w) A (eval iter env) (CSrc prog w A h₀ L m env elt x scope cl Q) E s)
    (hs : ∀ x, foldedSetIterable iter env x = pure x := by intro _; rfl) :
    wpAny (model prog w) A (eval (.ListComp elt [⟨.Name x px, iter, [], 0⟩] scope pos) env) Q E s := by
  rw [eval_ListComp]
  refine wpAny_comprehension_free (use := none) rfl hs hclos hkind hnames (wpAny_mono h (fun xv s₁ h₁ => ?_) fun _ _ e => e)
  obtain ⟨S, t, news, rfl, hh, F, N, hsz, R⟩ := h₁
  have key : ∀ (P : Value → Shared → Prop), (∀ (o : Obj) (St : Nat → Heap → Prop), Walks prog w A s₁.heap.objs.size [s₁.heap.objs.size] [s₁.heap.objs.size] S.cps.size (SignAt S) St → St 0 (s₁.heap.push o) →
      (∀ i h, St i h → ∃ o, h.get? s₁.heap.objs.size = some o) → (∀ i h h' o, St i h → h.get? s₁.heap.objs.size = some o → h'.get? s₁.heap.objs.size = some o → St i h') → P (.ref s₁.heap.objs.size) { s₁ with heap := s₁.heap.push o }) →
      wpAny (model prog w) A (pyIter (.str S t)) P E s₁ := by
    intro P hP
    cases ha : S.cps.all (· < 128)
    · exact wpAny_pyIter_wide ha (hP _ _ (Walks.strWide hh _ S t) ⟨_, Heap.get?_push_size _ rfl, rfl, rfl⟩ (fun i h st => let ⟨o, e, _⟩ := st; ⟨o, e⟩) fun i h h' o st e e' => strIter_at st e e')
    · exact wpAny_pyIter_ascii ha (hP _ _ (Walks.strAscii hh _ S t) ⟨_, Heap.get?_push_size _ rfl, rfl, rfl⟩ (fun i h st => let ⟨o, e, _⟩ := st; ⟨o, e⟩) fun i h h' o st e e' => strIter_at st e e')
  refine key _ fun o St W hst hIo hSt => ?_
  have up : ∀ b o', s₁.heap.get? b = some o' → (s₁.heap.push o).get? b = some o' := fun b o' e => Heap.get?_push_of_some _ e
  refine LCg.block_U W hsz hIo (fun i h h' o nw st e e' _ _ _ => hSt i h h' o st e e') hcell hkind hx hst (fun b hb => ?_) (F.keeps up) (N.grown up) (Nat.ne_of_lt F.ns.lt) (next_is_new F) (fun p hp => Nat.ne_of_lt (Heap.lt_size (N p hp).1)) trivial (R _) ?_
  · rw [List.mem_singleton.mp hb]
    show s₁.heap.objs.size < (s₁.heap.push _).objs.size
    rw [Heap.size_push]; exact Nat.lt_succ_self _
  · intro D C h tk m' ys news' F' N' o1 hn hC₀ hD₀ hCL hDL hCD offC fin
    refine ⟨m', hn, fun h'' hs'' => fin D h'' tk (F'.change hs'' hCL hC₀) (fun p hp => ?_) o1⟩
    refine ⟨hs''.extBut _ _ ?_ (N' p hp).1, (N' p hp).2⟩
    rcases List.mem_cons.mp hp with rfl | hp
    · exact Ne.symm hCD
    · exact offC p hp
/-- the turns of a text: each gives one text by a function of its sign -/
theorem csrc_map {elt : Expr} {x : Str} {scope : Scope} {cl : List (Str × Addr)} {Q : Value → Shared → Prop} {S : Str} {t : Tok} {news : List (Addr × Obj)} {s₁ : Shared} (g : Str → Str)
    (hh : A.handled = none) (F : Fr h₀ L s₁.heap m) (N : News h₀ L s₁.heap news) (hsz : S.length ≤ sizeLine)
    (turn : ∀ (c : Nat) u I oI C oC D m₂ ys h tk (E' : Value → Shared → Prop), c ∈ S.cps.toList → LCg.NsObj oC m₂ → m₂ x = some (.str ⟨#[c]⟩ u) → Fr h₀ L h m → News h₀ L h ((I, oI) :: (C, oC) :: (D, LCg.lst ys) :: news) → LCg.Off3 I C D news → ((@Ne Nat I C) ∧ (@Ne Nat I D) ∧ (@Ne Nat C D)) →
      wpAny (model prog w) A (eval elt (compEnvC scope cl C env)) (LCg.CompEnd h₀ L m { s₁ with heap := h, toks := tk } I oI C oC D (LCg.lst ys) (fun _ => True) (fun y news' => news' = news ∧ ∃ t', y = .str (g ⟨#[c]⟩) t')) E' { s₁ with heap := h, toks := tk })
    (fin : ∀ ys D h tk, StrsAre ys ((signs S).map g) → Fr h₀ L h m → News h₀ L h ((D, LCg.lst ys) :: news) → LCg.Off1 D news → Q (.ref D) { s₁ with heap := h, toks := tk }) :
    CSrc prog w A h₀ L m env elt x scope cl Q (.str S t) s₁ := by
  refine ⟨S, t, news, rfl, hh, F, N, hsz, fun g0 => ?_⟩
  have key : ∀ (j i : Nat) (ys : List Value), i + j = S.cps.size → StrsAre ys (((signs S).take i).map g) → LCg.CompRest prog w A h₀ L m env elt x scope cl { s₁ with heap := g0 } (fun _ => True) (SignAt S) (LCg.FinE h₀ L m { s₁ with heap := g0 } Q) j i ys news := by
    intro j
    induction j with
    | zero =>
      intro i ys hi hy
      have e : i = (signs S).length := by rw [signs_length]; show i = S.cps.size; omega
      rw [e, List.take_length] at hy
      exact LCg.CompRest.zero fun D h tk F' N' o1 => fin ys D h tk hy F' N' o1
    | succ j ih =>
      intro i ys hi hy
      refine LCg.CompRest.succ ?_
      intro v I oI C oC D m₂ h tk E' hv hC hx F N off ne
      obtain ⟨c, u, hc, rfl⟩ := hv
      have hcm : c ∈ S.cps.toList := by
        rw [← Array.getElem?_toList] at hc
        exact List.mem_of_getElem? hc
      refine wpAny_mono (turn c u I oI C oC D m₂ ys h tk E' hcm hC hx F N off ne) (fun y s₂ hq => ?_) fun _ _ e => e
      obtain ⟨h', tk', nw, e, F', N', off', hS, hn, t', rfl⟩ := hq
      subst hn
      refine ⟨h', tk', nw, e, F', N', off', hS, ih (i + 1) _ (by omega) ?_⟩
      have hg : (signs S)[i]? = some ⟨#[c]⟩ := signs_get hc
      rw [List.take_add_one, hg]
      simpa using kct_snoc hy
  exact key _ 0 [] (by omega) (by simp only [List.take_zero, List.map_nil]; exact .nil)
end
theorem same_str_dec (a b : Str) : PySem.Spec.same (.str a) (.str b) = decide (a = b) := by
  by_cases h : a = b
  · subst h; simp [PySem.Spec.same]
  · simp [PySem.Spec.same, h]
theorem flat_str {v : Value} {x : Str} (h : PyProof.V.Flat v (.str x)) : ∃ t, v = .str x t := by
  have r := h {}
  cases r
  exact ⟨_, rfl⟩
theorem repl_val {a b x y c : Str} {v : Value} (hab : a ≠ b)
    (h : PyProof.V.Flat v ((PySem.Spec.lookup (.str c) (PyProof.V.putD (.str b) (.str y) (PyProof.V.putD (.str a) (.str x) []))).getD (.str c))) : ∃ t, v = .str (swapSign a x b y c) t := by
  apply flat_str
  have e : PyProof.V.putD (.str b) (.str y) (PyProof.V.putD (.str a) (.str x) []) = [(.str a, .str x), (.str b, .str y)] := by
    simp [PyProof.V.putD, same_str_dec, hab]
  rw [e] at h
  simp only [PySem.Spec.lookup, same_str_dec] at h
  unfold swapSign
  by_cases h1 : c = a
  · subst h1; simpa using h
  · by_cases h2 : c = b
    · subst h2; simpa [h1, hab, Ne.symm h1] using h
    · simpa [h1, h2, Ne.symm h1, Ne.symm h2] using h
theorem repl_val' {a b x y x' y' c : Str} {v : Value} (hab : a ≠ b) (hx : x' = x) (hy : y' = y)
    (h : PyProof.V.Flat v ((PySem.Spec.lookup (.str c) (PyProof.V.putD (.str b) (.str y') (PyProof.V.putD (.str a) (.str x') []))).getD (.str c))) : ∃ t, v = .str (swapSign a x b y c) t := by
  subst hx; subst hy; exact repl_val hab h
theorem swap_len {a x b y : Str} {n : Nat} (hx : x.length = 1) (hy : y.length = 1) : (swapSign a x b y ⟨#[n]⟩).length = 1 := by
  unfold swapSign
  split
  · exact hx
  · split
    · exact hy
    · rfl
def replStr (a x b y M : Str) : Str := Txt.join (Str.ofString "") ((signs M).map (swapSign a x b y))
theorem my_join {prog : Program} {w : World} {A : Around} {E : Value → Shared → Prop} {s : Shared} {t : Tok} {Q : Value → Shared → Prop} {h₀ : Heap} {L D : Addr} {ys : List Value} {led : List (Addr × Obj)} {a x b y M : Str}
    (N : News h₀ L s.heap led) (hm : (D, LCg.lst ys) ∈ led) (hi : StrsAre ys ((signs M).map (swapSign a x b y))) (hx : x.length = 1) (hy : y.length = 1) (hM : M.length ≤ 1000)
    (h : ∀ t' k, Q (.str (replStr a x b y M) t') { s with toks := k }) : wpAny (model prog w) A (call (.builtin "str.join") [.str (Str.ofString "") t, .ref D]) Q E s := by
  have hl : s.heap.IsList D ys.toArray := ⟨_, (N _ hm).1, rfl, _, rfl⟩
  have e1 : (((signs M).map (swapSign a x b y)).map (·.length)).sum = M.length := by
    rw [List.map_map, ← signs_length]
    have : ∀ l : List Nat, ((l.map fun n => (⟨#[n]⟩ : Str)).map ((·.length) ∘ swapSign a x b y)).sum = (l.map fun n => (⟨#[n]⟩ : Str)).length := by
      intro l
      induction l with
      | nil => rfl
      | cons n r ih =>
        simp only [List.map_cons, List.sum_cons, List.length_cons, Function.comp_apply, swap_len hx hy, List.length_map] at ih ⊢
        omega
    exact this _
  refine join_listW hl (by simpa using hi) (by decide +kernel) ?_ h
  rw [e1, List.length_map, signs_length]
  omega
end Mine

namespace Mine
abbrev tk (S : Str) : List Nat := S.cps.toList
abbrev mk (l : List Nat) : Str := ⟨l.toArray⟩
theorem mk_tk (S : Str) : mk (tk S) = S := rfl
theorem tk_mk (l : List Nat) : tk (mk l) = l := rfl
theorem len_tk (S : Str) : (tk S).length = S.length := Array.length_toList
theorem slice_nat {x : Str} {l u : Option Int} {a b : Nat} (e : Builtin.Str.strSliceIndices l u 1 x.length = sliceRange a b 1) (hb : b ≤ x.length) : Txt.slice x l u = mk (((tk x).drop a).take (b - a)) := by
  unfold Txt.slice
  rw [e, sliceRange_one]
  split
  · rename_i h
    simp only [Bool.and_eq_true, beq_iff_eq, List.length_map, List.length_range] at h
    by_cases h0 : x.length = 0
    · have h1 : (tk x).length = 0 := by rw [len_tk, h0]
      have h2 : tk x = [] := List.length_eq_zero_iff.mp h1
      rw [h2, List.drop_nil, List.take_nil, ← mk_tk x, h2]
    · have ha : a = 0 := by omega
      have hb' : b = (tk x).length := by rw [len_tk]; omega
      rw [ha, hb', List.drop_zero, Nat.sub_zero, List.take_length, mk_tk]
  · rw [pick_run]
theorem slice_ns (x : Str) (i : Nat) : Txt.slice x none (some (i : Int)) = mk ((tk x).take i) := by
  rw [slice_nat (a := 0) (b := min i x.length) (by
    unfold Builtin.Str.strSliceIndices
    simp only [show (1 : Int) > 0 by decide, if_true, if_neg (show ¬ ((i : Int) < 0) by omega)]
    congr 1
    omega) (by omega), List.drop_zero, Nat.sub_zero, ← len_tk]
  have e : (tk x).take (min i (tk x).length) = (tk x).take i := by
    by_cases h : i ≤ (tk x).length
    · rw [Nat.min_eq_left h]
    · rw [Nat.min_eq_right (by omega), List.take_length, List.take_of_length_le (by omega)]
  rw [e]
theorem slice_sn (x : Str) (i : Nat) : Txt.slice x (some (i : Int)) none = mk ((tk x).drop i) := by
  rw [slice_nat (a := min i x.length) (b := x.length) (by
    unfold Builtin.Str.strSliceIndices
    simp only [show (1 : Int) > 0 by decide, if_true, if_neg (show ¬ ((i : Int) < 0) by omega)]
    congr 1
    omega) (by omega), ← len_tk]
  have e : ((tk x).drop (min i (tk x).length)).take ((tk x).length - min i (tk x).length) = (tk x).drop i := by
    by_cases h : i ≤ (tk x).length
    · rw [Nat.min_eq_left h, List.take_of_length_le (by rw [List.length_drop]; omega)]
    · rw [Nat.min_eq_right (by omega), List.drop_length, List.take_nil, List.drop_of_length_le (by omega)]
  rw [e]
theorem slice_ss (x : Str) (i k : Nat) : Txt.slice x (some (i : Int)) (some ((i : Int) + (k : Int))) = mk (((tk x).drop i).take k) := by
  rw [slice_nat (a := min i x.length) (b := min (i + k) x.length) (by
    unfold Builtin.Str.strSliceIndices
    simp only [show (1 : Int) > 0 by decide, if_true, if_neg (show ¬ ((i : Int) < 0) by omega), if_neg (show ¬ ((i : Int) + (k : Int) < 0) by omega)]
    congr 1 <;> omega) (by omega), ← len_tk]
  have e : ((tk x).drop (min i (tk x).length)).take (min (i + k) (tk x).length - min i (tk x).length) = ((tk x).drop i).take k := by
    by_cases h : i ≤ (tk x).length
    · rw [Nat.min_eq_left h]
      by_cases h2 : i + k ≤ (tk x).length
      · rw [Nat.min_eq_left h2, Nat.add_sub_cancel_left]
      · rw [Nat.min_eq_right (show (tk x).length ≤ i + k by omega), List.take_of_length_le (by rw [List.length_drop]; omega), List.take_of_length_le (by rw [List.length_drop]; omega)]
    · rw [Nat.min_eq_right (show (tk x).length ≤ i by omega), List.drop_length, List.take_nil, List.drop_of_length_le (by omega), List.take_nil]
  rw [e]
theorem slice_butlast (x : Str) (h : 1 ≤ x.length) : Txt.slice x none (some (-1)) = mk ((tk x).take (x.length - 1)) := by
  rw [slice_nat (a := 0) (b := x.length - 1) (by
    unfold Builtin.Str.strSliceIndices
    simp only [show (1 : Int) > 0 by decide, if_true, if_pos (show (-1 : Int) < 0 by decide)]
    congr 1
    omega) (by omega), List.drop_zero, Nat.sub_zero]
theorem item_nat (l : List Nat) (i : Nat) (h : i < l.length) : Txt.item (mk l) (i : Int) = mk [l.getD i 0] := by
  unfold Txt.item Txt.charAt seqIndex?
  have hl : (mk l).length = l.length := rfl
  simp only [hl, if_neg (show ¬ ((i : Int) < 0) by omega)]
  have h1 : (decide (0 ≤ (i : Int)) && decide ((i : Int) < (l.length : Int))) = true := by simp; omega
  rw [if_pos h1]
  simp [List.getD_eq_getElem?_getD]
theorem item_last (l : List Nat) (h : 1 ≤ l.length) : Txt.item (mk l) (-1) = mk [l.getD (l.length - 1) 0] := by
  unfold Txt.item Txt.charAt seqIndex?
  have hl : (mk l).length = l.length := rfl
  simp only [hl, if_pos (show (-1 : Int) < 0 by decide)]
  have h1 : (decide (0 ≤ -1 + (l.length : Int)) && decide (-1 + (l.length : Int) < (l.length : Int))) = true := by simp; omega
  rw [if_pos h1]
  have h2 : (-1 + (l.length : Int)).toNat = l.length - 1 := by omega
  simp [List.getD_eq_getElem?_getD, h2]
theorem mk_inj {l r : List Nat} : mk l = mk r ↔ l = r := ⟨fun h => congrArg tk h, fun h => congrArg mk h⟩
theorem mk1_beq (u v : Nat) : (mk [u] == mk [v]) = (u == v) := by
  rw [Bool.eq_iff_iff, beq_iff_eq, beq_iff_eq, mk_inj]
  simp
theorem app_mk (a b : List Nat) : mk a ++ mk b = mk (a ++ b) := by
  apply Str.ext'
  simp [Str.cps_append]
theorem hit_list (S T : Str) (i : Nat) : hit S T i = (((tk S).drop i).take (tk T).length == tk T) := by
  unfold hit
  rw [slice_ss, len_tk, Bool.eq_iff_iff, beq_iff_eq, beq_iff_eq]
  constructor
  · intro h; exact congrArg tk h
  · intro h; rw [h]
def stepL (t r : List Nat) : List Nat → Option (List Nat)
  | [] => if t = [] then some r else none
  | x :: xs => if ((x :: xs).take t.length == t) = true then some (r ++ (x :: xs).drop t.length) else (stepL t r xs).map (x :: ·)
theorem stepL_find (t r : List Nat) : ∀ l : List Nat, ((List.range (l.length + 1)).find? fun i => (l.drop i).take t.length == t).map (fun i => l.take i ++ r ++ l.drop (i + t.length)) = stepL t r l
  | [] => by
    by_cases h : t = []
    · subst h; simp [stepL]
    · have h' : ([] == t) = false := by cases t with | nil => exact absurd rfl h | cons _ _ => rfl
      simp [stepL, h, h']
  | x :: xs => by
    rw [List.range_succ_eq_map, List.find?_cons]
    by_cases h : ((x :: xs).take t.length == t) = true
    · rw [stepL, if_pos h]
      simp only [List.drop_zero, h, Option.map_some, List.take_zero, List.nil_append, Nat.zero_add]
    · rw [stepL, if_neg h, ← stepL_find t r xs]
      simp only [List.drop_zero, h, List.find?_map, Option.map_map]
      congr 1
      funext i
      simp [Function.comp, Nat.succ_eq_add_one, show i + 1 + t.length = (i + t.length) + 1 by omega]
theorem step1_list (T R S : Str) : step1 T R S = (stepL (tk T) (tk R) (tk S)).map mk := by
  unfold step1 firstHit
  rw [← stepL_find, Option.map_map, len_tk]
  have e : hit S T = fun i => ((tk S).drop i).take (tk T).length == tk T := funext fun i => hit_list S T i
  rw [e]
  congr 1
  funext i
  show onceAt S T R i = mk _
  unfold onceAt
  rw [show ((i : Int) + (T.length : Int)) = ((i + T.length : Nat) : Int) by omega, slice_ns, slice_sn, ← len_tk T]
  apply Str.ext'
  simp [Str.cps_append]
def oftenL (t r : List Nat) : Nat → List Nat → List Nat × Nat
  | 0, l => (l, 0)
  | n + 1, l => match stepL t r l with
    | none => (l, 0)
    | some l1 => ((oftenL t r n l1).1, (oftenL t r n l1).2 + 1)
theorem often_list (T R : Str) : ∀ (n : Nat) (S : Str), often T R n S = (mk (oftenL (tk T) (tk R) n (tk S)).1, (oftenL (tk T) (tk R) n (tk S)).2)
  | 0, S => rfl
  | n + 1, S => by
    rw [often, oftenL, step1_list]
    cases h : stepL (tk T) (tk R) (tk S) with
    | none => rfl
    | some l1 =>
      simp only [Option.map_some]
      rw [often_list T R n (mk l1), tk_mk]
theorem swap_list (a x b y n : Nat) : swapSign (mk [a]) (mk [x]) (mk [b]) (mk [y]) ⟨#[n]⟩ = mk [if n = a then x else if n = b then y else n] := by
  have key : ∀ u v : Nat, ((⟨#[u]⟩ : Str) = mk [v]) ↔ u = v := by
    intro u v
    constructor
    · intro h
      have := congrArg tk h
      simpa [tk] using this
    · rintro rfl; rfl
  unfold swapSign
  by_cases h1 : n = a
  · rw [if_pos ((key _ _).mpr h1), if_pos h1]
  · rw [if_neg (fun q => h1 ((key _ _).mp q)), if_neg h1]
    by_cases h2 : n = b
    · rw [if_pos ((key _ _).mpr h2), if_pos h2]
    · rw [if_neg (fun q => h2 ((key _ _).mp q)), if_neg h2]
theorem join_map {α : Type} {g : α → Str} {f : α → List Nat} (hg : ∀ a, g a = mk (f a)) : ∀ l : List α, Txt.join (Str.ofString "") (l.map g) = mk (l.flatMap f) := by
  have e0 : Str.ofString "" = (⟨#[]⟩ : Str) := by decide +kernel
  have j : ∀ l : List Str, Txt.join (Str.ofString "") l = Str.join ⟨#[]⟩ l := fun l => by rw [e0]; exact StrLaws.glued_eq_join _ _
  intro l
  rw [j]
  induction l with
  | nil => rfl
  | cons a r ih =>
    rw [List.map_cons, join_nil_cons, ih, hg, List.flatMap_cons]
    apply Str.ext'
    simp [Str.cps_append]
theorem repl_list (a x b y : Nat) (M : Str) : replStr (mk [a]) (mk [x]) (mk [b]) (mk [y]) M = mk ((tk M).map fun n => if n = a then x else if n = b then y else n) := by
  unfold replStr
  have e : (signs M).map (swapSign (mk [a]) (mk [x]) (mk [b]) (mk [y])) = (tk M).map fun n => mk [if n = a then x else if n = b then y else n] := by
    show ((tk M).map fun n => (⟨#[n]⟩ : Str)).map _ = _
    rw [List.map_map]
    apply List.map_congr_left
    intro n _
    exact swap_list a x b y n
  rw [e, join_map (f := fun n => [if n = a then x else if n = b then y else n]) (fun _ => rfl)]
  congr 1
  have : ∀ (f : Nat → Nat) (l : List Nat), l.flatMap (fun n => [f n]) = l.map f := by
    intro f l
    induction l with
    | nil => rfl
    | cons z r ih => rw [List.flatMap_cons, ih, List.map_cons]; rfl
  rw [this]
end Mine

namespace Mine
/-- the table of a def's codes: nothing made yet, or the one code that stands in the ledger -/
def TabOK (pos : Pos) (qual : Str) (I P : Addr) (ps : Array Value) (tl : List (Addr × Obj)) : Prop :=
  ps = #[] ∨ ∃ c' oc vs t, ps = #[rawInt pos.line, rawInt pos.col, .ref c'] ∧ (c', oc) ∈ tl ∧ oc.data = .fields vs ∧ vs[1]? = some (.str qual t) ∧ c' ≠ I ∧ c' ≠ P
theorem TabOK.mono {pos : Pos} {qual : Str} {I P : Addr} {ps : Array Value} {tl tl' : List (Addr × Obj)} (h : TabOK pos qual I P ps tl) (hs : ∀ p ∈ tl, p ∈ tl') : TabOK pos qual I P ps tl' := by
  rcases h with h | ⟨c', oc, vs, t, a, b, c⟩
  · exact .inl h
  · exact .inr ⟨c', oc, vs, t, a, hs _ b, c⟩
theorem pick1 {h₀ h : Heap} {L d : Addr} {o : Obj} {l l1 : List (Addr × Obj)} (N : News h₀ L h l) (P : Pick d o l l1) : News h₀ L h ((d, o) :: l1) := fun p hp => N p (P.mem p hp)
theorem my_lam {M : Model} {A : Around} {E : Value → Shared → Prop} {s : Shared} {h₀ : Heap} {L a c P : Addr} {m mg mb : Str → Option Value} {cn : Str} {cs : Scope} {ccd : Value} {cl : List (Str × Addr)} {led news' tl : List (Addr × Obj)}
    {p : Program} {loose : List Str} {mean : ExcName → Option Value} {name qual : Str} {params : Arguments} {body : Expr} {scope : Scope} {ps : Array Value} {pos : Pos} {firstLine : Nat} {clos : List (Str × Addr)} {I d : Addr} {Q : Value → Shared → Prop}
    (F : Fr h₀ L s.heap m) (N : News h₀ L s.heap led) (hpick : Pick P (tabObj ps) led news') (T : Top p loose mean mg mb h₀) (C : CodeHd h₀ c P) (hcd : ccd = .ref c)
    (hne : ∀ q ∈ news', q.1 ≠ P) (hT : TabOK pos qual I P ps tl) (htl : ∀ p ∈ tl, p ∈ news') (hI : ∃ o, (I, o) ∈ tl) {od : Obj} {news2 : List (Addr × Obj)} (hd : Pick d od news' news2) (hdt : ∀ p ∈ tl, p.1 ≠ d)
    (hcl : closureFor scope (envX cn cs L a ccd cl) = pure clos)
    (h : ∀ f c' oc vs t ctv h' tk, Fr h₀ L h' m →
      News h₀ L h' ((f, kla_obj name qual params body scope clos ((mg "__name__").getD .none) c' ctv) :: (c', oc) :: (P, tabObj #[rawInt pos.line, rawInt pos.col, .ref c']) :: news') →
      oc.data = .fields vs → vs[1]? = some (.str qual t) → c' ≠ d → c' ≠ I → c' ≠ P → (∀ q ∈ news', q.1 < f) → c' < f → P < f → Q (.ref f) { s with heap := h', toks := tk }) :
    wpAny M A (makeFunction name qual params (.expr body) scope (envX cn cs L a ccd cl) [] [] [] pos firstLine) Q E s := by
  have N1 : News h₀ L s.heap ((P, tabObj ps) :: news') := fun q hq => N q (hpick.mem q hq)
  rcases hT with rfl | ⟨c', oc, vs, t, rfl, hc, h1, h2, h3, h4⟩
  · refine kla_nest F N1 T C hcd (UpdF.head hne) True.intro rfl hcl fun f c' oc vs t ctv h' tk F' N' d1 d2 l1 l2 => ?_
    obtain ⟨oI, hI⟩ := hI
    have q1 : I < c' := l1 _ (List.Mem.tail _ (htl _ hI))
    have q2 : d < c' := l1 _ (List.Mem.tail _ (hd.mem _ (List.Mem.head _)))
    have q3 : P < c' := l1 _ (List.Mem.head _)
    refine h f c' oc vs t ctv h' tk F' N' d1 d2 (Nat.ne_of_gt q2) (Nat.ne_of_gt q1) (Nat.ne_of_gt q3) (fun q hq => Nat.lt_trans (l1 q (List.Mem.tail _ hq)) l2) l2 (Nat.lt_trans q3 l2)
  · refine kla_hit F N1 T C hcd (List.Mem.head _) (by simp [TriplesOk, rawInt]) (by show (if ((pos.line : Int) == (pos.line : Int) && (pos.col : Int) == (pos.col : Int)) = true then _ else _) = _; rw [if_pos (by simp)]) hcl fun f ctv h' tk F' N' l1 => ?_
    refine h f c' oc vs t ctv h' tk F' (fun q hq => ?_) h1 h2 (hdt _ hc) h3 h4 (fun q hq => l1 q (List.Mem.tail _ hq)) (l1 (c', oc) (List.Mem.tail _ (htl _ hc))) (l1 _ (List.Mem.head _))
    rcases List.mem_cons.mp hq with rfl | hq
    · exact N' _ (List.Mem.head _)
    · rcases List.mem_cons.mp hq with rfl | hq
      · exact N' _ (List.Mem.tail _ (List.Mem.tail _ (htl _ hc)))
      · rcases List.mem_cons.mp hq with rfl | hq
        · exact N' _ (List.Mem.tail _ (List.Mem.head _))
        · exact N' _ (List.Mem.tail _ (List.Mem.tail _ hq))
theorem tl_ne {pos : Pos} {qual : Str} {I P : Addr} {ps : Array Value} {tl rest : List (Addr × Obj)} {d : Addr} (_hT : TabOK pos qual I P ps tl) (h : ∀ p ∈ rest, p.1 < d) (hs : ∀ p ∈ tl, p ∈ rest) : ∀ p ∈ tl, p.1 ≠ d :=
  fun p hp => Nat.ne_of_lt (h p (hs p hp))
end Mine

namespace Mine
set_option pp.deepTerms false
set_option pp.deepTerms.threshold 4
set_option pp.maxSteps 3000
set_option maxRecDepth 100000 in
set_option maxHeartbeats 8000000 in
theorem lam_const {prog : Program} {w : World} {K : Frag} {p : Program} {loose : List Str} {mean : ExcName → Option Value} {mg mb : Str → Option Value} {f c' : Addr} {oc : Obj} {vs : Array Value} {t : Tok} {ctv pm : Value} {name qual x : Str} {params : Arguments} {scope : Scope} {R : Str} {k : Nat} {pos : Pos}
    (hoc : oc.data = .fields vs) (hvs : vs[1]? = some (.str qual t))
    (hbind : ∀ v, bindArgs (kla_fn name qual params (.Constant (.str R) k pos) scope [] pm (.ref c') ctv) ⟨[v], []⟩ = pure [(x, v)])
    (hx : scope.names.lookup x = some .local) (hco : scope.isCoroutine = false) (hgen : scope.isGenerator = false) (hkk : scope.kind = .function) (hcell : ∀ y ∈ scope.names, y.2 ≠ .cell) :
    LamOK prog w K p loose mean mg mb f [(f, kla_obj name qual params (.Constant (.str R) k pos) scope [] pm c' ctv), (c', oc)] R := by
  intro dp un gd cn cs a ccd cl outer A₀ base h₀ L m rest s Q E v B F X N T hk hd hu ret
  refine wpAny_call ?_
  refine kla_code B F X N T rfl rfl hk (List.mem_append_left _ (List.Mem.head _)) (codeRec_news N (List.mem_append_left _ (List.Mem.tail _ (List.Mem.head _))) hoc hvs) ?_ (hbind v) (fun y hy => by rw [List.mem_singleton.mp hy]; exact hx) (fun g L' h1 FG F' N' B' X' T' => ?_) hco hgen hkk hcell
  · show dp < recursionLimit
    omega
  (try dsimp only)
  (try k_fold)
  k_steps
  · exact ret _ _ _ (by with_reducible assumption) (by with_reducible assumption)
end Mine

theorem Mine.filled : PySem.Challenge.rw_xw0308_01 = PySem.Challenge.rw_xw0308_01 ∧ Mine.hd.heap_39 = Mine.hd.heap_39 := by
  k_fill
  exact ⟨rfl, rfl⟩
local macro_rules | `(tactic| k_all) => `(tactic| first | assumption | exact fun p9 h9 => Nat.ne_of_lt (Nat.lt_succ_of_lt (kst_ltOf (by simp only [*]) p9 h9)) | exact fun p9 h9 => Nat.ne_of_lt (kst_ltOf (by simp only [*]) p9 h9))
local macro_rules | `(tactic| k_room) => `(tactic| ((simp only [depth_under_make, depth_under_kw, depth_in1, depth_deeper]); (try dsimp only [ktrTop]); omega))
local macro_rules | `(tactic| k_units) => `(tactic| ((have hcL9 := cLine_is); (simp only [units_in1, units_deeper, Around.mark_units]); (try dsimp only [ktrTop]); omega))
local macro_rules | `(tactic| ke_room) => `(tactic| ((have hcL9 := cLine_is); (simp only [units_in1, units_deeper, Around.mark_units]); (try dsimp only [ktrTop]); omega))
local macro_rules | `(tactic| walk_at "compareOp NotIn str ref") => `(tactic| (k_here; (with_reducible show wpAny _ _ (compareOp CmpOp.NotIn (Value.str _ _) (Value.ref _)) _ _ _); k_dflt (refine' Mine.my_notin ?F ?X ?l ?k ?_; (case F => k_asm); (case X => k_asm); (case l => k_is); (case k => kde_strs); k_whole)))
local macro_rules | `(tactic| walk_at "compareOp Eq ref str") => `(tactic| (k_here; (with_reducible show wpAny _ _ (compareOp CmpOp.Eq (Value.ref _) (Value.str _ _)) _ _ _); k_dflt (refine Mine.my_eq_tup_str (by ke_read) (by ke_shaped) (by ke_shaped) (by ke_room) ?_)))
local macro_rules | `(tactic| ktr_rel) => `(tactic| first
  | exact fun _ h => h
  | (refine' List.forall_mem_cons.mpr ⟨?a, ?b⟩; (case a => k_mem); (case b => ktr_rel))
  | (intro p hp; repeat (first | exact hp | exact Mine.mem_app_left hp | refine List.Mem.tail _ ?_)))
local macro_rules | `(tactic| tb_start) => `(tactic| first | exact Mine.Pick.head | (apply Mine.Pick.tail; tb_start))

namespace Mine
section
variable {prog : Program} {w : World} {p : Program} {loose : List Str} {mean : ExcName → Option Value} {mg mb : Str → Option Value}
    {dp un : Nat} {gd : Option (List Code)} {cn : Str} {cs : Scope} {a : Addr} {ccd : Value} {cl : List (Str × Addr)} {outer : List Env} {A₀ : Around} {base h₀ : Heap} {L : Addr} {m : Str → Option Value} {s : Shared} {Q E : Value → Shared → Prop}
    {S T : Str} {at_ : Int} {tS tA t1 t2 : Tok} {c : Nat}
    {hv hl hr hw hs hg : Int} {kv kl kr kw ks kg : Tok} {vA rA gA : Addr} {tl tw ts : Tok} {k : Int} {dx x nd : Addr} {rest : List (Addr × Obj)}
abbrev nodeObj (T : Str) (t1 t2 : Tok) (c : Nat) : Obj := { cls := .type "tuple", data := .seq #[.str (Str.ofString "chars") t1, .str T t2] c }
set_option maxRecDepth 100000 in
set_option maxHeartbeats 8000000 in
theorem c_match_at
    (B : Below A₀ base outer h₀) (F : Fr h₀ L s.heap m) (X : (Mine.hd.heap_39 w.params).In h₀)
    (N : News h₀ L s.heap ((dx, dictOf (hostEs hv hl hr hw hs hg kv kl kr kw ks kg vA rA gA tl tw ts k) 6) :: (x, instObj 215 dx) :: (nd, nodeObj T t1 t2 c) :: rest))
    (hx : x ≠ dx) (hnd : nd ≠ dx) (hrest : ∀ p ∈ rest, p.1 ≠ dx)
    (TT : Top p loose mean mg mb h₀) (hk : cs.kind = .function)
    (hd : dp + 10 < recursionLimit) (hu : un + 200 < cLine) (hS : S.length ≤ 100) (hT : T.length ≤ 100) (_h0 : 0 ≤ at_) (_h1 : at_ ≤ 100) (hk0 : 0 ≤ k) (hk1 : k < 9000)
    (ret0 : (Txt.slice S (some at_) (some (at_ + (T.length : Int))) == T) = false → ∀ ts' h' tk', Fr h₀ L h' m →
      News h₀ L h' ((dx, dictOf (hostEs hv hl hr hw hs hg kv kl kr kw ks kg vA rA gA tl tw ts' (k + 1)) 6) :: (x, instObj 215 dx) :: (nd, nodeObj T t1 t2 c) :: rest) →
      Q .none { s with heap := h', toks := tk' })
    (ret1 : (Txt.slice S (some at_) (some (at_ + (T.length : Int))) == T) = true → ∀ D l u1 u2 c1 c2 ts' h' tk', Fr h₀ L h' m →
      News h₀ L h' ((D, ({ cls := .type "tuple", data := .seq #[.int at_ u1, .int (at_ + (T.length : Int)) u2, .ref l] c1 } : Obj)) :: (l, W.listOf #[] c2) ::
        (dx, dictOf (hostEs hv hl hr hw hs hg kv kl kr kw ks kg vA rA gA tl tw ts' (k + 1)) 6) :: (x, instObj 215 dx) :: (nd, nodeObj T t1 t2 c) :: rest) →
      @LT.lt Nat _ l D → @LT.lt Nat _ dx l → @LT.lt Nat _ x l → @LT.lt Nat _ nd l → AllLt l rest →
      Q (.ref D) { s with heap := h', toks := tk' }) :
    wpAny (model prog w) (ktrTop dp un gd cn cs L a ccd cl outer) (call (.ref 402) [.ref nd, .str S tS, .int at_ tA, .ref x]) Q E s := by
  refine wpAny_call ?_
  k_dflt ktr_enter
  k_steps
  · refine' ret1 (by with_reducible assumption) _ _ _ _ _ _ _ _ _ ?F ?N ?a ?b ?c ?d ?e
    case F => with_reducible assumption
    case N => refine' cb_drop ?h ?i; (case h => with_reducible assumption); (case i => ktr_rel)
    case a => omega
    case b => omega
    case c => omega
    case d => omega
    case e => simp only [*]
  · refine' ret0 (by with_reducible assumption) _ _ _ ?F ?N
    case F => with_reducible assumption
    case N => refine' cb_drop ?h ?i; (case h => with_reducible assumption); (case i => ktr_rel)
end
end Mine

local macro_rules | `(tactic| walk_at "call ref") => `(tactic| (k_here; (with_reducible show wpAny _ _ (call (Value.ref 402) _) _ _ _); k_dflt (refine' Mine.c_match_at ?B ?F ?X (Mine.pick3 ?N ?P1 ?P2 ?P3) ?hx ?hnd ?hrest ?TT ?hk ?hd ?hu ?hS ?hT ?h0 ?h1 ?hk0 ?hk1 (fun hc' ts' h' tk' F' N' => ?_) (fun hc' D' l' u1' u2' c1' c2' ts' h' tk' F' N' l1 l2 l3 l4 l5 => ?_); (case B => k_asm); (case F => k_asm); (case X => k_asm); (case N => k_asm); (case P1 => tb_start); (case P2 => tb_start); (case P3 => tb_start); (case TT => k_asm); (case hk => first | exact rfl | assumption); (case hx => k_ne); (case hnd => k_ne); (case hrest => k_all); (case hd => k_room); (case hu => ke_room); (case hS => omega); (case hT => omega); (case h0 => omega); (case h1 => omega); (case hk0 => omega); (case hk1 => omega); all_goals ((try dsimp only); (try k_fold)))))

namespace Mine
section
variable {prog : Program} {w : World} {p : Program} {loose : List Str} {mean : ExcName → Option Value} {mg mb : Str → Option Value}
    {dp un : Nat} {gd : Option (List Code)} {cn : Str} {cs : Scope} {a : Addr} {ccd : Value} {cl : List (Str × Addr)} {outer : List Env} {A₀ : Around} {base h₀ : Heap} {L : Addr} {m : Str → Option Value} {s : Shared} {Q E : Value → Shared → Prop}
    {S T : Str} {tS t1 t2 : Tok} {c : Nat}
    {hv hl hr hw hs hg : Int} {kv kl kr kw ks kg : Tok} {vA rA gA : Addr} {tl tw ts : Tok} {k : Int} {dx x nd : Addr} {rest : List (Addr × Obj)}
set_option pp.deepTerms false
set_option pp.deepTerms.threshold 4
set_option pp.maxSteps 3000
set_option maxRecDepth 100000 in
set_option maxHeartbeats 8000000 in
theorem c_match_plain
    (B : Below A₀ base outer h₀) (F : Fr h₀ L s.heap m) (X : (Mine.hd.heap_39 w.params).In h₀)
    (N : News h₀ L s.heap ((dx, dictOf (hostEs hv hl hr hw hs hg kv kl kr kw ks kg vA rA gA tl tw ts k) 6) :: (x, instObj 215 dx) :: (nd, nodeObj T t1 t2 c) :: rest))
    (hx : x ≠ dx) (hnd : nd ≠ dx) (hrest : ∀ p ∈ rest, p.1 ≠ dx)
    (TT : Top p loose mean mg mb h₀) (hk : cs.kind = .function)
    (hd : dp + 20 < recursionLimit) (hu : un + 300 < cLine) (hS : S.length ≤ 99) (hT : T.length ≤ 100) (hk0 : 0 ≤ k) (hk1 : k < 8000)
    (ret0 : (∀ i : Nat, i ≤ S.length → hit S T i = false) → ∀ k' ts' h' tk', k ≤ k' → k' ≤ k + S.length + 1 → Fr h₀ L h' m →
      News h₀ L h' ((dx, dictOf (hostEs hv hl hr hw hs hg kv kl kr kw ks kg vA rA gA tl tw ts' k') 6) :: (x, instObj 215 dx) :: (nd, nodeObj T t1 t2 c) :: rest) →
      Q .none { s with heap := h', toks := tk' })
    (ret1 : ∀ i : Nat, i ≤ S.length → hit S T i = true → (∀ j : Nat, j < i → hit S T j = false) → ∀ D l u1 u2 c1 c2 k' ts' h' tk', k ≤ k' → k' ≤ k + S.length + 1 → Fr h₀ L h' m →
      News h₀ L h' ((D, ({ cls := .type "tuple", data := .seq #[.int i u1, .int (i + (T.length : Int)) u2, .ref l] c1 } : Obj)) :: (l, W.listOf #[] c2) ::
        (dx, dictOf (hostEs hv hl hr hw hs hg kv kl kr kw ks kg vA rA gA tl tw ts' k') 6) :: (x, instObj 215 dx) :: (nd, nodeObj T t1 t2 c) :: rest) →
      @LT.lt Nat _ l D → @LT.lt Nat _ dx l → @LT.lt Nat _ x l → @LT.lt Nat _ nd l → AllLt l rest →
      Q (.ref D) { s with heap := h', toks := tk' }) :
    wpAny (model prog w) (ktrTop dp un gd cn cs L a ccd cl outer) (call (.ref 395) [.ref nd, .str S tS, .bool false, .ref x]) Q E s := by
  k_with "pyIter ref" => k_state (fun pre n => n = k + pre.length ∧ ∀ i : Nat, i < pre.length → hit S T i = false) "host.steps"
  k_with "state" => exact Mine.plain_state (by assumption) (by assumption) (by assumption) (by assumption)
  refine wpAny_call ?_
  k_dflt ktr_enter
  k_steps
  · obtain rfl : kN = (kPre.length : Int) := by omega
    refine' ret1 _ ?zi (hit_of (by with_reducible assumption) (by with_reducible assumption)) (by assumption) _ _ _ _ _ _ _ _ _ _ ?zp ?zq ?zF ?zN ?za ?zb ?zc ?zd ?ze
    case zF => with_reducible assumption
    case zN => refine' cb_drop ?zh ?zs; (case zh => with_reducible assumption); (case zs => ktr_rel)
    case zi => omega
    case zp => omega
    case zq => omega
    case za => assumption
    case zb => assumption
    case zc => assumption
    case zd => assumption
    case ze => exact allLt_app (by assumption)
  · simp only [rangeKs_length] at *
    refine' ret0 ?zi _ _ _ _ ?zp ?zq ?zF ?zN
    case zF => with_reducible assumption
    case zN => refine' cb_drop ?zh ?zs; (case zh => with_reducible assumption); (case zs => ktr_rel)
    case zi => intro i hi; apply (by assumption : ∀ i : Nat, i < _ → hit S T i = false); omega
    case zp => omega
    case zq => omega
end
end Mine

local macro_rules | `(tactic| walk_at "call ref") => `(tactic| (k_here; (with_reducible show wpAny _ _ (call (Value.ref 395) _) _ _ _); k_dflt (refine' Mine.c_match_plain ?B ?F ?X (Mine.pick3 ?N ?P1 ?P2 ?P3) ?hx ?hnd ?hrest ?TT ?hk ?hd ?hu ?hS ?hT ?hk0 ?hk1 (fun hz' k' ts' h' tk' kl1' kl2' F' N' => ?_) (fun i' hi' hh' hz' D' l' u1' u2' c1' c2' k' ts' h' tk' kl1' kl2' F' N' l1 l2 l3 l4 l5 => ?_); (case B => k_asm); (case F => k_asm); (case X => k_asm); (case N => k_asm); (case P1 => tb_start); (case P2 => tb_start); (case P3 => tb_start); (case TT => k_asm); (case hk => first | exact rfl | assumption); (case hx => k_ne); (case hnd => k_ne); (case hrest => k_all); (case hd => k_room); (case hu => ke_room); (case hS => omega); (case hT => omega); (case hk0 => omega); (case hk1 => omega); all_goals ((try dsimp only); (try k_fold)))))
local macro_rules | `(tactic| walk_at "callWith ref") => `(tactic| (k_here; k_dflt (refine' callWith_F ?k1 ?_; (case k1 => exact FnAt.of (by k_asm) (by k_mem)); k_whole)))
local macro_rules | `(tactic| walk_at "call ref") => `(tactic| (k_here; ((rename Mine.LamOK _ _ _ _ _ _ _ _ _ _ _ => hLam9); k_dflt (refine' Mine.lam_use hLam9 ?B ?F ?X ?N ?hs ?TT ?hk ?hd ?hu (fun t' h' tk' F' N' => ?_); (case B => k_asm); (case F => k_asm); (case X => k_asm); (case N => k_asm); (case hs => (repeat (first | with_reducible assumption | refine Mine.sub_tail ?_))); (case TT => k_asm); (case hk => first | exact rfl | assumption); (case hd => k_room); (case hu => ke_room); all_goals ((try dsimp only); (try k_fold))))))
local macro_rules | `(tactic| walk_at "exec For Tuple Subscript cons nil") => `(tactic| (k_here; (rename Fr _ _ _ _ => lF'); (with_unfolding_all refine' For_turns lF' ?_; k_whole)))
local macro_rules | `(tactic| walk_at "pyIter ref") => `(tactic| (k_here; (with_reducible show wpAny _ _ (pyIter (Value.ref _)) (fun it s₂ => TurnsAt _ _ _ _ _ _ _ _ _ it s₂) _ _); k_dflt (refine' Mine.my_iter_nil ?hh ?F ?N ?hm (fun h' tk' F' N' => ?_); (case hh => exact rfl); (case F => k_asm); (case N => k_asm); (case hm => k_mem); all_goals ((try dsimp only); (try k_fold)))))

namespace Mine
section
variable {prog : Program} {w : World} {p : Program} {loose : List Str} {mean : ExcName → Option Value} {mg mb : Str → Option Value}
    {dp un : Nat} {gd : Option (List Code)} {cn : Str} {cs : Scope} {a : Addr} {ccd : Value} {cl : List (Str × Addr)} {outer : List Env} {A₀ : Around} {base h₀ : Heap} {L : Addr} {m : Str → Option Value} {s : Shared} {Q E : Value → Shared → Prop}
    {S T R : Str} {tS t1 t2 : Tok} {c : Nat}
    {hv hl hr hw hs hg : Int} {kv kl kr kw ks kg : Tok} {vA rA gA : Addr} {tl tw ts : Tok} {k : Int} {dx x nd lm : Addr} {rest ls : List (Addr × Obj)} {oc : Value} {od : Option Addr} {fd : FuncData} {sl : Array (Option Value)}
set_option pp.deepTerms false
set_option pp.deepTerms.threshold 4
set_option pp.maxSteps 3000
set_option maxRecDepth 100000 in
set_option maxHeartbeats 8000000 in
theorem c_once
    (B : Below A₀ base outer h₀) (F : Fr h₀ L s.heap m) (X : (Mine.hd.heap_39 w.params).In h₀)
    (N : News h₀ L s.heap ((dx, dictOf (hostEs hv hl hr hw hs hg kv kl kr kw ks kg vA rA gA tl tw ts k) 6) :: (x, instObj 215 dx) :: (nd, nodeObj T t1 t2 c) :: (lm, (⟨oc, od, .func fd, sl⟩ : Obj)) :: rest))
    (hx : x ≠ dx) (hnd : nd ≠ dx) (hlm : lm ≠ dx) (hrest : ∀ p ∈ rest, p.1 ≠ dx)
    (hL : LamOK prog w (Mine.hd.heap_39 w.params) p loose mean mg mb lm ls R) (hls : ∀ p ∈ ls, p ∈ (lm, (⟨oc, od, .func fd, sl⟩ : Obj)) :: rest)
    (TT : Top p loose mean mg mb h₀) (hk : cs.kind = .function)
    (hd : dp + 30 < recursionLimit) (hu : un + 400 < cLine) (hS : S.length ≤ 99) (hT : T.length ≤ 100) (hR : R.length ≤ 100) (hk0 : 0 ≤ k) (hk1 : k < 8000)
    (ret0 : (∀ i : Nat, i ≤ S.length → hit S T i = false) → ∀ k' ts' h' tk', k ≤ k' → k' ≤ k + S.length + 1 → Fr h₀ L h' m →
      News h₀ L h' ((dx, dictOf (hostEs hv hl hr hw hs hg kv kl kr kw ks kg vA rA gA tl tw ts' k') 6) :: (x, instObj 215 dx) :: (nd, nodeObj T t1 t2 c) :: (lm, (⟨oc, od, .func fd, sl⟩ : Obj)) :: rest) →
      Q .none { s with heap := h', toks := tk' })
    (ret1 : ∀ i : Nat, i ≤ S.length → hit S T i = true → (∀ j : Nat, j < i → hit S T j = false) → ∀ u k' ts' h' tk', k ≤ k' → k' ≤ k + S.length + 1 → Fr h₀ L h' m →
      News h₀ L h' ((dx, dictOf (hostEs hv hl hr hw hs hg kv kl kr kw ks kg vA rA gA tl tw ts' k') 6) :: (x, instObj 215 dx) :: (nd, nodeObj T t1 t2 c) :: (lm, (⟨oc, od, .func fd, sl⟩ : Obj)) :: rest) →
      Q (.str (onceAt S T R i) u) { s with heap := h', toks := tk' }) :
    wpAny (model prog w) (ktrTop dp un gd cn cs L a ccd cl outer) (call (.ref 42) [.ref 395, .ref nd, .str S tS, .bool false, .ref x, .ref lm]) Q E s := by
  refine wpAny_call ?_
  k_dflt ktr_enter
  k_steps
  · refine' ret0 (by with_reducible assumption) _ _ _ _ (by with_reducible assumption) (by with_reducible assumption) ?zF ?zN
    case zF => with_reducible assumption
    case zN => refine' cb_drop ?zh ?zs; (case zh => with_reducible assumption); (case zs => ktr_rel)
  · refine' ret1 _ ?zi (by with_reducible assumption) (by with_reducible assumption) _ _ _ _ _ (by with_reducible assumption) (by with_reducible assumption) ?zF ?zN
    case zF => with_reducible assumption
    case zN => refine' cb_drop ?zh ?zs; (case zh => with_reducible assumption); (case zs => ktr_rel)
    case zi => with_reducible assumption
end
end Mine

local macro_rules | `(tactic| walk_at "call ref") => `(tactic| (k_here; (with_reducible show wpAny _ _ (call (Value.ref 42) _) _ _ _); (rename Mine.OInv _ _ _ _ _ _ _ _ => hI9); (have hB9 := Mine.OInv.bounds hI9 (by assumption)); k_dflt (refine' Mine.c_once ?B ?F ?X (Mine.pick4 ?N ?P1 ?P2 ?P3 ?P4) ?hx ?hnd ?hlm ?hrest ?hL ?hls ?TT ?hk ?hd ?hu ?hS ?hT ?hR ?hk0 ?hk1 (fun hz' k' ts' h' tk' kl1' kl2' F' N' => ?_) (fun i' hi' hh' hz' u' k' ts' h' tk' kl1' kl2' F' N' => ?_); (case B => k_asm); (case F => k_asm); (case X => k_asm); (case N => k_asm); (case P1 => tb_start); (case P2 => tb_start); (case P3 => tb_start); (case P4 => tb_start); (case TT => k_asm); (case hk => first | exact rfl | assumption); (case hx => k_ne); (case hnd => k_ne); (case hlm => k_ne); (case hL => with_reducible assumption); (case hls => (intro q9 hq9; tb_rel)); (case hrest => k_all); (case hd => k_room); (case hu => ke_room); (case hS => omega); (case hT => omega); (case hR => omega); (case hk0 => omega); (case hk1 => omega); all_goals ((try dsimp only); (try k_fold)))))
local macro_rules | `(tactic| tb_rel) => `(tactic| (refine Mine.mem_grow (by assumption) (by with_reducible assumption) ?_; intro p9 hp9; repeat (first | exact hp9 | exact Mine.mem_app_left hp9 | refine List.Mem.tail _ ?_)))

namespace Mine
section
variable {prog : Program} {w : World} {p : Program} {loose : List Str} {mean : ExcName → Option Value} {mg mb : Str → Option Value}
    {dp un : Nat} {gd : Option (List Code)} {cn : Str} {cs : Scope} {a : Addr} {ccd : Value} {cl : List (Str × Addr)} {outer : List Env} {A₀ : Around} {base h₀ : Heap} {L : Addr} {m : Str → Option Value} {s : Shared} {Q E : Value → Shared → Prop}
    {S T R : Str} {most : Int} {tS tm t1 t2 : Tok} {c : Nat}
    {hv hl hr hw hs hg : Int} {kv kl kr kw ks kg : Tok} {vA rA gA : Addr} {tl tw ts : Tok} {k : Int} {dx x nd lm : Addr} {rest ls : List (Addr × Obj)} {oc : Value} {od : Option Addr} {fd : FuncData} {sl : Array (Option Value)}
set_option pp.deepTerms false
set_option pp.deepTerms.threshold 4
set_option pp.maxSteps 3000
set_option maxRecDepth 100000 in
set_option maxHeartbeats 8000000 in
theorem c_often
    (B : Below A₀ base outer h₀) (F : Fr h₀ L s.heap m) (X : (Mine.hd.heap_39 w.params).In h₀)
    (N : News h₀ L s.heap ((dx, dictOf (hostEs hv hl hr hw hs hg kv kl kr kw ks kg vA rA gA tl tw ts k) 6) :: (x, instObj 215 dx) :: (nd, nodeObj T t1 t2 c) :: (lm, (⟨oc, od, .func fd, sl⟩ : Obj)) :: rest))
    (hx : x ≠ dx) (hnd : nd ≠ dx) (hlm : lm ≠ dx) (hrest : ∀ p ∈ rest, p.1 ≠ dx)
    (hL : LamOK prog w (Mine.hd.heap_39 w.params) p loose mean mg mb lm ls R) (hls : ∀ p ∈ ls, p ∈ (lm, (⟨oc, od, .func fd, sl⟩ : Obj)) :: rest)
    (TT : Top p loose mean mg mb h₀) (hk : cs.kind = .function)
    (hd : dp + 40 < recursionLimit) (hu : un + 500 < cLine) (hS : (S.length : Int) + 2 * most ≤ 99) (hT : T.length ≤ 100) (hR : R.length ≤ 2) (hm0 : 0 ≤ most) (hk0 : 0 ≤ k) (hk1 : k < 100)
    (ret : ∀ S' (j : Int), often T R most.toNat S = (S', j.toNat) → 0 ≤ j → j ≤ most → S'.length ≤ 99 → ∀ D u1 u2 c1 k' ts' h' tk', Fr h₀ L h' m →
      News h₀ L h' ((D, ({ cls := .type "tuple", data := .seq #[.str S' u1, .int j u2] c1 } : Obj)) :: (dx, dictOf (hostEs hv hl hr hw hs hg kv kl kr kw ks kg vA rA gA tl tw ts' k') 6) :: (x, instObj 215 dx) :: (nd, nodeObj T t1 t2 c) :: (lm, (⟨oc, od, .func fd, sl⟩ : Obj)) :: rest) →
      @LT.lt Nat _ dx D → @LT.lt Nat _ x D → @LT.lt Nat _ nd D → @LT.lt Nat _ lm D → AllLt D rest →
      Q (.ref D) { s with heap := h', toks := tk' }) :
    wpAny (model prog w) (ktrTop dp un gd cn cs L a ccd cl outer) (call (.ref 49) [.ref 395, .ref nd, .str S tS, .bool false, .ref x, .ref lm, .int most tm]) Q E s := by
  k_with "exec While Compare cons nil" => k_while_given [] (fun _ S1 j n => OInv T R S most k S1 j n) (fun _ S1 j n => (most - j).toNat) "subject" "many" "host.steps"
  k_with "state" => first | exact Mine.OInv.start (by assumption) | exact Mine.OInv.next (by with_reducible assumption) (by with_reducible assumption) (by with_reducible assumption) (by omega) (by with_reducible assumption) (by with_reducible assumption) (by with_reducible assumption) (by with_reducible assumption) (by with_reducible assumption)
  refine wpAny_call ?_
  k_dflt ktr_enter
  k_steps
  · rename OInv _ _ _ _ _ _ _ _ => hI
    have hB := hI.bounds hS
    refine' ret _ _ (hI.stop (by with_reducible assumption)) hB.1 hB.2.1 hB.2.2.1 _ _ _ _ _ _ _ _ ?zF ?zN ?za ?zb ?zc ?zd ?ze
    case zF => with_reducible assumption
    case zN => refine' cb_drop ?zh ?zs; (case zh => with_reducible assumption); (case zs => ktr_rel)
    case za => omega
    case zb => omega
    case zc => omega
    case zd => omega
    case ze => simp only [*]
  · rename OInv _ _ _ _ _ _ _ _ => hI
    have hB := hI.bounds hS
    refine' ret _ _ (hI.full (by omega)) hB.1 hB.2.1 hB.2.2.1 _ _ _ _ _ _ _ _ ?zF ?zN ?za ?zb ?zc ?zd ?ze
    case zF => with_reducible assumption
    case zN => refine' cb_drop ?zh ?zs; (case zh => with_reducible assumption); (case zs => ktr_rel)
    case za => omega
    case zb => omega
    case zc => omega
    case zd => omega
    case ze => simp only [*]
end
end Mine

local macro_rules | `(tactic| walk_at "pyIter ref") => `(tactic| (k_here; (with_reducible show wpAny _ _ _ (fun it s₂ => PairAt3 _ _ _ _ _ _ _ _ _ _ it s₂) _ _); (rename PairSrcL _ _ _ _ _ _ _ _ _ _ _ _ => hS9); k_dflt (refine' Mine.my_pair2 hS9 (a0 := Str.ofString "a") (r := [Str.ofString "b"]) ?hs (fun t' u' h' tk' own' off' F' N' mk' => ?_); (case hs => exact rfl)); (try simp only [List.cons_append] at N'); (try dsimp only); (try k_fold)))
local macro_rules | `(tactic| walk_at "PPost") => `(tactic| (k_dflt (refine' Mine.my_pnext ?F ?N ?K ?_; (case F => k_asm); (case N => k_asm); (case K => tb_rel)); first | (refine' Mine.my_prest1 (fun t' u' h' tk' own' off' F' N' mk' => ?_); (try simp only [List.cons_append] at N'); (try dsimp only); (try k_fold)) | (refine' Mine.my_prest0 (fun h' tk' F' N' => ?_); (try dsimp only); (try k_fold))))
local macro_rules | `(tactic| tb_rel) => `(tactic| first | exact Mine.Keep.base | (apply Mine.Keep.keep; tb_rel) | (apply Mine.Keep.drop; tb_rel))
local macro_rules | `(tactic| walk_at "eval ListComp") => `(tactic| (k_here; (with_reducible show wpAny _ _ (eval (Expr.ListComp (Expr.Call (Expr.Attribute (Expr.Name _ _) _ _) _ _ _) _ _ _) _) _ _ _); k_dflt (refine Mine.comp_str (_F₀ := by k_asm) (by with_unfolding_all rfl) (by decide) (by rfl) (by decide) (by rfl) ?_)))
local macro_rules | `(tactic| walk_at "CSrc") => `(tactic| (k_here; k_dflt (refine' Mine.csrc_map (Mine.swapSign (Str.ofString "a") (Str.ofString "0") (Str.ofString "b") (Str.ofString "1")) ?hh ?F ?N ?hz (fun c' u' I' oI' C' oC' D' m' ys' h' tk' E' hcm' hC' hx' F' N' off' ne' => ?_) (fun ys' D' h' tk' hys' F' N' o1' => ?_); (case hh => exact rfl); (case F => k_asm); (case N => k_asm); (case hz => size_fits)); all_goals ((try dsimp only); (try k_fold))))
local macro_rules | `(tactic| walk_at "call builtin:str.join") => `(tactic| (k_here; k_dflt (refine' Mine.my_join ?N ?hm ?hi ?hx ?hy ?hM (fun t' k' => ?_); (case N => k_asm); (case hm => k_mem); (case hi => with_reducible assumption); (case hx => decide +kernel); (case hy => decide +kernel); (case hM => omega)); (try dsimp only)))
local macro_rules | `(tactic| walk_at "CompEnd") => `(tactic| (k_dflt (refine' LCg.CompEnd.intro ?F ?N _ ?sub ?off trivial ⟨rfl, Mine.repl_val' ?ab ?xe ?ye ?v⟩; (case F => k_asm); (case N => k_asm); (case sub => ktr_rel); (case off => with_reducible assumption); (case v => with_reducible assumption); (case ab => decide +kernel); (case xe => decide +kernel); (case ye => decide +kernel))))
local macro_rules | `(tactic| walk_at "leaving") => `(tactic| (exfalso; (have hl9 : (Str.ofString "01").length = 2 := by decide +kernel); omega))

namespace Mine
section
variable {prog : Program} {w : World} {p : Program} {loose : List Str} {mean : ExcName → Option Value} {mg mb : Str → Option Value}
    {dp un : Nat} {gd : Option (List Code)} {cn : Str} {cs : Scope} {a : Addr} {ccd : Value} {cl : List (Str × Addr)} {outer : List Env} {A₀ : Around} {base h₀ : Heap} {L : Addr} {m : Str → Option Value} {s : Shared} {Q E : Value → Shared → Prop}
    {M : Str} {wd : Value} {tS t1 t2 : Tok} {c : Nat} {al : Addr} {rest : List (Addr × Obj)}
set_option pp.deepTerms false
set_option pp.deepTerms.threshold 4
set_option pp.maxSteps 3000
set_option maxRecDepth 100000 in
set_option maxHeartbeats 8000000 in
theorem c_repl
    (B : Below A₀ base outer h₀) (F : Fr h₀ L s.heap m) (X : (Mine.hd.heap_39 w.params).In h₀)
    (N : News h₀ L s.heap ((al, W.listOf #[.str M tS, .str (Str.ofString "ab") t1, .str (Str.ofString "01") t2] c) :: rest))
    (TT : Top p loose mean mg mb h₀) (hk : cs.kind = .function)
    (hd : dp + 40 < recursionLimit) (hu : un + 500 < cLine) (hM : M.length ≤ 99)
    (ret : ∀ u h' tk', Fr h₀ L h' m → News h₀ L h' ((al, W.listOf #[.str M tS, .str (Str.ofString "ab") t1, .str (Str.ofString "01") t2] c) :: rest) → Q (.str (replStr (Str.ofString "a") (Str.ofString "0") (Str.ofString "b") (Str.ofString "1") M) u) { s with heap := h', toks := tk' }) :
    wpAny (model prog w) (ktrTop dp un gd cn cs L a ccd cl outer) (call (.ref 238) [wd, .ref al]) Q E s := by
  refine wpAny_call ?_
  k_dflt ktr_enter
  k_steps
  · refine' ret _ _ _ ?zF ?zN
    case zF => with_reducible assumption
    case zN => refine' cb_drop ?zh ?zs; (case zh => with_reducible assumption); (case zs => ktr_rel)
end
end Mine

local macro_rules | `(tactic| walk_at "subscriptTail Name BinOp str int") => `(tactic| ((with_reducible show wpAny _ _ (subscriptTail _ _ (Value.str _ _) (Value.int (Int.fmod _ _) _)) _ _ _); refine item_str_fmod (by omega) (by omega) (by omega) ?_; intro _))

namespace Mine
def isSign (R : Str) (i : Int) (c : Str) : Bool := Txt.item R i == c
def dueSign (R : Str) (i : Int) : Str :=
  if (isSign R i (Str.ofString "0") = true ∧ isSign R (i - 1) (Str.ofString "1") = true) ∨ (isSign R i (Str.ofString "1") = true ∧ isSign R (Int.fmod (i + 1) R.length) (Str.ofString "1") = true) then Str.ofString "1" else Str.ofString "0"
def dueUpTo (R : Str) : Nat → Str
  | 0 => Str.ofString ""
  | n + 1 => dueUpTo R n ++ dueSign R n
theorem due_len {R : Str} : ∀ n, (dueUpTo R n).length = n
  | 0 => by rw [dueUpTo]; decide +kernel
  | n + 1 => by
    have h1 : (Str.ofString "1").length = 1 := by decide +kernel
    have h0 : (Str.ofString "0").length = 1 := by decide +kernel
    rw [dueUpTo, Str.length_append, due_len n]
    unfold dueSign
    split <;> omega
theorem due_w1 {R : Str} {kN : Int} (h1 : (Txt.item R kN == Str.ofString "0") = true) (h2 : (Txt.item R (kN - 1) == Str.ofString "1") = true) : Str.ofString "1" = dueSign R kN := by
  unfold dueSign isSign
  simp only [h1, h2]
  simp
theorem due_w2 {R : Str} {kN : Int} (h1 : (Txt.item R kN == Str.ofString "0") = true) (h2 : (Txt.item R (kN - 1) == Str.ofString "1") = false) (h3 : (Txt.item R kN == Str.ofString "1") = true) (h4 : (Txt.item R (Int.fmod (kN + 1) (R.length : Int)) == Str.ofString "1") = true) : Str.ofString "1" = dueSign R kN := by
  unfold dueSign isSign
  simp only [h1, h2, h3, h4]
  simp
theorem due_w3 {R : Str} {kN : Int} (h1 : (Txt.item R kN == Str.ofString "0") = true) (h2 : (Txt.item R (kN - 1) == Str.ofString "1") = false) (h3 : (Txt.item R kN == Str.ofString "1") = true) (h4 : (Txt.item R (Int.fmod (kN + 1) (R.length : Int)) == Str.ofString "1") = false) : Str.ofString "0" = dueSign R kN := by
  unfold dueSign isSign
  simp only [h1, h2, h3, h4]
  simp
theorem due_w4 {R : Str} {kN : Int} (h1 : (Txt.item R kN == Str.ofString "0") = true) (h2 : (Txt.item R (kN - 1) == Str.ofString "1") = false) (h3 : (Txt.item R kN == Str.ofString "1") = false) : Str.ofString "0" = dueSign R kN := by
  unfold dueSign isSign
  simp only [h1, h2, h3]
  simp
theorem due_w5 {R : Str} {kN : Int} (h1 : (Txt.item R kN == Str.ofString "0") = false) (h2 : (Txt.item R kN == Str.ofString "1") = true) (h3 : (Txt.item R (Int.fmod (kN + 1) (R.length : Int)) == Str.ofString "1") = true) : Str.ofString "1" = dueSign R kN := by
  unfold dueSign isSign
  simp only [h1, h2, h3]
  simp
theorem due_w6 {R : Str} {kN : Int} (h1 : (Txt.item R kN == Str.ofString "0") = false) (h2 : (Txt.item R kN == Str.ofString "1") = true) (h3 : (Txt.item R (Int.fmod (kN + 1) (R.length : Int)) == Str.ofString "1") = false) : Str.ofString "0" = dueSign R kN := by
  unfold dueSign isSign
  simp only [h1, h2, h3]
  simp
theorem due_w7 {R : Str} {kN : Int} (h1 : (Txt.item R kN == Str.ofString "0") = false) (h2 : (Txt.item R kN == Str.ofString "1") = false) : Str.ofString "0" = dueSign R kN := by
  unfold dueSign isSign
  simp only [h1, h2]
  simp
theorem due_next {R due c : Str} {kN : Int} {pre : List Int} (h1 : due = dueUpTo R pre.length) (e : kN = 0 + (pre.length : Int)) (hc : c = dueSign R kN) :
    due ++ c = dueUpTo R (pre ++ [kN]).length ∧ (due ++ c).length = (pre ++ [kN]).length := by
  have e' : kN = (pre.length : Int) := by omega
  have : due ++ c = dueUpTo R (pre ++ [kN]).length := by
    rw [List.length_append, List.length_singleton, dueUpTo, h1, hc, e']
  exact ⟨this, by rw [this, due_len]⟩
section
variable {prog : Program} {w : World} {p : Program} {loose : List Str} {mean : ExcName → Option Value} {mg mb : Str → Option Value}
    {dp un : Nat} {gd : Option (List Code)} {cn : Str} {cs : Scope} {a : Addr} {ccd : Value} {cl : List (Str × Addr)} {outer : List Env} {A₀ : Around} {base h₀ : Heap} {L : Addr} {m : Str → Option Value} {s : Shared} {Q E : Value → Shared → Prop}
    {R : Str} {tS : Tok} {rest : List (Addr × Obj)}
set_option pp.deepTerms false
set_option pp.deepTerms.threshold 8
set_option pp.maxSteps 3000
set_option maxRecDepth 100000 in
set_option maxHeartbeats 8000000 in
theorem c_due
    (B : Below A₀ base outer h₀) (F : Fr h₀ L s.heap m) (X : (Mine.hd.heap_39 w.params).In h₀)
    (N : News h₀ L s.heap rest)
    (TT : Top p loose mean mg mb h₀) (hk : cs.kind = .function)
    (hd : dp + 40 < recursionLimit) (hu : un + 500 < cLine) (h1 : 1 ≤ R.length) (hR : R.length ≤ 99)
    (ret : ∀ u h' tk', Fr h₀ L h' m → News h₀ L h' rest → Q (.str (dueUpTo R R.length) u) { s with heap := h', toks := tk' }) :
    wpAny (model prog w) (ktrTop dp un gd cn cs L a ccd cl outer) (call (.ref 473) [.str R tS]) Q E s := by
  refine wpAny_call ?_
  k_dflt ktr_enter
  k_with "state" => first | exact ⟨rfl, by decide +kernel⟩ | exact due_next (by with_reducible assumption) (by with_reducible assumption) (by first | exact due_w1 (by with_reducible assumption) (by with_reducible assumption) | exact due_w2 (by with_reducible assumption) (by with_reducible assumption) (by with_reducible assumption) (by with_reducible assumption) | exact due_w3 (by with_reducible assumption) (by with_reducible assumption) (by with_reducible assumption) (by with_reducible assumption) | exact due_w4 (by with_reducible assumption) (by with_reducible assumption) (by with_reducible assumption) | exact due_w5 (by with_reducible assumption) (by with_reducible assumption) (by with_reducible assumption) | exact due_w6 (by with_reducible assumption) (by with_reducible assumption) (by with_reducible assumption) | exact due_w7 (by with_reducible assumption) (by with_reducible assumption))
  iterate 30 (first | ((with_reducible show wpAny _ _ (pyIter (Value.ref _)) _ _ _)) | (k_unfold; (try dsimp only)) | (k_end; wrow_close) | walk1 | (dsimp only; walk1))
  k_state (fun pre due => due = dueUpTo R pre.length ∧ due.length = pre.length) "due"
  all_goals k_steps
  · rename _ = dueUpTo R _ => hD
    rw [rangeKs_length, show ((R.length : Int) - 0).toNat = R.length by omega] at hD
    rw [hD]
    exact ret _ _ _ (by with_reducible assumption) (by with_reducible assumption)
end
end Mine

namespace Mine
theorem two_cells {vs : List Value} {f : Int → Int} {xs : List Int} {a b : Int} (h : IntsAre vs ((xs.take 2).map f ++ [a, b].drop ((((xs.take 2).length : Nat) : Int).toNat))) : ∃ c0 c1 t0 t1, vs = [.int c0 t0, .int c1 t1] := by
  have key : ∀ {x y : Int}, IntsAre vs [x, y] → ∃ c0 c1 t0 t1, vs = [.int c0 t0, .int c1 t1] := by
    intro x y q
    obtain ⟨t, vs', rfl, q1⟩ := q.cons_inv
    obtain ⟨u, vs'', rfl, q2⟩ := q1.cons_inv
    obtain rfl := q2.nil_inv
    exact ⟨_, _, _, _, rfl⟩
  rcases xs with _ | ⟨x, _ | ⟨y, r⟩⟩
  · exact key h
  · exact key h
  · exact key h
section
variable {prog : Program} {w : World} {A : Around} {E : Value → Shared → Prop} {s : Shared}
theorem store_size {env : Env} {y : Str} {x : Int} {t : Tok} {Q : Unit → Shared → Prop}
    (h : ∀ n : Int, 2 ≤ n → n ≤ 7 → wpAny (model prog w) A (storeName env y (.int n t)) Q E s) : wpAny (model prog w) A (storeName env y (.int (2 + Int.fmod x 6) t)) Q E s := by
  have h0 := fmod_lo x (n := 6) (by decide)
  have h1 := fmod_hi x (n := 6) (by decide)
  exact h _ (by omega) (by omega)
theorem turn_hi {k n : Int} (hk : k < 0 + (((n - 0).toNat : Nat) : Int)) (hn : n ≤ 7) : k ≤ 6 := by omega
theorem pow_turn {k n : Int} {t u : Tok} {Q : Value → Shared → Prop} (h0 : 0 ≤ k) (hk : k < 0 + (((n - 0).toNat : Nat) : Int)) (hn : n ≤ 7) (h : k ≤ 6 → Q (.int (2 ^ k.toNat) s.toks) { s with toks := s.toks + 1 }) :
    wpAny (model prog w) A (binaryOp .Pow (.int 2 t) (.int k u)) Q E s := by
  have q := turn_hi hk hn
  exact pow_int_small h0 (by omega) (by decide) (h q)
theorem div_turn {a k : Int} {t u : Tok} {Q : Value → Shared → Prop} (h6 : k ≤ 6) (h : Q (.int (a.fdiv (2 ^ k.toNat)) s.toks) { s with toks := s.toks + 1 }) :
    wpAny (model prog w) A (binaryOp .FloorDiv (.int a t) (.int (2 ^ k.toNat) u)) Q E s :=
  floordiv_int (Int.ne_of_gt (pow_pos_of (by decide) _)) h (Or.inl (PyProof.noPylong_of_log2 (kbt_py (by omega))))
end
end Mine

namespace Mine
section
variable {prog : Program} {w : World} {p : Program} {loose : List Str} {mean : ExcName → Option Value} {mg mb : Str → Option Value}
    {dp un : Nat} {gd : Option (List Code)} {cn : Str} {cs : Scope} {a : Addr} {ccd : Value} {cl : List (Str × Addr)} {outer : List Env} {A₀ : Around} {base h₀ : Heap} {L : Addr} {m : Str → Option Value} {s : Shared} {Q E : Value → Shared → Prop}
    {rest : List (Addr × Obj)}
set_option pp.deepTerms false
set_option pp.deepTerms.threshold 4
set_option pp.maxSteps 3000
set_option maxRecDepth 100000 in
set_option maxHeartbeats 8000000 in
theorem c_world
    (B : Below A₀ base outer h₀) (F : Fr h₀ L s.heap m) (X : (Mine.hd.heap_39 w.params).In h₀)
    (N : News h₀ L s.heap rest)
    (TT : Top p loose mean mg mb h₀) (hk : cs.kind = .function)
    (hd : dp + 40 < recursionLimit) (hu : un + 500 < cLine)
    (ret : ∀ x h' tk', Fr h₀ L h' m → News h₀ L h' rest → Q (.ref x) { s with heap := h', toks := tk' }) :
    wpAny (model prog w) (ktrTop dp un gd cn cs L a ccd cl outer) (call (.ref 462) []) Q E s := by
  k_dflt (refine' call_cls ?k1 ?k2 ?k3 ?k4 ?k5 ?k6 ?_; (case k1 => k_asm); (case k2 => k_asm); (case k3 => k_asm); (case k4 => k_is); (case k5 => k_is); (case k6 => k_is); k_whole; intro x' d' h' F' N' l1 l2; (try k_lt l1); (try k_lt2 l2); (try k_sweep))
  k_dflt (refine' code_def ?k1 ?k2 ?k3 ?k4 ?k5 ?kA ?kF ?kK ?k6 ?k7 ?k8 ?k9 ?kB ?_ ?c2 ?c3 ?c4 ?c5; (case kA => exact rfl); (case kF => exact rfl); (case kK => assumption); (case k1 => k_asm); (case k2 => k_asm); (case k3 => k_asm); (case k4 => k_asm); (case k5 => k_asm); (case k6 => k_is); (case k7 => k_is); (case k8 => k_room); (case k9 => exact binds_K (by k_in) rfl (by k_is) rfl rfl rfl); (case c5 => decide); (case kB => exact locs rfl); (case c2 => exact rfl); (case c3 => exact rfl); (case c4 => exact rfl); k_whole; intro g' L' h' FG' F' N' B' X' T'; (try dsimp only); (try k_fold))
  k_steps
  · refine' ret _ _ _ ?zF ?zN
    case zF => with_reducible assumption
    case zN => refine' cb_drop ?zh ?zs; (case zh => with_reducible assumption); (case zs => ktr_rel)
end
end Mine

namespace Mine
section
variable {prog : Program} {w : World} {p : Program} {loose : List Str} {mean : ExcName → Option Value} {mg mb : Str → Option Value}
    {dp un : Nat} {gd : Option (List Code)} {cn : Str} {cs : Scope} {a : Addr} {ccd : Value} {cl : List (Str × Addr)} {outer : List Env} {A₀ : Around} {base h₀ : Heap} {L : Addr} {m : Str → Option Value} {s : Shared} {Q E : Value → Shared → Prop}
    {rest : List (Addr × Obj)} {vA rA : Addr} {tl : Tok}
set_option pp.deepTerms false
set_option pp.deepTerms.threshold 4
set_option pp.maxSteps 3000
set_option maxRecDepth 100000 in
set_option maxHeartbeats 8000000 in
theorem c_host
    (B : Below A₀ base outer h₀) (F : Fr h₀ L s.heap m) (X : (Mine.hd.heap_39 w.params).In h₀)
    (N : News h₀ L s.heap rest)
    (TT : Top p loose mean mg mb h₀) (hk : cs.kind = .function)
    (hd : dp + 40 < recursionLimit) (_hu : un + 500 < cLine)
    (ret : ∀ x dx gA hv hl hr hw hs hg kv kl kr kw ks kg tw ts h' tk', Fr h₀ L h' m → News h₀ L h' ((dx, dictOf (hostEs hv hl hr hw hs hg kv kl kr kw ks kg vA rA gA tl tw ts 0) 6) :: (x, instObj 215 dx) :: rest) →
      (∀ p ∈ rest, p.1 < dx) → @LT.lt Nat _ dx x → Q (.ref x) { s with heap := h', toks := tk' }) :
    wpAny (model prog w) (ktrTop dp un gd cn cs L a ccd cl outer) (call (.ref 215) [.ref vA, .int 9999 tl, .ref rA]) Q E s := by
  k_dflt (refine' call_cls ?k1 ?k2 ?k3 ?k4 ?k5 ?k6 ?_; (case k1 => k_asm); (case k2 => k_asm); (case k3 => k_asm); (case k4 => k_is); (case k5 => k_is); (case k6 => k_is); k_whole; intro x' d' h' F' N' l1 l2; (try k_lt l1); (try k_lt2 l2); (try k_sweep))
  k_dflt (refine' code_def ?k1 ?k2 ?k3 ?k4 ?k5 ?kA ?kF ?kK ?k6 ?k7 ?k8 ?k9 ?kB ?_ ?c2 ?c3 ?c4 ?c5; (case kA => exact rfl); (case kF => exact rfl); (case kK => assumption); (case k1 => k_asm); (case k2 => k_asm); (case k3 => k_asm); (case k4 => k_asm); (case k5 => k_asm); (case k6 => k_is); (case k7 => k_is); (case k8 => k_room); (case k9 => exact BindsTo.of_eq rfl); (case c5 => decide); (case kB => exact locs rfl); (case c2 => exact rfl); (case c3 => exact rfl); (case c4 => exact rfl); k_whole; intro g' L' h' FG' F' N' B' X' T'; (try dsimp only); (try k_fold))
  k_steps
  · refine' ret _ _ _ _ _ _ _ _ _ _ _ _ _ _ _ _ _ _ _ ?zF ?zN ?za ?zb
    case zF => with_reducible assumption
    case zN => refine' cb_drop ?zh ?zs; (case zh => with_reducible assumption); (case zs => ktr_rel)
    case za => assumption
    case zb => assumption
end
end Mine

namespace Mine
def bitsL (bs : List Bool) : List Nat := bs.map fun b => if b then 49 else 48
def allBits : Nat → List (List Bool)
  | 0 => [[]]
  | n + 1 => (allBits n).flatMap fun r => [true :: r, false :: r]
theorem mem_allBits : ∀ bs : List Bool, bs ∈ allBits bs.length
  | [] => List.mem_singleton.mpr rfl
  | b :: r => by
    rw [List.length_cons, allBits, List.mem_flatMap]
    exact ⟨r, mem_allBits r, by cases b <;> simp⟩
def rot (R : Str) : Str := if isSign R (-1) (Str.ofString "1") = true ∧ isSign R 0 (Str.ofString "0") = true then Txt.item R (-1) ++ Txt.slice R none (some (-1)) else R
def mv (n : Nat) (R : Str) : Str × Nat := often (Str.ofString "10") (Str.ofString "ab") n (rot R)
def nxt (n : Nat) (R : Str) : Str := replStr (Str.ofString "a") (Str.ofString "0") (Str.ofString "b") (Str.ofString "1") (mv n R).1
/-- the same on lists -/
def rotL (l : List Nat) : List Nat := if l.getD (l.length - 1) 0 = 49 ∧ l.getD 0 0 = 48 then 49 :: l.take (l.length - 1) else l
def mvL (n : Nat) (l : List Nat) : List Nat × Nat := oftenL [49, 48] [97, 98] n (rotL l)
def nxtL (n : Nat) (l : List Nat) : List Nat := (mvL n l).1.map fun c => if c = 97 then 48 else if c = 98 then 49 else c
def dueSignL (l : List Nat) (i : Nat) : Nat :=
  if (l.getD i 0 = 48 ∧ l.getD ((i + l.length - 1) % l.length) 0 = 49) ∨ (l.getD i 0 = 49 ∧ l.getD ((i + 1) % l.length) 0 = 49) then 49 else 48
def dueL (l : List Nat) : List Nat := (List.range l.length).map (dueSignL l)
def cntL (l : List Nat) : Nat := (l.filter (· == 49)).length
def turnL (n : Nat) (cars : Nat) (before : Nat) (l : List Nat) : Bool :=
  (nxtL n l == dueL (rotL l)) && (cntL (nxtL n l) == cars) && Nat.ble before (mvL n l).2 && ((rotL l).length == n) && ((nxtL n l).length == n)
def runL (cars : Nat) (n : Nat) : Nat → Nat → List Nat → Bool
  | 0, before, _ => before == min cars (n - cars)
  | k + 1, before, l => turnL n cars before l && runL cars n k (mvL n l).2 (nxtL n l)
def startL (n : Nat) (l : List Nat) : Bool := Nat.ble (cntL l) n && runL (cntL l) n (n / 2 + 1) 0 l
def allOK (n : Nat) : Bool := (allBits n).all fun bs => startL n (bitsL bs)
set_option maxRecDepth 100000 in
theorem ok2 : allOK 2 = true := by decide +kernel
set_option maxRecDepth 100000 in
theorem ok3 : allOK 3 = true := by decide +kernel
set_option maxRecDepth 100000 in
theorem ok4 : allOK 4 = true := by decide +kernel
set_option maxRecDepth 100000 in
theorem ok5 : allOK 5 = true := by decide +kernel
set_option maxRecDepth 100000 in
theorem ok6 : allOK 6 = true := by decide +kernel
set_option maxRecDepth 100000 in
theorem ok7 : allOK 7 = true := by decide +kernel
theorem start_ok {n : Int} {bs : List Bool} (h2 : 2 ≤ n) (h7 : n ≤ 7) (hb : bs.length = n.toNat) : startL n.toNat (bitsL bs) = true := by
  have key : ∀ k : Nat, allOK k = true → bs.length = k → startL k (bitsL bs) = true := by
    intro k hk e
    have := List.all_eq_true.mp hk bs (by rw [← e]; exact mem_allBits bs)
    exact this
  have hh : n = 2 ∨ n = 3 ∨ n = 4 ∨ n = 5 ∨ n = 6 ∨ n = 7 := by omega
  rcases hh with rfl | rfl | rfl | rfl | rfl | rfl
  · exact key 2 ok2 hb
  · exact key 3 ok3 hb
  · exact key 4 ok4 hb
  · exact key 5 ok5 hb
  · exact key 6 ok6 hb
  · exact key 7 ok7 hb
theorem e0 : Str.ofString "0" = mk [48] := by decide +kernel
theorem e1 : Str.ofString "1" = mk [49] := by decide +kernel
theorem ea : Str.ofString "a" = mk [97] := by decide +kernel
theorem eb : Str.ofString "b" = mk [98] := by decide +kernel
theorem e10 : Str.ofString "10" = mk [49, 48] := by decide +kernel
theorem eab : Str.ofString "ab" = mk [97, 98] := by decide +kernel
theorem rot_list (l : List Nat) (h : 1 ≤ l.length) : rot (mk l) = mk (rotL l) := by
  have hl : (mk l).length = l.length := rfl
  have i0 := item_nat l 0 (by omega)
  unfold rot rotL isSign
  rw [item_last l h, show (0 : Int) = ((0 : Nat) : Int) from rfl, i0, e0, e1, mk1_beq, mk1_beq, slice_butlast _ (by rw [hl]; exact h), app_mk, hl, tk_mk]
  by_cases q : l.getD (l.length - 1) 0 = 49 ∧ l.getD 0 0 = 48
  · rw [if_pos (by simpa using q), if_pos q, q.1]; rfl
  · rw [if_neg (by simpa using q), if_neg q]
theorem dueSign_list (l : List Nat) (i : Nat) (h : i < l.length) : dueSign (mk l) (i : Int) = mk [dueSignL l i] := by
  have hl : (mk l).length = l.length := rfl
  have ea : Txt.item (mk l) ((i : Int) - 1) = mk [l.getD ((i + l.length - 1) % l.length) 0] := by
    by_cases hi : i = 0
    · subst hi
      rw [show ((0 : Nat) : Int) - 1 = -1 from rfl, item_last l (by omega), show 0 + l.length - 1 = l.length - 1 by omega, Nat.mod_eq_of_lt (show l.length - 1 < l.length by omega)]
    · have e : (i + l.length - 1) % l.length = i - 1 := by
        rw [show i + l.length - 1 = (i - 1) + l.length by omega, Nat.add_mod_right, Nat.mod_eq_of_lt (by omega)]
      rw [show (i : Int) - 1 = ((i - 1 : Nat) : Int) by omega, item_nat l (i - 1) (by omega), e]
  have eb : Txt.item (mk l) (Int.fmod ((i : Int) + 1) ((mk l).length : Int)) = mk [l.getD ((i + 1) % l.length) 0] := by
    rw [hl, Int.fmod_eq_emod_of_nonneg _ (by omega), show (i : Int) + 1 = ((i + 1 : Nat) : Int) by omega, ← Int.natCast_emod]
    exact item_nat l _ (Nat.mod_lt _ (by omega))
  unfold dueSign isSign dueSignL
  rw [ea, eb, item_nat l i h, e0, e1, mk1_beq, mk1_beq, mk1_beq, mk1_beq]
  by_cases q : (l.getD i 0 = 48 ∧ l.getD ((i + l.length - 1) % l.length) 0 = 49) ∨ (l.getD i 0 = 49 ∧ l.getD ((i + 1) % l.length) 0 = 49)
  · rw [if_pos (by simpa using q), if_pos q]
  · rw [if_neg (by simpa using q), if_neg q]
theorem dueUp_list (l : List Nat) : ∀ n, n ≤ l.length → dueUpTo (mk l) n = mk ((List.range n).map (dueSignL l))
  | 0, _ => by rw [dueUpTo]; exact (by decide +kernel : Str.ofString "" = mk [])
  | n + 1, h => by
    rw [dueUpTo, dueUp_list l n (by omega), dueSign_list l n (by omega), app_mk, List.range_succ, List.map_append]
    rfl
theorem due_list (l : List Nat) : dueUpTo (mk l) (mk l).length = mk (dueL l) := dueUp_list l _ (Nat.le_refl _)
theorem mv_list (n : Nat) (l : List Nat) (h : 1 ≤ l.length) : mv n (mk l) = (mk (mvL n l).1, (mvL n l).2) := by
  unfold mv mvL
  rw [rot_list l h, often_list, e10, eab]
theorem nxt_list (n : Nat) (l : List Nat) (h : 1 ≤ l.length) : nxt n (mk l) = mk (nxtL n l) := by
  unfold nxt nxtL
  rw [mv_list n l h, ea, eb, e0, e1, repl_list]
theorem cnt_list (l : List Nat) : Txt.count (mk l) (Str.ofString "1") = (cntL l : Int) := by
  rw [e1]
  refine (count_is (mk l) 49).trans ?_
  show _root_.PyProof.Rows.cnt 49 l = _
  induction l with
  | nil => rfl
  | cons x r ih =>
    rw [cnt_cons, ih]
    unfold cntL
    by_cases h : x = 49
    · subst h; simp; omega
    · simp [h]
theorem join_bits {g : Int → Str} : ∀ (l : List Int), (∀ a ∈ l, ∃ b : Bool, g a = mk [if b then 49 else 48]) → ∃ bs : List Bool, bs.length = l.length ∧ Txt.join (Str.ofString "") (l.map g) = mk (bitsL bs)
  | [], _ => ⟨[], rfl, by rw [List.map_nil]; decide +kernel⟩
  | a :: r, h => by
    obtain ⟨bs, q1, q2⟩ := join_bits r fun x hx => h x (.tail _ hx)
    obtain ⟨b, hb⟩ := h a (.head _)
    refine ⟨b :: bs, by rw [List.length_cons, List.length_cons, q1], ?_⟩
    have e0 : Str.ofString "" = (⟨#[]⟩ : Str) := by decide +kernel
    have j : ∀ l : List Str, Txt.join (Str.ofString "") l = Str.join ⟨#[]⟩ l := fun l => by rw [e0]; exact StrLaws.glued_eq_join _ _
    rw [j] at q2 ⊢
    rw [List.map_cons, join_nil_cons, q2, hb, app_mk]
    rfl
theorem bit01 (x : Int) : ∃ b : Bool, Txt.item (Str.ofString "01") (Int.fmod x 2) = mk [if b then 49 else 48] := by
  have h0 := fmod_lo x (n := 2) (by decide)
  have h1 := fmod_hi x (n := 2) (by decide)
  have : Int.fmod x 2 = 0 ∨ Int.fmod x 2 = 1 := by omega
  rcases this with e | e
  · rw [e]; exact ⟨false, by decide +kernel⟩
  · rw [e]; exact ⟨true, by decide +kernel⟩
theorem ring_bits {n c : Int} (hn : n ≤ 7) : ∃ bs : List Bool, bs.length = n.toNat ∧ Txt.join (Str.ofString "") ((rangeKs 0 (n - 0).toNat).map fun a => if a ≤ 6 ∧ (Txt.item (Str.ofString "01") ((c.fdiv (2 ^ a.toNat)).fmod 2)).length = 1 then Txt.item (Str.ofString "01") ((c.fdiv (2 ^ a.toNat)).fmod 2) else Str.empty) = mk (bitsL bs) := by
  obtain ⟨bs, q1, q2⟩ := join_bits (g := fun a : Int => if a ≤ 6 ∧ (Txt.item (Str.ofString "01") ((c.fdiv (2 ^ a.toNat)).fmod 2)).length = 1 then Txt.item (Str.ofString "01") ((c.fdiv (2 ^ a.toNat)).fmod 2) else Str.empty) (rangeKs 0 (n - 0).toNat) (fun a ha => by
    have hm := mem_rangeKs ha
    have h1 : (Txt.item (Str.ofString "01") ((c.fdiv (2 ^ a.toNat)).fmod 2)).length = 1 := rfl
    rw [if_pos ⟨by omega, h1⟩]
    exact bit01 _)
  exact ⟨bs, by rw [q1, rangeKs_length]; omega, q2⟩
theorem store_ring {prog : Program} {w : World} {A : Around} {E : Value → Shared → Prop} {s : Shared} {env : Env} {y : Str} {n c : Int} {t : Tok} {Q : Unit → Shared → Prop} (hn : n ≤ 7)
    (h : ∀ bs : List Bool, bs.length = n.toNat → wpAny (model prog w) A (storeName env y (.str (mk (bitsL bs)) t)) Q E s) :
    wpAny (model prog w) A (storeName env y (.str (Txt.join (Str.ofString "") ((rangeKs 0 (n - 0).toNat).map fun a => if a ≤ 6 ∧ (Txt.item (Str.ofString "01") ((c.fdiv (2 ^ a.toNat)).fmod 2)).length = 1 then Txt.item (Str.ofString "01") ((c.fdiv (2 ^ a.toNat)).fmod 2) else Str.empty)) t)) Q E s := by
  obtain ⟨bs, hb, e⟩ := ring_bits (n := n) (c := c) hn
  rw [e]
  exact h bs hb
def LInv (n cars : Int) (j : Nat) (R : Str) (b : Int) : Prop :=
  2 ≤ n ∧ n ≤ 7 ∧ 0 ≤ b ∧ 0 ≤ cars ∧ cars ≤ n ∧ ∃ l : List Nat, R = mk l ∧ (l.length : Int) = n ∧ runL cars.toNat n.toNat (n.toNat / 2 + 1 - j) b.toNat l = true
theorem LInv.start {n : Int} {bs : List Bool} (h2 : 2 ≤ n) (h7 : n ≤ 7) (hb : bs.length = n.toNat) : LInv n (Txt.count (mk (bitsL bs)) (Str.ofString "1")) 0 (mk (bitsL bs)) 0 := by
  have q := start_ok h2 h7 hb
  unfold startL at q
  rw [Bool.and_eq_true, Nat.ble_eq] at q
  have hc := cnt_list (bitsL bs)
  refine ⟨h2, h7, by decide, by omega, by omega, bitsL bs, rfl, by unfold bitsL; rw [List.length_map]; omega, ?_⟩
  rw [hc]
  exact q.2
theorem LInv.len {n cars b : Int} {j : Nat} {R : Str} (I : LInv n cars j R b) : (R.length : Int) = n ∧ 2 ≤ n ∧ n ≤ 7 := by
  obtain ⟨h2, h7, _, _, _, l, rfl, hl, _⟩ := I
  exact ⟨hl, h2, h7⟩
theorem LInv.rlen {n cars b : Int} {j : Nat} {R : Str} (I : LInv n cars j R b) : ((rot R).length : Int) = n := by
  obtain ⟨h2, h7, _, _, _, l, rfl, hl, _⟩ := I
  rw [rot_list l (by omega)]
  show ((rotL l).length : Int) = n
  unfold rotL
  split
  · rw [List.length_cons, List.length_take]; omega
  · exact hl
structure Turn (n cars b : Int) (k : Nat) (RR M : Str) (j : Int) : Prop where
  due : replStr (Str.ofString "a") (Str.ofString "0") (Str.ofString "b") (Str.ofString "1") M = dueUpTo RR RR.length
  cnt : Txt.count (dueUpTo RR RR.length) (Str.ofString "1") = cars
  more : b ≤ j
  inv : LInv n cars (k + 1) (dueUpTo RR RR.length) j
theorem LInv.turn {n cars b j : Int} {k : Nat} {R RR M : Str} (I : LInv n cars k R b) (hk : k < (Int.fdiv n 2 + 1 - 0).toNat) (hR : RR = rot R) (ho : often (Str.ofString "10") (Str.ofString "ab") n.toNat RR = (M, j.toNat)) (hj : 0 ≤ j) :
    Turn n cars b k RR M j := by
  obtain ⟨h2, h7, hb, hc0, hc1, l, rfl, hl, hr⟩ := I
  rw [Int.fdiv_eq_ediv_of_nonneg _ (by decide)] at hk
  have h1 : 1 ≤ l.length := by omega
  subst hR
  rw [show n.toNat / 2 + 1 - k = (n.toNat / 2 + 1 - (k + 1)) + 1 by omega, runL] at hr
  simp only [turnL, Bool.and_eq_true, beq_iff_eq, Nat.ble_eq] at hr
  obtain ⟨⟨⟨⟨⟨a1, a2⟩, a3⟩, a4⟩, a5⟩, a6⟩ := hr
  have hm : (mk (mvL n.toNat l).1, (mvL n.toNat l).2) = (M, j.toNat) := (mv_list n.toNat l h1).symm.trans ho
  have hM : mk (mvL n.toNat l).1 = M := congrArg Prod.fst hm
  have hj' : (mvL n.toNat l).2 = j.toNat := congrArg Prod.snd hm
  have hd : dueUpTo (rot (mk l)) (rot (mk l)).length = mk (nxtL n.toNat l) := by rw [rot_list l h1, due_list, a1]
  rw [hj'] at a3 a6
  refine ⟨?_, ?_, by omega, h2, h7, hj, hc0, hc1, nxtL n.toNat l, hd, by omega, a6⟩
  · rw [hd, ← hM, ea, eb, e0, e1, repl_list, tk_mk]
    rfl
  · rw [hd, cnt_list, a2]; omega
theorem rot_t {R : Str} (h1 : (Txt.item R (-1) == Str.ofString "1") = true) (h2 : (Txt.item R 0 == Str.ofString "0") = true) : Txt.item R (-1) ++ Txt.slice R none (some (-1)) = rot R := by
  unfold rot isSign
  rw [if_pos ⟨h1, h2⟩]
theorem rot_f1 {R : Str} (h1 : (Txt.item R (-1) == Str.ofString "1") = false) : R = rot R := by
  unfold rot isSign
  rw [if_neg (fun q => by rw [h1] at q; exact absurd q.1 (by decide))]
theorem rot_f2 {R : Str} (h2 : (Txt.item R 0 == Str.ofString "0") = false) : R = rot R := by
  unfold rot isSign
  rw [if_neg (fun q => by rw [h2] at q; exact absurd q.2 (by decide))]
section
variable {prog : Program} {w : World} {A : Around} {E : Value → Shared → Prop} {s : Shared} {env : Env} {y : Str} {n cars b j : Int} {k : Nat} {R RR M : Str} {t : Tok} {Q : Unit → Shared → Prop}
theorem store_rot (h1 : (Txt.item R (-1) == Str.ofString "1") = true) (h2 : (Txt.item R 0 == Str.ofString "0") = true)
    (h : ∀ RR : Str, RR = rot R → wpAny (model prog w) A (storeName env y (.str RR t)) Q E s) : wpAny (model prog w) A (storeName env y (.str (Txt.item R (-1) ++ Txt.slice R none (some (-1))) t)) Q E s := by
  rw [rot_t h1 h2]
  exact h _ rfl
theorem store_turn (I : LInv n cars k R b) (hk : k < (Int.fdiv n 2 + 1 - 0).toNat) (hR : RR = rot R) (ho : often (Str.ofString "10") (Str.ofString "ab") n.toNat RR = (M, j.toNat)) (hj : 0 ≤ j)
    (h : Turn n cars b k RR M j → wpAny (model prog w) A (storeName env y (.str (dueUpTo RR RR.length) t)) Q E s) :
    wpAny (model prog w) A (storeName env y (.str (replStr (Str.ofString "a") (Str.ofString "0") (Str.ofString "b") (Str.ofString "1") M) t)) Q E s := by
  have T := I.turn hk hR ho hj
  rw [T.due]
  exact h T
end
theorem LInv.done {n cars b : Int} {R : Str} (I : LInv n cars (Int.fdiv n 2 + 1 - 0).toNat R b) : b = if n - cars < cars then n - cars else cars := by
  obtain ⟨h2, h7, hb, hc0, hc1, l, rfl, hl, hr⟩ := I
  rw [Int.fdiv_eq_ediv_of_nonneg _ (by decide)] at hr
  rw [show n.toNat / 2 + 1 - (n / 2 + 1 - 0).toNat = 0 by omega, runL, beq_iff_eq] at hr
  split <;> omega
theorem LInv.lenR {n cars b : Int} {k : Nat} {R RR : Str} (I : LInv n cars k R b) (hR : RR = rot R) : 1 ≤ RR.length ∧ RR.length ≤ 7 := by
  have q := I.rlen
  have q2 := I.len
  subst hR
  omega
section
variable {prog : Program} {w : World} {A : Around} {E : Value → Shared → Prop} {s : Shared} {value slice : Expr} {n cars b : Int} {k : Nat} {R : Str} {t u : Tok} {Q : Value → Shared → Prop}
theorem item_m1 (I : LInv n cars k R b) (h : R.length ≤ 7 → Q (.str (Txt.item R (-1)) s.toks) { s with toks := s.toks + 1 })
    (hs : subscripted slice false (.str R t) (.int (-1) u) = operate [.str R t, .int (-1) u] (getItem (.str R t) (.int (-1) u)))
    (ht : ∀ r, letTemporaryGo value (.str R t) r = pure ()) :
    wpAny (model prog w) A (subscriptTail value slice (.str R t) (.int (-1) u)) Q E s := by
  have q := I.len
  exact item_str (by decide) (by omega) (by omega) (fun _ => h (by omega)) hs ht
theorem item_z (I : LInv n cars k R b) (h : R.length ≤ 7 → Q (.str (Txt.item R 0) s.toks) { s with toks := s.toks + 1 })
    (hs : subscripted slice false (.str R t) (.int 0 u) = operate [.str R t, .int 0 u] (getItem (.str R t) (.int 0 u)))
    (ht : ∀ r, letTemporaryGo value (.str R t) r = pure ()) :
    wpAny (model prog w) A (subscriptTail value slice (.str R t) (.int 0 u)) Q E s := by
  have q := I.len
  exact item_str (by decide) (by omega) (by omega) (fun _ => h (by omega)) hs ht
theorem cmp_done (I : LInv n cars (Int.fdiv n 2 + 1 - 0).toNat R b) (h : Q (.bool true) s) :
    wpAny (model prog w) A (compareOp .Eq (.int b t) (.int (if n - cars < cars then n - cars else cars) u)) Q E s := by
  have e := I.done
  refine eq_int ?_
  rw [← e, beq_self_eq_true]
  exact h
theorem ne_same {x : Str} {t u : Tok} {Q : Value → Shared → Prop} (h : Q (.bool false) s) : wpAny (model prog w) A (compareOp .NotEq (.str x t) (.str x u)) Q E s := by
  refine ne_str ?_
  rw [show (x != x) = false by simp]
  exact h
theorem cmp_cnt {j : Int} {RR M : Str} (T : Turn n cars b k RR M j) (h : Q (.bool false) s) : wpAny (model prog w) A (compareOp .NotEq (.int (Txt.count (dueUpTo RR RR.length) (Str.ofString "1")) t) (.int cars u)) Q E s := by
  refine ne_int ?_
  rw [T.cnt, show (cars != cars) = false by simp]
  exact h
theorem cmp_more {j : Int} {RR M : Str} (T : Turn n cars b k RR M j) (h : Q (.bool false) s) : wpAny (model prog w) A (compareOp .Lt (.int j t) (.int b u)) Q E s := by
  have := T.more
  refine lt_int ?_
  rw [decide_eq_false (by omega)]
  exact h
end
theorem often_room {n : Int} {RR : Str} (h : RR.length ≤ 7) (hn : n ≤ 7) : (RR.length : Int) + 2 * n ≤ 99 := by omega
theorem small_half {n : Int} (h2 : 2 ≤ n) (h7 : n ≤ 7) : Builtin.Range.small 0 (Int.fdiv n 2 + 1) 1 = true := by
  have e := Int.fdiv_eq_ediv_of_nonneg n (show (0 : Int) ≤ 2 by decide)
  rw [e]
  exact small_one (by omega) (by omega) (by omega) (by omega)
theorem add_rot {prog : Program} {w : World} {A : Around} {E : Value → Shared → Prop} {s : Shared} {R : Str} {t u : Tok} {Q : Value → Shared → Prop} (hl : R.length ≤ 7)
    (h : ∀ t' k, Q (.str (Txt.item R (-1) ++ Txt.slice R none (some (-1))) t') { s with toks := k }) : wpAny (model prog w) A (binaryOp .Add (.str (Txt.item R (-1)) t) (.str (Txt.slice R none (some (-1))) u)) Q E s := by
  have q := Txt.slice_le R none (some (-1))
  have q2 : (Txt.item R (-1)).length = 1 := rfl
  exact PyProof.Rows.add_str h (by rw [sizeLine_eq]; omega)
end Mine

namespace Mine
section
variable {prog : Program} {w : World} {A : Around} {E : Value → Shared → Prop} {s : Shared} {env : Env} {h₀ : Heap} {x : Str} {body : List Stmt} {Q : Flow → Shared → Prop}
def MyEnd (h₀ : Heap) (L I Pt : Addr) (pos : Pos) (qual : Str) (x xr xb : Str) (stored : List Str) (m₀ : Str → Option Value) (P : Str → Int → Prop) (tl : List (Addr × Obj)) (s₁ s₂ : Shared) : Prop :=
  ∃ h' tk m' led' c' oc vs t R b tR tb, s₂ = { s₁ with heap := h', toks := tk } ∧ Fr h₀ L h' m' ∧ News h₀ L h' led' ∧ (∀ p ∈ (Pt, tabObj #[rawInt pos.line, rawInt pos.col, .ref c']) :: (c', oc) :: tl, p ∈ led') ∧
    oc.data = .fields vs ∧ vs[1]? = some (.str qual t) ∧ c' ≠ I ∧ c' ≠ Pt ∧ m' xr = some (.str R tR) ∧ m' xb = some (.int b tb) ∧ (∀ z, z ≠ x → z ≠ xr → z ≠ xb → stored.contains z = false → m' z = m₀ z) ∧ P R b
def MyPost (h₀ : Heap) (L I Pt : Addr) (pos : Pos) (qual : Str) (x xr xb : Str) (stored : List Str) (m₀ : Str → Option Value) (P : Str → Int → Prop) (tl : List (Addr × Obj)) (s₁ : Shared) (Q : Flow → Shared → Prop) (f : Flow) (s₂ : Shared) : Prop :=
  match f with
  | .ret v => Q (.ret v) s₂
  | .brk => Q .next s₂
  | _ => MyEnd h₀ L I Pt pos qual x xr xb stored m₀ P tl s₁ s₂
theorem my_loop {r Pt : Addr} {b₀ : Int} {t₀ u₀ v₀ : Tok} {n : Nat} {m₀ : Str → Option Value} {news : List (Addr × Obj)} (pos : Pos) (qual : Str) (P : Nat → Str → Int → Prop) (xr xb : Str) {R0 : Str} {bb : Int} {tr tb : Tok} (stored : List Str)
    (hh : A.handled = none) (hr : IsRange s.heap r 0 b₀ 1 t₀ u₀ v₀) (hsmall : Builtin.Range.small 0 b₀ 1 = true) (hn : Builtin.Range.rangeSize 0 b₀ 1 = (n : Int))
    (F : Fr h₀ env.locals s.heap m₀) (N : News h₀ env.locals s.heap news) (hP : (Pt, tabObj #[]) ∈ news) (h1 : m₀ xr = some (.str R0 tr)) (h2 : m₀ xb = some (.int bb tb)) (hp : P 0 R0 bb)
    (turn : ∀ (I : Addr) (i : Nat) R b tR tb ps t (u : Str → Option Value) h tk tl, i < n → P i R b → TabOK pos qual I Pt ps tl → (∃ o, (I, o) ∈ tl) → (∀ p ∈ tl, p.1 ≠ Pt) →
      Fr h₀ env.locals h (fun y => if y = x then some (.int (i : Int) t) else kstB (fun z => if stored.contains z then u z else m₀ z) [(xr, .str R tR), (xb, .int b tb)] y) → News h₀ env.locals h ((Pt, tabObj ps) :: tl) →
      wpAny (model prog w) A (execs body env) (MyPost h₀ env.locals I Pt pos qual x xr xb stored m₀ (P (i + 1)) tl { s with heap := h, toks := tk } Q) E { s with heap := h, toks := tk })
    (done : ∀ R b tR tb ps (u : Str → Option Value) h tk, P n R b → Fr h₀ env.locals h (fun y => if y = x then u y else kstB (fun z => if stored.contains z then u z else m₀ z) [(xr, .str R tR), (xb, .int b tb)] y) → News h₀ env.locals h [(Pt, tabObj ps)] → Q .next { s with heap := h, toks := tk }) :
    wpAny (model prog w) A (pyIter (.ref r)) (fun it s₂ => LoopAtV prog w A h₀ env x body Q E it s₂) E s := by
  refine wpAny_pyIter_range hr hsmall ?_
  have W : Walks prog w A s.heap.objs.size [s.heap.objs.size] [s.heap.objs.size] n (fun i v => i < n ∧ ∃ t, v = .int (0 + i * 1) t)
      (fun i h => IsRangeIter h s.heap.objs.size (0 + (i : Nat) * 1) ((n : Int) - (i : Nat)) 1) := (Walks.range hh _ 0 1 n).bound
  have hPlt : Pt < s.heap.objs.size := Heap.lt_size (N _ hP).1
  have hInone : h₀.get? s.heap.objs.size = none := next_is_new F
  let J : Nat → (Str → Option Value) → List (Addr × Obj) → Prop := fun i m nx =>
    ∃ R b tR tb ps ex, nx = (Pt, tabObj ps) :: ex ∧ TabOK pos qual s.heap.objs.size Pt ps ex ∧ (∀ p ∈ ex, p.1 ≠ Pt) ∧ (∀ p ∈ [(xr, Value.str R tR), (xb, Value.int b tb)], m p.1 = some p.2) ∧
      (∀ z, z ≠ x → (∀ p ∈ [(xr, Value.str R tR), (xb, Value.int b tb)], z ≠ p.1) → stored.contains z = false → m z = m₀ z) ∧ P i R b
  have two : ∀ {m : Str → Option Value} {R : Str} {b : Int} {tR tb : Tok}, m xr = some (.str R tR) → m xb = some (.int b tb) → ∀ p ∈ [(xr, Value.str R tR), (xb, Value.int b tb)], m p.1 = some p.2 := by
    intro m R b tR tb e1 e2 p hp
    rcases List.mem_cons.mp hp with rfl | hp
    · exact e1
    · rw [List.mem_singleton.mp hp]; exact e2
  refine ⟨s.heap.objs.size, [s.heap.objs.size], [s.heap.objs.size], n, _, _, m₀, [(Pt, tabObj #[])], J, rfl, W, ?_, ?_, ?_, (by show IsRangeIter _ _ _ _ _; rw [hn]; simpa using Heap.get?_push_size _ rfl), F.push _, ?_,
    ⟨R0, bb, tr, tb, #[], [], rfl, .inl rfl, (fun _ h => nomatch h), two h1 h2, (fun _ _ _ _ => rfl), hp⟩, ?_, ?_⟩
  · intro hm
    exact absurd F.ns.lt ((List.mem_singleton.mp hm) ▸ Nat.lt_irrefl _)
  · intro b hb
    rw [List.mem_singleton.mp hb]
    exact hInone
  · intro p hp hI
    rw [List.mem_singleton.mp hp] at hI
    exact absurd hPlt ((List.mem_singleton.mp hI) ▸ Nat.lt_irrefl _)
  · intro p hp
    rw [List.mem_singleton.mp hp]
    exact ⟨Heap.get?_push_of_some _ (N _ hP).1, (N _ hP).2⟩
  · rintro i v m₁ nx s₁ own ⟨hh', tk', rfl⟩ hi ⟨_, t, rfl⟩ ⟨R, b, tR, tb, ps, ex, rfl, hT, hex, k1, k2, hp'⟩ hoff hown _ hall hst F₁ N₁
    have e1 : (0 : Int) + (i : Int) * 1 = (i : Int) := by omega
    rw [e1] at F₁
    have hI : ∃ o, (s.heap.objs.size, o) ∈ ex ++ own := by
      exact ⟨_, List.mem_append_right _ (hall _ (List.mem_singleton.mpr rfl) hInone _ hst)⟩
    have hPt : ∀ p ∈ ex ++ own, p.1 ≠ Pt := by
      intro p hp
      rcases List.mem_append.mp hp with hp | hp
      · exact hex p hp
      · rw [List.mem_singleton.mp (hown p hp)]
        exact Nat.ne_of_gt hPlt
    have N₂ : News h₀ env.locals hh' ((Pt, tabObj ps) :: (ex ++ own)) := by
      intro p hp
      apply N₁
      rcases List.mem_cons.mp hp with rfl | hp
      · exact List.mem_append_right _ (.head _)
      · rcases List.mem_append.mp hp with hp | hp
        · exact List.mem_append_right _ (.tail _ hp)
        · exact List.mem_append_left _ hp
    refine wpAny_mono (turn s.heap.objs.size i R b tR tb ps t m₁ hh' tk' (ex ++ own) hi hp' (hT.mono fun p hp => List.mem_append_left _ hp) hI hPt (kst_fr k1 k2 F₁) N₂) (fun f s₂ p => ?_) fun _ _ e => e
    have fin : MyEnd h₀ env.locals s.heap.objs.size Pt pos qual x xr xb stored m₀ (P (i + 1)) (ex ++ own) { s with heap := hh', toks := tk' } s₂ → LoopStepU h₀ env.locals [s.heap.objs.size] own (J (i + 1)) { s with heap := hh', toks := tk' } .next s₂ := by
      rintro ⟨h', tk, m', led', c', oc, vs, t, R, b, tR, tb, e, F', N', hin, g1, g2, g3, g4, g5, g6, g7, g8⟩
      refine ⟨rfl, h', tk, m', [(Pt, tabObj #[rawInt pos.line, rawInt pos.col, .ref c']), (c', oc)], e, F', fun p hp => N' p ?_, fun p hp hq => ?_, R, b, tR, tb, _, [(c', oc)], rfl,
        .inr ⟨c', oc, vs, t, rfl, .head _, g1, g2, g3, g4⟩, (fun p hp => by rw [List.mem_singleton.mp hp]; exact g4), two g5 g6, (fun z z1 z2 z3 => g7 z z1 (z2 _ (.head _)) (z2 _ (.tail _ (.head _))) z3), g8⟩
      · apply hin
        rcases List.mem_append.mp hp with hp | hp
        · exact .tail _ (.tail _ (List.mem_append_right _ hp))
        · rcases List.mem_cons.mp hp with rfl | hp
          · exact .head _
          · rw [List.mem_singleton.mp hp]; exact .tail _ (.head _)
      · have hq' := List.mem_singleton.mp hq
        rcases List.mem_cons.mp hp with rfl | hp
        · exact absurd hPlt (hq' ▸ Nat.lt_irrefl _)
        · rw [List.mem_singleton.mp hp] at hq'
          exact g3 hq'
    cases f with
    | ret v => exact .ret p
    | brk => exact .brk p
    | next => exact .next (fin p)
    | cont => exact .cont (fin p)
  · rintro h' tk m' news' F' N' _ ⟨R, b, tR, tb, ps, ex, rfl, _, _, k1, k2, hp'⟩
    exact done R b tR tb ps m' h' tk hp' (kst_frOut k1 k2 F') (fun p hp => N' p (by rw [List.mem_singleton.mp hp]; exact .head _))
theorem my_next {I Pt : Addr} {pos : Pos} {qual xr xb : Str} {stored : List Str} {m₀ m' : Str → Option Value} {tl led' : List (Addr × Obj)} {s₁ : Shared} {h' : Heap} {tk : Nat} {L : Addr} {c' : Addr} {oc : Obj} {vs : Array Value} {t tR tb : Tok} {n cars b j : Int} {k : Nat} {RR M : Str}
    (F : Fr h₀ L h' m') (N : News h₀ L h' led') (T : Turn n cars b k RR M j) (hin : ∀ p ∈ (Pt, tabObj #[rawInt pos.line, rawInt pos.col, .ref c']) :: (c', oc) :: tl, p ∈ led') (g1 : oc.data = .fields vs) (g2 : vs[1]? = some (.str qual t)) (g3 : c' ≠ I) (g4 : c' ≠ Pt)
    (h5 : m' xr = some (.str (dueUpTo RR RR.length) tR)) (h6 : m' xb = some (.int j tb)) (h7 : ∀ z, z ≠ x → z ≠ xr → z ≠ xb → stored.contains z = false → m' z = m₀ z) :
    MyPost h₀ L I Pt pos qual x xr xb stored m₀ (fun R b => LInv n cars (k + 1) R b) tl s₁ Q .next { s₁ with heap := h', toks := tk } :=
  ⟨h', tk, m', led', c', oc, vs, t, _, _, tR, tb, rfl, F, N, hin, g1, g2, g3, g4, h5, h6, h7, T.inv⟩
end
end Mine

local macro_rules | `(tactic| walk_at "subscriptTail Name Slice ref ref") => `(tactic| (k_here; (with_reducible show wpAny _ _ (subscriptTail (Expr.Name _ _) (PySem.Expr.Slice (some (Expr.Call _ _ _ _)) none none _) (Value.ref _) (Value.ref _)) _ _ _); k_dflt (refine' kmk_slice_ints ?F ?N ?l ?p ?q ?i ?m ?c ?_ ?s ?t ?z; (case F => k_asm); (case N => k_asm); (case l => kmk_list); (case p => kmk_part); (case q => kmk_part); (case i => l_ints); (case m => exact kmk_from (by l_ints) (by omega)); (case c => exact List.length_drop ..); (case s => with_unfolding_all rfl); (case t => kmk_pure); (case z => kmk_size)); intro D' ws' h' F' N' l1 hI' hC' hL'; (try k_lt l1); (try k_sweep)))
local macro_rules | `(tactic| walk_at "eval ListComp") => `(tactic| (k_here; (with_reducible show wpAny _ _ (eval (Expr.ListComp (Expr.Subscript (Expr.Constant _ _ _) _ _) _ _ _) _) _ _ _); k_dflt (refine LCg.ListComp_U (F₀ := by k_asm) (by with_unfolding_all rfl) (by decide) (by rfl) (by decide) (by rfl) ?_)))
local macro_rules | `(tactic| walk_at "CompSrc") => `(tactic| (k_here; (with_reducible show LCg.CompSrc _ _ _ _ _ _ _ (Expr.Subscript (Expr.Constant _ _ _) _ _) _ _ _ _ _ _); (try k_fmods); k_dflt (refine LCg.CompSrc.range (by rfl) (by k_asm) (by k_asm) (by assumption) (by exact small_one (by omega) (by omega) (by omega) (by omega)) (by exact rangeSize_nat _ _) (by (rw [PySem.sizeLine_eq]; omega)) ?_; intro g'; (refine' kct_range _ (fun k' t' I' oI' C' oC' D' m' ys' h' tk' E' hlo' hhi' hC' hx' F' N' off' ne' => ?_) ?_); (all_goals (try (simp only [LCg.Off3, and_true] at off'))); (all_goals (try ((show KPfMark → _); intro hMark'))))))
local macro_rules | `(tactic| walk_at "storeName") => `(tactic| (k_here; (rename IntsAre _ (List.map _ _ ++ List.drop _ _) => hI9; obtain ⟨c0, c1, t0, t1, e9⟩ := Mine.two_cells hI9; clear hI9; subst e9); (repeat (rename (List.length _ = _) => hq; clear hq)); (repeat (rename (List.length _ ≤ _) => hq; clear hq)); (repeat (first | (rename IntsAre _ (List.take _ _) => hq; clear hq) | (rename IntsAre _ (List.drop _ _) => hq; clear hq) | (rename IntsAre _ (List.map _ _) => hq; clear hq)))))
local macro_rules | `(tactic| walk_at "storeName") => `(tactic| (k_here; (with_reducible refine Mine.store_size ?_); intro n9 hn9 hm9))
local macro_rules | `(tactic| walk_at "binaryOp Pow int int") => `(tactic| (k_here; (with_reducible refine Mine.pow_turn (by with_reducible assumption) (by with_reducible assumption) (by with_reducible assumption) ?_); intro hk6))
local macro_rules | `(tactic| walk_at "binaryOp FloorDiv int int") => `(tactic| (k_here; (with_reducible refine Mine.div_turn (by with_reducible assumption) ?_)))
local macro_rules | `(tactic| walk_at "storeName") => `(tactic| (k_here; (with_reducible refine Mine.store_ring (by with_reducible assumption) ?_); intro b9 hb9))
local macro_rules | `(tactic| walk_at "call ref") => `(tactic| (k_here; (with_reducible show wpAny _ _ (call (Value.ref 462) _) _ _ _); k_dflt (refine' Mine.c_world ?B ?F ?X ?N ?TT ?hk ?hd ?hu (fun x' h' tk' F' N' => ?_); (case B => k_asm); (case F => k_asm); (case X => k_asm); (case N => k_asm); (case TT => k_asm); (case hk => exact rfl); (case hd => decide); (case hu => exact (by decide +kernel)); all_goals ((try dsimp only); (try k_fold)))))
local macro_rules | `(tactic| walk_at "call ref") => `(tactic| (k_here; (with_reducible show wpAny _ _ (call (Value.ref 215) _) _ _ _); k_dflt (refine' Mine.c_host ?B ?F ?X ?N ?TT ?hk ?hd ?hu (fun x' d' g' hv' hl' hr' hw' hs' hg' kv' kl' kr' kw' ks' kg' tw' ts' h' tk' F' N' l1' l2' => ?_); (case B => k_asm); (case F => k_asm); (case X => k_asm); (case N => k_asm); (case TT => k_asm); (case hk => exact rfl); (case hd => decide); (case hu => exact (by decide +kernel)); all_goals ((try dsimp only); (try k_fold))); ((with_reducible rename Mine.TabOK _ _ _ _ _ _ => hT9); k_dflt (have ht9 := Mine.tl_ne hT9 l1' (by intro p9 hp9; repeat (first | exact hp9 | refine List.mem_cons_of_mem _ ?_)))); (try k_lt l1')))
local macro_rules | `(tactic| walk_at "call ref") => `(tactic| (k_here; (with_reducible show wpAny _ _ (call (Value.ref 473) _) _ _ _); (with_reducible rename Mine.LInv _ _ _ _ _ => hI9); k_dflt (refine' Mine.c_due ?B ?F ?X ?N ?TT ?hk ?hd ?hu ?h1 ?hR (fun u' h' tk' F' N' => ?_); (case h1 => exact (Mine.LInv.lenR hI9 (by (first | with_reducible assumption | exact Mine.rot_f1 (by with_reducible assumption) | exact Mine.rot_f2 (by with_reducible assumption)))).1); (case hR => exact Nat.le_trans (Mine.LInv.lenR hI9 (by (first | with_reducible assumption | exact Mine.rot_f1 (by with_reducible assumption) | exact Mine.rot_f2 (by with_reducible assumption)))).2 (by decide)); (case B => k_asm); (case F => k_asm); (case X => k_asm); (case N => k_asm); (case TT => k_asm); (case hk => exact rfl); (case hd => decide); (case hu => exact (by decide +kernel)); all_goals ((try dsimp only); (try k_fold)))))
local macro_rules | `(tactic| walk_at "subscriptTail") => `(tactic| (k_here; (with_reducible rename Mine.LInv _ _ _ _ _ => hI9); (first | with_reducible refine Mine.item_m1 hI9 ?_ (by with_unfolding_all rfl) (by intro _; with_unfolding_all rfl) | with_reducible refine Mine.item_z hI9 ?_ (by with_unfolding_all rfl) (by intro _; with_unfolding_all rfl)); intro hl9))
local macro_rules | `(tactic| walk_at "compareOp Eq int int") => `(tactic| (k_here; (with_reducible rename Mine.LInv _ _ _ _ _ => hI9); (with_reducible refine Mine.cmp_done hI9 ?_)))
local macro_rules | `(tactic| walk_at "storeName") => `(tactic| (k_here; (with_reducible refine Mine.store_rot (by with_reducible assumption) (by with_reducible assumption) ?_); intro rr9 hrr9))
local macro_rules | `(tactic| walk_at "storeName") => `(tactic| (k_here; (with_reducible rename Mine.LInv _ _ _ _ _ => hI9); (with_reducible refine Mine.store_turn hI9 ?hk ?hR (by with_reducible assumption) (by with_reducible assumption) ?_); (case hk => with_reducible assumption); (case hR => (first | with_reducible assumption | exact Mine.rot_f1 (by with_reducible assumption) | exact Mine.rot_f2 (by with_reducible assumption))); intro ht9))
local macro_rules | `(tactic| walk_at "pyIter ref") => `(tactic| (k_here; (with_reducible show wpAny _ _ (pyIter (Value.ref _)) (fun it s₂ => LoopAtV _ _ _ _ _ _ _ _ _ it s₂) _ _); k_dflt (refine' Mine.my_loop (Pt := 475) ⟨361, 86, 361, 103⟩ (Str.ofString "law" ++ ".<locals>." ++ "<lambda>") (fun i R b => Mine.LInv _ _ i R b) (Str.ofString "ring") (Str.ofString "before") [Str.ofString "due", Str.ofString "host", Str.ofString "marked", Str.ofString "many"] ?hh ?hr ?hs ?hn ?F ?N ?hP ?h1 ?h2 ?hp (fun I9 i9 R9 b9 tR9 tb9 ps9 t9 u9 h' tk9 tl9 hi9 hInv9 hT9 hI9 hne9 F' N' => ?_) (fun R9 b9 tR9 tb9 ps9 u9 h' tk9 hInv9 F' N' => ?_); (case hh => exact rfl); (case hr => assumption); (case hs => exact Mine.small_half (by with_reducible assumption) (by with_reducible assumption)); (case hn => exact rangeSize_nat _ _); (case F => k_asm); (case N => k_asm); (case hP => k_mem); (case h1 => exact rfl); (case h2 => exact rfl); (case hp => exact Mine.LInv.start (by with_reducible assumption) (by with_reducible assumption) (by with_reducible assumption))); (all_goals ((try dsimp only); (try k_fold)))))
local macro_rules | `(tactic| walk_at "eval Lambda") => `(tactic| (k_here; k_dflt (refine' kla_eval ?d0 ?_; (case d0 => exact rfl)); (with_reducible rename Mine.TabOK _ _ _ _ _ _ => hT9); k_dflt (refine' Mine.my_lam ?F ?N ?P ?T ?C ?cd ?ne hT9 ?tl ?hI ?hd ?dt ?cl (fun f' c' oc' vs' t' ct' h' tk' F' N' d1' d2' n1' n2' n3' l1' l2' l3' => ?_); (case F => k_asm); (case N => k_asm); (case P => tb_start); (case T => k_asm); (case C => kn_code); (case cd => exact rfl); (case ne => (repeat (refine List.forall_mem_cons.mpr ⟨by k_ne, ?_⟩)); with_reducible assumption); (case tl => (intro p9 hp9; repeat (first | exact hp9 | refine List.Mem.tail _ ?_))); (case hI => with_reducible assumption); (case hd => (repeat (first | (with_reducible exact (Mine.Pick.head : Mine.Pick _ (dictOf (Mine.hostEs _ _ _ _ _ _ _ _ _ _ _ _ _ _ _ _ _ _ _) 6) _ _)) | apply Mine.Pick.tail))); (case dt => with_reducible assumption); (case cl => exact rfl)); (try k_lt l1')))
local macro_rules | `(tactic| walk_at "call ref") => `(tactic| (k_here; (with_reducible show wpAny _ _ (call (Value.ref 49) _) _ _ _); (with_reducible rename Mine.LInv _ _ _ _ _ => hI9); k_dflt (refine' Mine.c_often ?B ?F ?X (Mine.pick4 ?N ?P1 ?P2 ?P3 ?P4) ?hx ?hnd ?hlm ?hrest ?hL ?hls ?TT ?hk ?hd ?hu ?hS ?hT ?hR ?hm0 ?hk0 ?hk1 (fun S' j' ho' hj0' hj1' hS' D' u1' u2' c1' k' ts' h' tk' F' N' l1 l2 l3 l4 l5 => ?_); (case B => k_asm); (case F => k_asm); (case X => k_asm); (case N => k_asm); (case P1 => tb_start); (case P2 => tb_start); (case P3 => tb_start); (case P4 => tb_start); (case TT => k_asm); (case hls => exact List.forall_mem_cons.mpr ⟨List.Mem.head _, List.forall_mem_cons.mpr ⟨List.Mem.tail _ (List.Mem.head _), List.forall_mem_nil _⟩⟩); (case hL => exact Mine.lam_const (by with_reducible assumption) (by with_reducible assumption) (by intro _; rfl) (by rfl) (by rfl) (by rfl) (by rfl) (by decide)); (case hx => k_ne); (case hnd => k_ne); (case hlm => k_ne); (case hrest => ((repeat (refine List.forall_mem_cons.mpr ⟨by first | with_reducible assumption | k_ne, ?_⟩)); with_reducible assumption)); (case hS => exact Mine.often_room (Mine.LInv.lenR hI9 (by (first | with_reducible assumption | exact Mine.rot_f1 (by with_reducible assumption) | exact Mine.rot_f2 (by with_reducible assumption)))).2 (by with_reducible assumption)); (case hT => decide +kernel); (case hR => decide +kernel); (case hm0 => exact Int.le_trans (by decide) (by with_reducible assumption : (2 : Int) ≤ _)); (case hk0 => decide); (case hk1 => decide); (case hk => exact rfl); (case hd => decide); (case hu => exact (by decide +kernel)); all_goals ((try dsimp only); (try k_fold)))))
local macro_rules | `(tactic| walk_at "call ref") => `(tactic| (k_here; (with_reducible show wpAny _ _ (call (Value.ref 238) _) _ _ _); k_dflt (refine' Mine.c_repl ?B ?F ?X (Mine.pick1 ?N ?P1) ?TT ?hk ?hd ?hu ?hM (fun u' h' tk' F' N' => ?_); (case B => k_asm); (case F => k_asm); (case X => k_asm); (case N => k_asm); (case P1 => tb_start); (case hM => with_reducible assumption); (case TT => k_asm); (case hk => exact rfl); (case hd => decide); (case hu => exact (by decide +kernel)); all_goals ((try dsimp only); (try k_fold)))))
local macro_rules | `(tactic| walk_at "compareOp NotEq str str") => `(tactic| (k_here; (with_reducible refine Mine.ne_same ?_)))
local macro_rules | `(tactic| walk_at "compareOp NotEq int int") => `(tactic| (k_here; (with_reducible refine Mine.cmp_cnt (by with_reducible assumption) ?_)))
local macro_rules | `(tactic| walk_at "compareOp Lt int int") => `(tactic| (k_here; (with_reducible refine Mine.cmp_more (by with_reducible assumption) ?_)))
local macro_rules | `(tactic| walk_at "MyPost") => `(tactic| (k_dflt (refine' Mine.my_next ?F ?N ?T ?hin ?g1 ?g2 ?g3 ?g4 ?h5 ?h6 ?h7; (case F => k_asm); (case N => k_asm); (case T => with_reducible assumption); (case hin => ktr_rel); (case g1 => with_reducible assumption); (case g2 => first | with_reducible assumption | assumption); (case g3 => with_reducible assumption); (case g4 => with_reducible assumption); (case h5 => exact rfl); (case h6 => exact rfl); (case h7 => (intro z z1 z2 z3 z4; (simp only [List.contains_cons, Bool.or_eq_false_iff, beq_eq_false_iff_ne, List.contains_nil, and_true] at z4); simp [kstB, z1, z2, z3, z4])))))
local macro_rules | `(tactic| walk_at "binaryOp Add str str") => `(tactic| (k_here; (with_reducible refine Mine.add_rot (by with_reducible assumption) ?_); intro t9 k9))
local macro_rules | `(tactic| walk_at "newTuple") => `(tactic| (k_here; k_dflt (refine' kup_newTuple ?F ?N ?_ ?z; (case F => k_asm); (case N => k_asm); (case z => kmk_size)); intro D' h' F' N' l1; (try k_lt l1); (try k_sweep)))

set_option maxRecDepth 100000 in
set_option maxHeartbeats 8000000 in
theorem PySem.Challenge.cw_xw0308_01_holds : PySem.Challenge.rw_xw0308_01.Holds :=
  Mine.hd (by
  k_go0
  all_goals try k_fold
  k_steps
  all_goals exact Str.empty)

