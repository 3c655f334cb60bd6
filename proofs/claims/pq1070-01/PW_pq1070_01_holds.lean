import PyProof.Rows.All
import Wide.All
import OpenK.AllK
import Wide.FinOn
import PySem.Challenge.RW_pq1070_01
open PySem PySem.W PyProof.Rows
set_option Elab.async false
set_option genInjectivity false
set_option genSizeOf false
namespace Mine
section
set_option maxRecDepth 100000
set_option maxHeartbeats 8000000
open_top hd for PySem.Challenge.rw_pq1070_01
end
end Mine
section
open PySem PySem.W PyProof.Rows
namespace Mine
noncomputable abbrev P2 := Int × Int
noncomputable def pD (p : P2) : Dat := .tuple [.int p.1, .int p.2]
noncomputable def spD (xs : List P2) : Dat := .list (xs.map pD)

noncomputable def mlo (x y : P2) : Int := if y.1 > x.1 then y.1 else x.1
noncomputable def mhi (x y : P2) : Int := if y.2 < x.2 then y.2 else x.2
noncomputable def meetF : List P2 → List P2 → List P2
  | [], _ => []
  | _ :: _, [] => []
  | x :: xs, y :: ys =>
    (if mlo x y ≤ mhi x y then [(mlo x y, mhi x y)] else []) ++
      (if x.2 < y.2 then meetF xs (y :: ys) else meetF (x :: xs) ys)
termination_by a b => a.length + b.length
theorem drop_at {xs : List P2} {i : Int} (h0 : 0 ≤ i) (h : i < (xs.length : Int)) : xs.drop i.toNat = xs.getD i.toNat (0, 0) :: xs.drop (i + 1).toNat := by
  have h1 : i.toNat < xs.length := by omega
  have e : (i + 1).toNat = i.toNat + 1 := by omega
  rw [e, List.drop_eq_getElem_cons h1, List.getD_eq_getElem?_getD, List.getElem?_eq_getElem h1]
  rfl
theorem meet_step {xs ys : List P2} {i j : Int} (h0 : 0 ≤ i) (h : i < (xs.length : Int)) (k0 : 0 ≤ j) (k : j < (ys.length : Int)) :
    meetF (xs.drop i.toNat) (ys.drop j.toNat) = (if mlo (xs.getD i.toNat (0, 0)) (ys.getD j.toNat (0, 0)) ≤ mhi (xs.getD i.toNat (0, 0)) (ys.getD j.toNat (0, 0)) then [(mlo (xs.getD i.toNat (0, 0)) (ys.getD j.toNat (0, 0)), mhi (xs.getD i.toNat (0, 0)) (ys.getD j.toNat (0, 0)))] else []) ++
      (if (xs.getD i.toNat (0, 0)).2 < (ys.getD j.toNat (0, 0)).2 then meetF (xs.drop (i + 1).toNat) (ys.drop j.toNat) else meetF (xs.drop i.toNat) (ys.drop (j + 1).toNat)) := by
  rw [drop_at h0 h, drop_at k0 k, meetF]
theorem meet_done1 {xs ys : List P2} {i : Int} (h : ¬ i < (xs.length : Int)) : meetF (xs.drop i.toNat) ys = [] := by
  rw [List.drop_of_length_le (by omega), meetF]
theorem meet_done2 {xs ys : List P2} {i : Int} (h : ¬ i < (ys.length : Int)) : meetF xs (ys.drop i.toNat) = [] := by
  rw [List.drop_of_length_le (by omega)]; cases xs <;> rw [meetF]

noncomputable abbrev meetT : ToldN (List P2 × List P2) where
  Rel := fun news vs d => ∃ va vb, vs = [va, vb] ∧ DatIn news va (spD d.1) ∧ DatIn news vb (spD d.2)
  Ok := fun d => d.1.length ≤ 64 ∧ d.2.length ≤ 64
  size := fun _ => 1
  Tl := fun _ => True
  Out := fun news r d => DatIn news r (spD (meetF d.1 d.2))

noncomputable abbrev tup2 (p : P2) (t1 t2 : Tok) (q : Nat) : Obj := { cls := .type "tuple", data := .seq #[.int p.1 t1, .int p.2 t2] q }

theorem tup_inv {N : List (Addr × Obj)} {v : Value} {ds : List Dat} (h : DatIn N v (.tuple ds)) : ∃ T vs q, v = .ref T ∧ (T, ({ cls := .type "tuple", data := .seq (List.toArray vs) q } : Obj)) ∈ N ∧ DatAll N vs ds := by
  cases h with
  | tuple hm hd => exact ⟨_, _, _, rfl, hm, hd⟩
theorem all_inv {N : List (Addr × Obj)} {vs : List Value} {d : Dat} {ds : List Dat} (h : DatAll N vs (d :: ds)) : ∃ v r, vs = v :: r ∧ DatIn N v d ∧ DatAll N r ds := by
  cases h with
  | cons h1 h2 => exact ⟨_, _, rfl, h1, h2⟩
theorem nil_inv {N : List (Addr × Obj)} {vs : List Value} (h : DatAll N vs []) : vs = [] := by cases h; rfl
theorem int_inv {N : List (Addr × Obj)} {v : Value} {i : Int} (h : DatIn N v (.int i)) : ∃ t, v = .int i t := by cases h; exact ⟨_, rfl⟩
theorem pair_inv {N : List (Addr × Obj)} {v : Value} {p : P2} (h : DatIn N v (pD p)) : ∃ T t1 t2 q, v = .ref T ∧ (T, tup2 p t1 t2 q) ∈ N := by
  obtain ⟨T, _, q, e, hm, h1⟩ := tup_inv h
  obtain ⟨_, _, rfl, k1, h2⟩ := all_inv h1
  obtain ⟨_, _, rfl, k2, h3⟩ := all_inv h2
  obtain ⟨t1, rfl⟩ := int_inv k1
  obtain ⟨t2, rfl⟩ := int_inv k2
  cases nil_inv h3
  exact ⟨T, t1, t2, q, e, hm⟩
theorem sp_cases {news : List (Addr × Obj)} {v : Value} {xs : List P2} (h : DatIn news v (spD xs)) :
    ∃ l us n, v = .ref l ∧ (l, listOf us.toArray n) ∈ news ∧ DatAll news us (xs.map pD) := by
  unfold spD at h
  cases h with
  | list hm hd => exact ⟨_, _, _, rfl, hm, hd⟩

section
variable {prog : Program} {w : World} {A : Around} {E : Value → Shared → Prop} {s : Shared} {h₀ : Heap} {L l : Addr}
theorem sp_getItem {news L9 : List (Addr × Obj)} {us : List Value} {xs : List P2} {n : Nat} {k : Int} {u : Tok} {Q : Value → Shared → Prop} (N : News h₀ L s.heap news) (hm : (l, listOf us.toArray n) ∈ news) (hd : DatAll L9 us (xs.map pD))
    (h0 : 0 ≤ k) (h1 : k < (xs.length : Int)) (hfit : k < 2 ^ 63) (h : ∀ T t1 t2 q, (T, tup2 (xs.getD k.toNat (0, 0)) t1 t2 q) ∈ L9 → Q (.ref T) s) : wpAny (model prog w) A (getItem (.ref l) (.int k u)) Q E s := by
  refine kd_getItem N hm hd h0 (by simpa using h1) hfit fun v d hk _ hD => ?_
  have hk' : k.toNat < xs.length := by omega
  rw [List.getElem?_map, List.getElem?_eq_getElem hk'] at hk
  have e : d = pD (xs.getD k.toNat (0, 0)) := by
    rw [List.getD_eq_getElem?_getD, List.getElem?_eq_getElem hk']
    exact (Option.some.inj hk).symm
  subst e
  obtain ⟨T, t1, t2, q, rfl, hm⟩ := pair_inv hD
  exact h _ _ _ _ hm
theorem sp_item {value slice : PySem.Expr} {news L9 : List (Addr × Obj)} {us : List Value} {xs : List P2} {n : Nat} {k : Int} {u : Tok} {Q : Value → Shared → Prop} (N : News h₀ L s.heap news) (hm : (l, listOf us.toArray n) ∈ news) (hd : DatAll L9 us (xs.map pD))
    (h0 : 0 ≤ k) (h1 : k < (xs.length : Int)) (hfit : k < 2 ^ 63) (h : ∀ T t1 t2 q, (T, tup2 (xs.getD k.toNat (0, 0)) t1 t2 q) ∈ L9 → Q (.ref T) s)
    (hs : subscripted slice false (.ref l) (.int k u) = operate [.ref l, .int k u] (getItem (.ref l) (.int k u)) := by with_unfolding_all rfl) :
    wpAny (model prog w) A (subscriptTail value slice (.ref l) (.int k u)) Q E s := by
  have hl : s.heap.IsList l us.toArray := ⟨_, (N _ hm).1, rfl, n, rfl⟩
  exact tail_any hl.typeIs slot_list_getitem.lookup (sp_getItem N hm hd h0 h1 hfit h) hs
theorem sp_len {news L9 : List (Addr × Obj)} {us : List Value} {xs : List P2} {n : Nat} {Q : Value → Shared → Prop} (N : News h₀ L s.heap news) (hm : (l, listOf us.toArray n) ∈ news) (hd : DatAll L9 us (xs.map pD)) (hfit : (xs.length : Int) < 2 ^ 63)
    (h : Q (.int (xs.length : Int) (s.toks + 1)) { s with toks := s.toks + 1 + 1 }) : wpAny (model prog w) A (call (.builtin "len") [.ref l]) Q E s :=
  kd_len N hm hd (by simpa using hfit) (by simpa using h)
end
theorem all_app {l1 l2 : List (Addr × Obj)} {d : Addr} (h1 : ∀ p ∈ l1, p.1 ≠ d) (h2 : ∀ p ∈ l2, p.1 ≠ d) : ∀ p ∈ l1 ++ l2, p.1 ≠ d :=
  fun p hp => (List.mem_append.mp hp).elim (h1 p) (h2 p)
theorem ne_of_lt9 {l : List (Addr × Obj)} {d : Addr} (h : ∀ p ∈ l, p.1 < d) : ∀ p ∈ l, p.1 ≠ d := fun p hp => Nat.ne_of_lt (h p hp)
theorem ne_of_gt9 {l : List (Addr × Obj)} {d : Addr} (h : ∀ p ∈ l, d < p.1) : ∀ p ∈ l, p.1 ≠ d := fun p hp => Nat.ne_of_gt (h p hp)
noncomputable def CEnd {σ : Type} (h₀ : Heap) (L : Addr) (s : Shared) (Led : σ → List (Addr × Obj)) (ps : σ → List (Str × Value)) (P : σ → Prop) (μ : σ → Nat) (c : σ) (s₂ : Shared) : Prop :=
  ∃ (c' : σ) (h' : Heap) (tk : Nat) (m' : Str → Option Value) (news' : List (Addr × Obj)), s₂ = { s with heap := h', toks := tk } ∧ Fr h₀ L h' m' ∧ News h₀ L h' news' ∧ (∀ p ∈ Led c', p ∈ news') ∧ (∀ p ∈ ps c', m' p.1 = some p.2) ∧ P c' ∧ μ c' < μ c
noncomputable def CPost {σ : Type} (h₀ : Heap) (L : Addr) (s : Shared) (Led : σ → List (Addr × Obj)) (ps : σ → List (Str × Value)) (P : σ → Prop) (μ : σ → Nat) (Q : Flow → Shared → Prop) (c : σ) (f : Flow) (s₂ : Shared) : Prop :=
  match f with
  | .ret v => Q (.ret v) s₂
  | .brk => Q .next s₂
  | _ => CEnd h₀ L s Led ps P μ c s₂
theorem c_fr {h₀ h : Heap} {L : Addr} {m : Str → Option Value} {ps : List (Str × Value)} (F : Fr h₀ L h m) (hk : ∀ p ∈ ps, m p.1 = some p.2) : Fr h₀ L h (kstB m ps) := by
  have e : kstB m ps = m := by
    funext y
    exact kstB_eq hk fun _ => rfl
  rw [e]; exact F
section
variable {prog : Program} {w : World} {A : Around} {E : Value → Shared → Prop} {Q : Flow → Shared → Prop} {s : Shared} {env : Env} {h₀ : Heap} {L : Addr}
theorem whl_c {σ : Type} {test : Expr} {body : List Stmt} {pos : Pos} {m₀ : Str → Option Value} (Led : σ → List (Addr × Obj)) (ps : σ → List (Str × Value)) (P : σ → Prop) (μ : σ → Nat) (c₀ : σ)
    (F : Fr h₀ L s.heap m₀) (N : News h₀ L s.heap (Led c₀)) (hk : ∀ p ∈ ps c₀, m₀ p.1 = some p.2) (hp : P c₀)
    (turn : ∀ (c : σ) (u : Str → Option Value) h tk, P c → Fr h₀ L h (kstB u (ps c)) → News h₀ L h (Led c) →
      wpAny (model prog w) A (isTrue test env (eval test env)) (fun b s₂ =>
        if b = true then wpAny (model prog w) A (execs body env) (CPost h₀ L s Led ps P μ Q c) E s₂ else Q .next s₂) E { s with heap := h, toks := tk })
    (hE : PassesOwn (model prog w) A env E := by passes_own) :
    wpAny (model prog w) A (exec (.While test body [] pos) env) Q E s := by
  refine While_inv2 (fun n m nx => ∃ c : σ, nx = Led c ∧ μ c = n ∧ (∀ p ∈ ps c, m p.1 = some p.2) ∧ P c) F N ⟨c₀, rfl, rfl, hk, hp⟩ ?_ hE
  rintro n m₁ nx h tk F₁ N₁ ⟨c, hnx, hsz, h1, hp'⟩
  rw [hnx] at N₁
  rw [← hsz]
  refine wpAny_mono (turn c m₁ h tk hp' (c_fr F₁ h1) N₁) (fun b s₂ p => ?_) fun _ _ x => x
  cases b with
  | false => simpa using p
  | true =>
    simp only [if_true] at p ⊢
    refine wpAny_mono p (fun f s₃ q => ?_) fun _ _ x => x
    cases f with
    | ret v => exact q
    | brk => exact q
    | next =>
      obtain ⟨c', h', tk', m', news', rfl, F', N', hn, hk9, hp9, hm9⟩ := q
      exact ⟨h', tk', m', Led c', μ c', rfl, F', fun p hp => N' p (hn p hp), hm9, c', rfl, rfl, hk9, hp9⟩
    | cont =>
      obtain ⟨c', h', tk', m', news', rfl, F', N', hn, hk9, hp9, hm9⟩ := q
      exact ⟨h', tk', m', Led c', μ c', rfl, F', fun p hp => N' p (hn p hp), hm9, c', rfl, rfl, hk9, hp9⟩
end
theorem sub_mv {a b : Addr × Obj} {l1 l2 : List (Addr × Obj)} : ∀ p ∈ b :: (l1 ++ (a :: l2)), p ∈ a :: b :: (l1 ++ l2) := by
  intro p hp
  simp only [List.mem_cons, List.mem_append] at hp ⊢
  rcases hp with h | h | h | h
  · exact .inr (.inl h)
  · exact .inr (.inr (.inl h))
  · exact .inl h
  · exact .inr (.inr (.inr h))
theorem sub_mv2 {a b c : Addr × Obj} {l1 l2 : List (Addr × Obj)} : ∀ p ∈ c :: b :: (l1 ++ (a :: l2)), p ∈ a :: c :: b :: (l1 ++ l2) := by
  intro p hp
  simp only [List.mem_cons, List.mem_append] at hp ⊢
  rcases hp with h | h | h | h | h
  · exact .inr (.inl h)
  · exact .inr (.inr (.inl h))
  · exact .inr (.inr (.inr (.inl h)))
  · exact .inl h
  · exact .inr (.inr (.inr (.inr h)))
theorem sub_mv3 {a b c : Addr × Obj} {l1 l2 : List (Addr × Obj)} : ∀ p ∈ b :: (l1 ++ (a :: l2)), p ∈ a :: c :: b :: (l1 ++ l2) := fun p hp => sub_mv2 p (List.mem_cons_of_mem _ hp)
theorem off3 {l I : Addr} {o : Obj} {l1 l2 : List (Addr × Obj)} (h1 : l ≠ I) (h2 : ∀ p ∈ l1, p.1 ≠ I) (h3 : ∀ p ∈ l2, p.1 ≠ I) : ∀ p ∈ (l, o) :: (l1 ++ l2), p.1 ≠ I :=
  List.forall_mem_cons.mpr ⟨h1, fun p hp => (List.mem_append.mp hp).elim (h2 p) (h3 p)⟩
theorem off_cons {D I : Addr} {o : Obj} {l2 : List (Addr × Obj)} (h1 : I < D) (h3 : ∀ p ∈ l2, p.1 ≠ I) : ∀ p ∈ (D, o) :: l2, p.1 ≠ I := List.forall_mem_cons.mpr ⟨Nat.ne_of_gt h1, h3⟩
theorem sub_ap {a : Addr × Obj} {l1 l2 : List (Addr × Obj)} : ∀ p ∈ l1 ++ l2, p ∈ l1 ++ (a :: l2) := by
  intro p hp
  simp only [List.mem_cons, List.mem_append] at hp ⊢
  rcases hp with h | h
  · exact .inl h
  · exact .inr (.inr h)
theorem sp_snoc {news tl : List (Addr × Obj)} {D : Addr} {lo hi : Int} {t1 t2 : Tok} {q : Nat} {vs : List Value} {fo : List P2} (h : DatAll (news ++ tl) vs (fo.map pD)) :
    DatAll (news ++ ((D, ({ cls := .type "tuple", data := .seq #[.int lo t1, .int hi t2] q } : Obj)) :: tl)) (vs ++ [.ref D]) ((fo ++ [(lo, hi)]).map pD) := by
  rw [List.map_append]
  exact DatAll.append (DatAll.mono sub_ap h) (DatAll.one (DatIn.tuple (vs := [.int lo t1, .int hi t2]) (List.mem_append_right _ (.head _)) (.cons (.int _ _) (.cons (.int _ _) .nil))))
theorem gt_cons {tl : List (Addr × Obj)} {l D : Addr} {o : Obj} (h : ∀ p ∈ tl, l < p.1) (hD : l < D) : ∀ p ∈ (D, o) :: tl, l < p.1 := List.forall_mem_cons.mpr ⟨hD, h⟩
theorem sub_out {a : Addr × Obj} {l1 l2 : List (Addr × Obj)} : ∀ p ∈ l1 ++ (a :: l2), p ∈ a :: (l1 ++ l2) := by
  intro p hp
  simp only [List.mem_cons, List.mem_append] at hp ⊢
  rcases hp with h | h | h
  · exact .inr (.inl h)
  · exact .inl h
  · exact .inr (.inr h)
theorem ord_out {news tl : List (Addr × Obj)} {D : Addr} {o : Obj} (h1 : ∀ p ∈ news, p.1 < D) (h2 : ∀ p ∈ tl, D < p.1) : ∀ q ∈ news, ∀ p ∈ (D, o) :: tl, q.1 < p.1 := by
  intro q hq p hp
  rcases List.mem_cons.mp hp with rfl | hp
  · exact h1 q hq
  · exact Nat.lt_trans (h1 q hq) (h2 p hp)
theorem sp_out {news tl : List (Addr × Obj)} {D : Addr} {n : Nat} {vs : List Value} {fo : List P2} (h : DatAll (news ++ tl) vs (fo.map pD)) : DatIn (news ++ ((D, listOf vs.toArray n) :: tl)) (.ref D) (spD fo) :=
  DatIn.list (List.mem_append_right _ (.head _)) (DatAll.mono sub_ap h)
theorem sp_snocF {tl : List (Addr × Obj)} {D : Addr} {lo hi : Int} {t1 t2 : Tok} {q : Nat} {vs : List Value} {fo : List P2} (h : DatAll tl vs (fo.map pD)) :
    DatAll ((D, ({ cls := .type "tuple", data := .seq #[.int lo t1, .int hi t2] q } : Obj)) :: tl) (vs ++ [.ref D]) ((fo ++ [(lo, hi)]).map pD) := by
  rw [List.map_append]
  exact DatAll.append (DatAll.mono (fun _ h => .tail _ h) h) (DatAll.one (DatIn.tuple (vs := [.int lo t1, .int hi t2]) (.head _) (.cons (.int _ _) (.cons (.int _ _) .nil))))
theorem sp_outF {tl : List (Addr × Obj)} {D : Addr} {n : Nat} {vs : List Value} {fo : List P2} (h : DatAll tl vs (fo.map pD)) : DatIn ((D, listOf vs.toArray n) :: tl) (.ref D) (spD fo) :=
  DatIn.list (.head _) (DatAll.mono (fun _ h => .tail _ h) h)
noncomputable def TellsF {D : Type} (prog : Program) (w : World) (K : Frag) (p : Program) (loose : List Str) (mean : ExcName → Option Value) (mg mb : Str → Option Value) (f : Addr) (c : ToldN D) (d : D) : Prop :=
  ∀ (dp un : Nat) (gd : Option (List Code)) (cn : Str) (cs : Scope) (a : Addr) (ccd : Value) (cl : List (Str × Addr)) (outer : List Env) (A₀ : Around) (base h₀ : Heap) (L : Addr) (m : Str → Option Value) (news : List (Addr × Obj)) (s : Shared) (vs : List Value)
    (Q E : Value → Shared → Prop),
    Below A₀ base outer h₀ → Fr h₀ L s.heap m → K.In h₀ → News h₀ L s.heap news → Top p loose mean mg mb h₀ → cs.kind = .function → c.Rel news vs d → c.Ok d → dp + c.size d < recursionLimit → un + 8 * c.size d < cLine →
    (∀ r tl h' tk', Fr h₀ L h' m → News h₀ L h' (news ++ tl) → (∀ q ∈ news, ∀ p ∈ tl, q.1 < p.1) → c.Tl tl → c.Out tl r d → Q r { s with heap := h', toks := tk' }) →
    wpAny (model prog w) (ktrTop dp un gd cn cs L a ccd cl outer) (call (.ref f) vs) Q E s
section
variable {D : Type} {prog : Program} {w : World} {K : Frag} {p : Program} {loose : List Str} {mean : ExcName → Option Value} {mg mb : Str → Option Value} {f : Addr} {c : ToldN D}
theorem tellsF_use {d : D} {dp un : Nat} {gd : Option (List Code)} {cn : Str} {cs : Scope} {a : Addr} {ccd : Value} {cl : List (Str × Addr)} {outer : List Env} {A₀ : Around} {base h₀ : Heap} {L : Addr} {m : Str → Option Value} {news : List (Addr × Obj)} {s : Shared} {vs : List Value}
    {Q E : Value → Shared → Prop} (B : Below A₀ base outer h₀) (F : Fr h₀ L s.heap m) (X : K.In h₀) (N : News h₀ L s.heap news) (T : Top p loose mean mg mb h₀) (hk : cs.kind = .function) (R : c.Rel news vs d) (C : TellsF prog w K p loose mean mg mb f c d) (ok : c.Ok d)
    (hd : dp + c.size d < recursionLimit) (hu : un + 8 * c.size d < cLine)
    {sv : Shared} (hs : s = { sv with heap := s.heap, toks := s.toks })
    (ret : ∀ r tl h' tk', Fr h₀ L h' m → News h₀ L h' (news ++ tl) → (∀ q ∈ news, ∀ p ∈ tl, q.1 < p.1) → c.Tl tl → c.Out tl r d → Q r { sv with heap := h', toks := tk' }) :
    wpAny (model prog w) (ktrTop dp un gd cn cs L a ccd cl outer) (call (.ref f) vs) Q E s := C _ _ _ _ _ _ _ _ _ _ _ _ _ _ _ _ _ _ _ B F X N T hk R ok hd hu fun r tl h' tk' F' N' ho ht hq => by
    have e := ret r tl h' tk' F' N' ho ht hq
    rw [hs]; exact e
theorem tellsM_use {d : D} {dp un : Nat} {gd : Option (List Code)} {cn : Str} {cs : Scope} {a : Addr} {ccd : Value} {cl : List (Str × Addr)} {outer : List Env} {A₀ : Around} {base h₀ : Heap} {L : Addr} {m : Str → Option Value} {news : List (Addr × Obj)} {s : Shared} {vs : List Value}
    {Q E : Value → Shared → Prop} (B : Below A₀ base outer h₀) (F : Fr h₀ L s.heap m) (X : K.In h₀) (N : News h₀ L s.heap news) (T : Top p loose mean mg mb h₀) (hk : cs.kind = .function) (R : c.Rel news vs d) (C : TellsN prog w K p loose mean mg mb f c d) (ok : c.Ok d)
    (hd : dp + c.size d < recursionLimit) (hu : un + 8 * c.size d < cLine)
    {sv : Shared} (hs : s = { sv with heap := s.heap, toks := s.toks })
    (ret : ∀ r tl h' tk', Fr h₀ L h' m → News h₀ L h' (news ++ tl) → (∀ q ∈ news, ∀ p ∈ tl, q.1 < p.1) → c.Tl tl → c.Out (news ++ tl) r d → Q r { sv with heap := h', toks := tk' }) :
    wpAny (model prog w) (ktrTop dp un gd cn cs L a ccd cl outer) (call (.ref f) vs) Q E s := C _ _ _ _ _ _ _ _ _ _ _ _ _ _ _ _ _ _ _ B F X N T hk R ok hd hu fun r tl h' tk' F' N' ho ht hq => by
    have e := ret r tl h' tk' F' N' ho ht hq
    rw [hs]; exact e
theorem tellsF_N {d : D} (C : TellsF prog w K p loose mean mg mb f c d) (hm : ∀ a b r, (∀ p ∈ a, p ∈ b) → c.Out a r d → c.Out b r d) : TellsN prog w K p loose mean mg mb f c d := by
  intro dp un gd cn cs a ccd cl outer A₀ base h₀ L m news s vs Q E B F X N T hk R ok hd hu ret
  exact C dp un gd cn cs a ccd cl outer A₀ base h₀ L m news s vs Q E B F X N T hk R ok hd hu fun r tl h' tk' F' N' ho ht hq => ret r tl h' tk' F' N' ho ht (hm _ _ _ (fun p hp => List.mem_append_right _ hp) hq)
end
noncomputable def Stop (p : Prop) : Prop := p
theorem of_stop {p : Prop} (h : Stop p) : p := h
theorem to_stop {p : Prop} (h : p) : Stop p := h
theorem sub_c1 {a : Addr × Obj} {l1 l2 : List (Addr × Obj)} : ∀ p ∈ l1 ++ (a :: l2), p ∈ (a :: l1) ++ l2 := by
  intro p hp
  simp only [List.mem_cons, List.mem_append, List.cons_append] at hp ⊢
  rcases hp with h | h | h
  · exact .inr (.inl h)
  · exact .inl h
  · exact .inr (.inr h)
theorem sub_c2 {a : Addr × Obj} {l1 l2 : List (Addr × Obj)} : ∀ p ∈ (a :: l1) ++ l2, p ∈ l1 ++ (a :: l2) := by
  intro p hp
  simp only [List.mem_cons, List.mem_append, List.cons_append] at hp ⊢
  rcases hp with h | h | h
  · exact .inr (.inl h)
  · exact .inl h
  · exact .inr (.inr h)
theorem ord_c {news tl : List (Addr × Obj)} {D : Addr} {o : Obj} (h1 : ∀ p ∈ news, p.1 < D) (h2 : ∀ q ∈ (D, o) :: news, ∀ p ∈ tl, q.1 < p.1) : ∀ q ∈ news, ∀ p ∈ (D, o) :: tl, q.1 < p.1 := by
  intro q hq p hp
  rcases List.mem_cons.mp hp with rfl | hp
  · exact h1 q hq
  · exact h2 q (.tail _ hq) p hp
theorem hd_ex2 {h₀ h : Heap} {L l k : Addr} {o o' : Obj} {news : List (Addr × Obj)} (_N : News h₀ L h ((l, o) :: (k, o') :: news)) : ∃ x, x = k := ⟨_, rfl⟩
theorem hd_ex {h₀ h : Heap} {L l : Addr} {o : Obj} {news : List (Addr × Obj)} (_N : News h₀ L h ((l, o) :: news)) : ∃ x, x = l := ⟨_, rfl⟩
theorem news_sub {h₀ h : Heap} {L : Addr} {a b : List (Addr × Obj)} (N : News h₀ L h a) (hs : ∀ p ∈ b, p ∈ a) : News h₀ L h b := fun p hp => N p (hs p hp)
theorem mem_t9 {a b : Addr × Obj} {l : List (Addr × Obj)} (h : a ∈ l) : a ∈ b :: l := .tail _ h
theorem off_c {I a : Addr} {o : Obj} {l : List (Addr × Obj)} (h : a ≠ I) (hs : ∀ p ∈ l, p.1 ≠ I) : ∀ p ∈ (a, o) :: l, p.1 ≠ I := List.forall_mem_cons.mpr ⟨h, hs⟩
theorem off_n {I : Addr} : ∀ p ∈ ([] : List (Addr × Obj)), p.1 ≠ I := fun _ h => nomatch h
theorem sub_n {B : List (Addr × Obj)} : ∀ p ∈ ([] : List (Addr × Obj)), p ∈ B := fun _ h => nomatch h
theorem sub_cc {a : Addr × Obj} {A B : List (Addr × Obj)} (h : a ∈ B) (hs : ∀ p ∈ A, p ∈ B) : ∀ p ∈ a :: A, p ∈ B := List.forall_mem_cons.mpr ⟨h, hs⟩
theorem sub_a {A A' B : List (Addr × Obj)} (h : ∀ p ∈ A, p ∈ B) (hs : ∀ p ∈ A', p ∈ B) : ∀ p ∈ A ++ A', p ∈ B := fun p hp => (List.mem_append.mp hp).elim (h p) (hs p)
theorem sub_t {b : Addr × Obj} {A B : List (Addr × Obj)} (h : ∀ p ∈ A, p ∈ B) : ∀ p ∈ A, p ∈ b :: B := fun p hp => .tail _ (h p hp)
theorem sub_l {A B B' : List (Addr × Obj)} (h : ∀ p ∈ A, p ∈ B) : ∀ p ∈ A, p ∈ B ++ B' := fun p hp => List.mem_append_left _ (h p hp)
theorem sub_r {A B B' : List (Addr × Obj)} (h : ∀ p ∈ A, p ∈ B') : ∀ p ∈ A, p ∈ B ++ B' := fun p hp => List.mem_append_right _ (h p hp)
theorem sub_i {A : List (Addr × Obj)} : ∀ p ∈ A, p ∈ A := fun _ h => h
theorem pred_ge {i : Int} (h : 0 < i) : 0 ≤ i - 1 := by omega
theorem pred_lt {i n : Nat} (h : i < n) : (i : Int) - 1 < (n : Int) := by omega
theorem meas_0 {i : Int} {n : Nat} (h0 : 0 ≤ i) (h : i < (n : Int)) : n - (i + 1).toNat < n - i.toNat := by omega
theorem pred_nat (i : Nat) : ((i : Int) - 1).toNat = i - 1 := by omega
theorem fit_of {k : Int} {n : Nat} (h : k < (n : Int)) (hn : n ≤ 64) : k < 2 ^ 63 := by omega
theorem room {dp k R : Nat} (h : dp + 16 < R) (hk : 1 + k ≤ 16) : dp + 1 + k < R := by omega
theorem roomU {un k R : Nat} (h : un + 128 < R) (hk : 3 + 8 * k ≤ 128) : un + 3 + 8 * k < R := by omega
end Mine
end
section
open PySem PySem.W PyProof.Rows
namespace Mine
noncomputable def NotSeq (o : Obj) : Prop := match o.data with
  | .seq _ _ => False
  | _ => True
noncomputable def FEnd {σ : Type} (h₀ : Heap) (L : Addr) (s : Shared) (I : Addr) (oI : Obj) (Led : σ → List (Addr × Obj)) (ps : σ → List (Str × Value)) (P : σ → Prop) (s₂ : Shared) : Prop :=
  ∃ (c' : σ) (h' : Heap) (tk : Nat) (m' : Str → Option Value) (news' : List (Addr × Obj)), s₂ = { s with heap := h', toks := tk } ∧ Fr h₀ L h' m' ∧ News h₀ L h' news' ∧ (∀ p ∈ Led c', p ∈ news') ∧ (I, oI) ∈ news' ∧ (∀ p ∈ Led c', p.1 ≠ I) ∧ (∀ p ∈ ps c', m' p.1 = some p.2) ∧ P c'
noncomputable def FPost {σ : Type} (h₀ : Heap) (L : Addr) (s : Shared) (I : Addr) (oI : Obj) (Led : σ → List (Addr × Obj)) (ps : σ → List (Str × Value)) (P : σ → Prop) (Q : Flow → Shared → Prop) (f : Flow) (s₂ : Shared) : Prop :=
  match f with
  | .ret v => Q (.ret v) s₂
  | .brk => Q .next s₂
  | _ => FEnd h₀ L s I oI Led ps P s₂
section
variable {prog : Program} {w : World} {A : Around} {E : Value → Shared → Prop} {s : Shared} {env : Env} {h₀ : Heap} {target : PySem.Expr} {body : List Stmt} {Q : Flow → Shared → Prop}
set_option maxHeartbeats 3200000 in
theorem for_list {σ : Type} {sv0 : Shared} {L : Addr} {l : Addr} {us : List Value} {nn : Nat} {m₀ : Str → Option Value} (Led : σ → List (Addr × Obj)) (ps : σ → List (Str × Value)) (P : Nat → σ → Prop) (c₀ : σ)
    (hl : ∀ c, (l, listOf us.toArray nn) ∈ Led c) (F : Fr h₀ L s.heap m₀) (N : News h₀ L s.heap (Led c₀)) (hk : ∀ p ∈ ps c₀, m₀ p.1 = some p.2) (hp : P 0 c₀)
    (turn : ∀ i v c (u : Str → Option Value) (sv : Shared) I oI (PQ : Flow → Shared → Prop), us[i]? = some v → P i c → (∀ p ∈ Led c, p.1 ≠ I) → Fr h₀ L sv.heap (kstB u (ps c)) → News h₀ L sv.heap ((I, oI) :: Led c) →
      (∀ f s₂, FPost h₀ L sv I oI Led ps (P (i + 1)) Q f s₂ → PQ f s₂) → wpAny (model prog w) A (assign target env v) (fun _ s₃ => wpAny (model prog w) A (execs body env) PQ E s₃) E sv)
    (done : ∀ c (u : Str → Option Value) h tk, P us.length c → Fr h₀ L h (kstB u (ps c)) → News h₀ L h (Led c) → Q .next { sv0 with heap := h, toks := tk })
    (hh : A.handled = none := by rfl) (hL : env.locals = L := by rfl) (hs0 : s = { sv0 with heap := s.heap, toks := s.toks } := by rfl) :
    wpAny (model prog w) A (pyIter (.ref l)) (fun it s₂ => TurnsAt prog w A h₀ env target body Q E it s₂) E s := by
  subst hL
  have hol : s.heap.get? l = some (listOf us.toArray nn) := (N _ (hl c₀)).1
  have hls : s.heap.IsList l us.toArray := ⟨_, hol, rfl, nn, rfl⟩
  have hne : l ≠ s.heap.objs.size := Nat.ne_of_lt (Heap.lt_size hol)
  refine wpAny_pyIter_list hls ?_
  have W := Walks.list (prog := prog) (w := w) hh s.heap.objs.size l hne us.toArray
  have hlen : us.toArray.size = us.length := by simp
  rw [hlen] at W
  have hI0 : h₀.get? s.heap.objs.size = none := next_is_new F
  refine ⟨_, _, _, us.length, _, _, _, m₀, Led c₀, (fun i m nx => ∃ c, nx = Led c ∧ (∀ p ∈ ps c, m p.1 = some p.2) ∧ P i c), rfl, KTurns.ofWalks W (fun i v s' Q' E' st hQ' => letGo_listiter st.1 hQ'), ?_, ?_, ?_, ⟨⟨_, Heap.get?_push_size _ rfl, rfl, rfl⟩, hls.at fun o e => Heap.get?_push_of_some _ e⟩, F.push _, (fun p hp => ⟨Heap.get?_push_of_some _ (N p hp).1, (N p hp).2⟩), ⟨c₀, rfl, hk, hp⟩, ?_, ?_⟩
  · intro hm
    rcases List.mem_cons.mp hm with e | hm
    · exact absurd F.ns.lt (e ▸ Nat.lt_irrefl _)
    · exact (N _ (hl c₀)).2.1 ((List.mem_singleton.mp hm).symm)
  · intro b hb
    rw [List.mem_singleton.mp hb]
    exact hI0
  · intro p hp hI
    exact absurd (Heap.lt_size (N p hp).1) ((List.mem_singleton.mp hI) ▸ Nat.lt_irrefl _)
  · rintro i v m₁ news₁ h₁ tk₁ own hin hP ⟨c, rfl, hk', hp'⟩ hoff hown hget hfp hst F₁ N₁
    have hP' : us[i]? = some v := by simpa using hP
    obtain ⟨⟨oI, hoI, _⟩, _⟩ := id hst
    have hIown : (s.heap.objs.size, oI) ∈ own := hfp _ (List.mem_cons.mpr (.inl rfl)) hI0 _ hoI
    have N₂ : News h₀ env.locals h₁ ((s.heap.objs.size, oI) :: Led c) := fun p hp => N₁ p ((List.mem_cons.mp hp).elim (fun e => List.mem_append.mpr (.inl (e ▸ hIown))) fun h => List.mem_append.mpr (.inr h))
    have hlo : h₁.get? l = some (listOf us.toArray nn) := (N₁ _ (List.mem_append.mpr (.inr (hl c)))).1
    refine wpAny_mono (turn i v c m₁ { s with heap := h₁, toks := tk₁ } _ oI (FPost h₀ env.locals { s with heap := h₁, toks := tk₁ } s.heap.objs.size oI Led ps (P (i + 1)) Q) hP' hp' (fun p hp e => hoff p hp (List.mem_singleton.mpr e)) (c_fr F₁ hk') N₂ fun _ _ h => h) (fun _ s₃ h₃ => wpAny_mono h₃ (fun f s₂ p => ?_) fun _ _ e => e) fun _ _ e => e
    have fin : FEnd h₀ env.locals { s with heap := h₁, toks := tk₁ } s.heap.objs.size oI Led ps (P (i + 1)) s₂ →
        LoopStepU h₀ env.locals [s.heap.objs.size] own (fun m nx => ∃ c, nx = Led c ∧ (∀ p ∈ ps c, m p.1 = some p.2) ∧ P (i + 1) c) { s with heap := h₁, toks := tk₁ } .next s₂ := by
      rintro ⟨c', h', tk, m', news', e, F', N', hn, hI, ha, hk9, hp9⟩
      refine ⟨rfl, h', tk, m', Led c', e, F', fun p hp => ?_, fun p hp hq => ha p hp (List.mem_singleton.mp hq), c', rfl, hk9, hp9⟩
      rcases List.mem_append.mp hp with h | h
      · have h2 : h₁.get? p.1 = some p.2 := hget p h
        rcases List.mem_cons.mp (hown p h) with h3 | h3
        · rw [h3, hoI] at h2
          have e3 : p = (s.heap.objs.size, oI) := Prod.ext h3 (Option.some.inj h2).symm
          rw [e3]; exact N' _ hI
        · have h4 := List.mem_singleton.mp h3
          rw [h4, hlo] at h2
          have e3 : p = (l, listOf us.toArray nn) := Prod.ext h4 (Option.some.inj h2).symm
          rw [e3]; exact N' _ (hn _ (hl c'))
      · exact N' p (hn p h)
    cases f with
    | ret v => exact .ret p
    | brk => exact .brk p
    | next => exact .next (fin p)
    | cont => exact .cont (fin p)
  · rintro h' tk m' news' F' N' _ ⟨c, rfl, hk', hp'⟩
    have e9 := done c m' h' tk hp' (c_fr F' hk') N'
    rw [hs0]; exact e9

set_option maxHeartbeats 3200000 in
theorem for_range2 {σ : Type} {sv0 : Shared} {L : Addr} {r : Addr} {a₀ b₀ : Int} {t₀ u₀ v₀ : Tok} {n : Nat} {m₀ : Str → Option Value} (Led : σ → List (Addr × Obj)) (ps : σ → List (Str × Value)) (P : Nat → σ → Prop) (c₀ : σ)
    (hr : IsRange s.heap r a₀ b₀ 1 t₀ u₀ v₀) (hsmall : Builtin.Range.small a₀ b₀ 1 = true) (hn : Builtin.Range.rangeSize a₀ b₀ 1 = (n : Int)) (F : Fr h₀ L s.heap m₀) (N : News h₀ L s.heap (Led c₀)) (hk : ∀ p ∈ ps c₀, m₀ p.1 = some p.2) (hp : P 0 c₀)
    (turn : ∀ (i : Nat) t c (u : Str → Option Value) (sv : Shared) I oI (PQ : Flow → Shared → Prop), i < n → P i c → NotSeq oI → (∀ p ∈ Led c, p.1 ≠ I) → Fr h₀ L sv.heap (kstB u (ps c)) → News h₀ L sv.heap ((I, oI) :: Led c) →
      (∀ f s₂, FPost h₀ L sv I oI Led ps (P (i + 1)) Q f s₂ → PQ f s₂) → wpAny (model prog w) A (assign target env (.int (a₀ + (i : Int)) t)) (fun _ s₃ => wpAny (model prog w) A (execs body env) PQ E s₃) E sv)
    (done : ∀ c (u : Str → Option Value) h tk, P n c → Fr h₀ L h (kstB u (ps c)) → News h₀ L h (Led c) → Q .next { sv0 with heap := h, toks := tk })
    (hgo : ∀ i x left step v (s' : Shared) (Q' : Unit → Shared → Prop) (E' : Value → Shared → Prop), IsRangeIter s'.heap i x left step → Q' () s' → wpAny (model prog w) A (letOwnedTupleGo target (.ref i) v) Q' E' s' := by intro i x left step v s' Q' E' h1 h2; exact wpAny_pure h2)
    (hh : A.handled = none := by rfl) (hL : env.locals = L := by rfl) (hs0 : s = { sv0 with heap := s.heap, toks := s.toks } := by rfl) :
    wpAny (model prog w) A (pyIter (.ref r)) (fun it s₂ => TurnsAt prog w A h₀ env target body Q E it s₂) E s := by
  subst hL
  refine wpAny_pyIter_range hr hsmall ?_
  have W := Walks.range (prog := prog) (w := w) hh s.heap.objs.size a₀ 1 n
  have hI0 : h₀.get? s.heap.objs.size = none := next_is_new F
  refine ⟨_, _, _, n, _, _, _, m₀, Led c₀, (fun i m nx => ∃ c, nx = Led c ∧ (∀ p ∈ ps c, m p.1 = some p.2) ∧ P i c), rfl, KTurns.ofWalks W (fun i v s' Q' E' st hQ' => hgo _ _ _ _ _ _ _ _ st hQ'), ?_, ?_, ?_, (by show IsRangeIter _ _ _ _ _; rw [hn]; simpa using Heap.get?_push_size _ rfl), F.push _, (fun p hp => ⟨Heap.get?_push_of_some _ (N p hp).1, (N p hp).2⟩), ⟨c₀, rfl, hk, hp⟩, ?_, ?_⟩
  · intro hm
    exact absurd F.ns.lt ((List.mem_singleton.mp hm) ▸ Nat.lt_irrefl _)
  · intro b hb
    rw [List.mem_singleton.mp hb]
    exact hI0
  · intro p hp hI
    exact absurd (Heap.lt_size (N p hp).1) ((List.mem_singleton.mp hI) ▸ Nat.lt_irrefl _)
  · rintro i v m₁ news₁ h₁ tk₁ own hin ⟨t, rfl⟩ ⟨c, rfl, hk', hp'⟩ hoff hown hget hfp hst F₁ N₁
    have hst' : h₁.get? s.heap.objs.size = some _ := hst
    have hIown := hfp s.heap.objs.size (List.mem_singleton.mpr rfl) hI0 _ hst'
    have N₂ : News h₀ env.locals h₁ ((s.heap.objs.size, _) :: Led c) := fun p hp => N₁ p ((List.mem_cons.mp hp).elim (fun e => List.mem_append.mpr (.inl (e ▸ hIown))) fun h => List.mem_append.mpr (.inr h))
    have e1 : a₀ + (i : Int) * 1 = a₀ + (i : Int) := by omega
    rw [e1]
    refine wpAny_mono (turn i t c m₁ { s with heap := h₁, toks := tk₁ } _ _ (FPost h₀ env.locals { s with heap := h₁, toks := tk₁ } s.heap.objs.size _ Led ps (P (i + 1)) Q) hin hp' (by exact trivial) (fun p hp e => hoff p hp (List.mem_singleton.mpr e)) (c_fr F₁ hk') N₂ fun _ _ h => h) (fun _ s₃ h₃ => wpAny_mono h₃ (fun f s₂ p => ?_) fun _ _ e => e) fun _ _ e => e
    have fin : ∀ {oI : Obj}, h₁.get? s.heap.objs.size = some oI → FEnd h₀ env.locals { s with heap := h₁, toks := tk₁ } s.heap.objs.size oI Led ps (P (i + 1)) s₂ →
        LoopStepU h₀ env.locals [s.heap.objs.size] own (fun m nx => ∃ c, nx = Led c ∧ (∀ p ∈ ps c, m p.1 = some p.2) ∧ P (i + 1) c) { s with heap := h₁, toks := tk₁ } .next s₂ := by
      rintro oI hoI ⟨c', h', tk, m', news', e, F', N', hn, hI, ha, hk9, hp9⟩
      refine ⟨rfl, h', tk, m', Led c', e, F', fun p hp => ?_, fun p hp hq => ha p hp (List.mem_singleton.mp hq), c', rfl, hk9, hp9⟩
      rcases List.mem_append.mp hp with h | h
      · have h2 : h₁.get? p.1 = some p.2 := hget p h
        have h3 := List.mem_singleton.mp (hown p h)
        rw [h3, hoI] at h2
        have e3 : p = (s.heap.objs.size, oI) := Prod.ext h3 (Option.some.inj h2).symm
        rw [e3]; exact N' _ hI
      · exact N' p (hn p h)
    cases f with
    | ret v => exact .ret p
    | brk => exact .brk p
    | next => exact .next (fin hst' p)
    | cont => exact .cont (fin hst' p)
  · rintro h' tk m' news' F' N' _ ⟨c, rfl, hk', hp'⟩
    have e9 := done c m' h' tk hp' (c_fr F' hk') N'
    rw [hs0]; exact e9
end
noncomputable def DEnd {σ : Type} (h₀ : Heap) (L : Addr) (s : Shared) (Led : σ → List (Addr × Obj)) (ps : σ → List (Str × Value)) (D : σ → Prop) (s₂ : Shared) : Prop :=
  ∃ (c' : σ) (h' : Heap) (tk : Nat) (m' : Str → Option Value) (news' : List (Addr × Obj)), s₂ = { s with heap := h', toks := tk } ∧ Fr h₀ L h' m' ∧ News h₀ L h' news' ∧ (∀ p ∈ Led c', p ∈ news') ∧ (∀ p ∈ ps c', m' p.1 = some p.2) ∧ D c'
section
variable {prog : Program} {w : World} {A : Around} {E : Value → Shared → Prop} {Q : Flow → Shared → Prop} {s : Shared} {env : Env} {h₀ : Heap} {L : Addr}
theorem whl_d {σ : Type} {sv0 : Shared} {test : Expr} {body : List Stmt} {pos : Pos} {m₀ : Str → Option Value} (Led : σ → List (Addr × Obj)) (ps : σ → List (Str × Value)) (P : σ → Prop) (D : σ → Prop) (μ : σ → Nat) (c₀ : σ)
    (F : Fr h₀ L s.heap m₀) (N : News h₀ L s.heap (Led c₀)) (hk : ∀ p ∈ ps c₀, m₀ p.1 = some p.2) (hp : P c₀)
    (turn : ∀ (c : σ) (u : Str → Option Value) (sv : Shared) (PQ : Flow → Shared → Prop) (PD : Shared → Prop), P c → Fr h₀ L sv.heap (kstB u (ps c)) → News h₀ L sv.heap (Led c) →
      (∀ s₂, CEnd h₀ L sv Led ps P μ c s₂ → PQ .next s₂) → (∀ s₂, DEnd h₀ L sv Led ps D s₂ → PD s₂) → (∀ v h tk, Q (.ret v) { s with heap := h, toks := tk } → PQ (.ret v) { sv with heap := h, toks := tk }) →
      wpAny (model prog w) A (isTrue test env (eval test env)) (fun b s₂ => if b = true then wpAny (model prog w) A (execs body env) PQ E s₂ else PD s₂) E sv)
    (done : ∀ c (u : Str → Option Value) h tk, D c → Fr h₀ L h (kstB u (ps c)) → News h₀ L h (Led c) → Q .next { sv0 with heap := h, toks := tk })
    (hE : PassesOwn (model prog w) A env E := by passes_own) (hs0 : s = { sv0 with heap := s.heap, toks := s.toks } := by rfl) :
    wpAny (model prog w) A (exec (.While test body [] pos) env) Q E s := by
  refine wpAny_mono (whl_c (Q := fun f s' => match f with | .next => DEnd h₀ L s Led ps D s' | f => Q f s') Led ps P μ c₀ F N hk hp (fun c u h tk hc F₁ N₁ => turn c u { s with heap := h, toks := tk } _ _ hc F₁ N₁ (fun _ h => h) (fun _ h => h) fun _ _ _ h => h) hE) (fun f s' hq => ?_) fun _ _ x => x
  cases f with
  | next =>
    obtain ⟨c', h', tk, m', news', rfl, F', N', hn, hk', hd⟩ := hq
    have e9 := done c' m' h' tk hd (c_fr F' hk') fun p hp => N' p (hn p hp)
    rw [hs0]; exact e9
  | cont => exact hq
  | brk => exact hq
  | ret v => exact hq
end
section
variable {prog : Program} {w : World} {A : Around} {E : Value → Shared → Prop} {s : Shared} {h₀ : Heap} {L : Addr} {env : Env}
theorem st_cut {σ : Type} {sv : Shared} {st : Stmt} {Q : Flow → Shared → Prop} {m : Str → Option Value} (Led : σ → List (Addr × Obj)) (ps : σ → List (Str × Value)) (P : σ → Prop) (hs : s = { sv with heap := s.heap, toks := s.toks }) (_F : Fr h₀ L s.heap m)
    (h : ∀ PQ : Flow → Shared → Prop, (∀ c u news' hh tk, P c → Fr h₀ L hh u → (∀ p ∈ ps c, u p.1 = some p.2) → News h₀ L hh news' → (∀ p ∈ Led c, p ∈ news') → PQ .next { s with heap := hh, toks := tk }) → wpAny (model prog w) A (exec st env) PQ E s)
    (k : ∀ c u hh tk, P c → Fr h₀ L hh (kstB u (ps c)) → News h₀ L hh (Led c) → Q .next { sv with heap := hh, toks := tk }) :
    wpAny (model prog w) A (exec st env) Q E s := by
  refine wpAny_mono (h (fun f s' => f = .next ∧ ∃ c u hh tk, P c ∧ Fr h₀ L hh u ∧ (∀ p ∈ ps c, u p.1 = some p.2) ∧ News h₀ L hh (Led c) ∧ s' = { s with heap := hh, toks := tk }) fun c u news' hh tk hp F' hk N' hn => ⟨rfl, c, u, hh, tk, hp, F', hk, fun p hp => N' p (hn p hp), rfl⟩) (fun f s' q => ?_) fun _ _ x => x
  obtain ⟨rfl, c, u, hh, tk, hp, F', hk, N', rfl⟩ := q
  have e := k c u hh tk hp (c_fr F' hk) N'
  rw [hs]; exact e
end
end Mine
end
section
open PySem PySem.W PyProof.Rows
namespace Mine
noncomputable def mskip (lo : Int) : List P2 → List P2
  | [] => []
  | y :: ys => if y.2 < lo then mskip lo ys else y :: ys
noncomputable def mcut (hi : Int) : Int → List P2 → List P2
  | b, [] => if b ≤ hi then [(b, hi)] else []
  | b, y :: ys => if y.1 ≤ hi then (if b < y.1 then [(b, y.1 - 1)] else []) ++ mcut hi (y.2 + 1) ys else (if b ≤ hi then [(b, hi)] else [])
noncomputable def minusF : List P2 → List P2 → List P2
  | [], _ => []
  | x :: xs, bs => mcut x.2 x.1 (mskip x.1 bs) ++ minusF xs (mskip x.1 bs)
noncomputable abbrev minusT : ToldN (List P2 × List P2) where
  Rel := fun news vs d => ∃ va vb, vs = [va, vb] ∧ DatIn news va (spD d.1) ∧ DatIn news vb (spD d.2)
  Ok := fun d => d.1.length ≤ 64 ∧ d.2.length ≤ 64
  size := fun _ => 1
  Tl := fun _ => True
  Out := fun news r d => DatIn news r (spD (minusF d.1 d.2))
theorem mskip_go {lo : Int} {ys : List P2} {j : Int} (h0 : 0 ≤ j) (h : j < (ys.length : Int)) (h1 : (ys.getD j.toNat (0, 0)).2 < lo) : mskip lo (ys.drop (j + 1).toNat) = mskip lo (ys.drop j.toNat) := by
  rw [drop_at h0 h, mskip, if_pos h1]
theorem mskip_stop {lo : Int} {ys : List P2} {j : Int} (h0 : 0 ≤ j) (h : j < (ys.length : Int)) (h1 : ¬ (ys.getD j.toNat (0, 0)).2 < lo) : mskip lo (ys.drop j.toNat) = ys.drop j.toNat := by
  rw [drop_at h0 h, mskip, if_neg h1]
theorem mskip_end {lo : Int} {ys : List P2} {j : Int} (h : ¬ j < (ys.length : Int)) : mskip lo (ys.drop j.toNat) = ys.drop j.toNat := by
  rw [List.drop_of_length_le (by omega), mskip]
theorem mcut_stop {hi b : Int} {ys : List P2} {k : Int} (h0 : 0 ≤ k) (h : k < (ys.length : Int)) (h1 : ¬ (ys.getD k.toNat (0, 0)).1 ≤ hi) : mcut hi b (ys.drop k.toNat) = if b ≤ hi then [(b, hi)] else [] := by
  rw [drop_at h0 h, mcut, if_neg h1]
theorem mcut_end {hi b : Int} {ys : List P2} {k : Int} (h : ¬ k < (ys.length : Int)) : mcut hi b (ys.drop k.toNat) = if b ≤ hi then [(b, hi)] else [] := by
  rw [List.drop_of_length_le (by omega), mcut]
theorem drop_nat {xs : List P2} {i : Nat} (h : i < xs.length) : xs.drop i = xs.getD i (0, 0) :: xs.drop (i + 1) := by
  rw [List.drop_eq_getElem_cons h, List.getD_eq_getElem?_getD, List.getElem?_eq_getElem h]
  rfl
theorem minus_go {xs ys fo R : List P2} {i : Nat} (h : i < xs.length) (e : fo ++ minusF (xs.drop i) ys = R) :
    (fo ++ mcut (xs.getD i (0, 0)).2 (xs.getD i (0, 0)).1 (mskip (xs.getD i (0, 0)).1 ys)) ++ minusF (xs.drop (i + 1)) (mskip (xs.getD i (0, 0)).1 ys) = R := by
  rw [← e, drop_nat h, minusF]; simp
theorem sp_at {L9 : List (Addr × Obj)} {us : List Value} {xs : List P2} {i : Nat} {v : Value} (hd : DatAll L9 us (xs.map pD)) (hv : us[i]? = some v) :
    ∃ T t1 t2 q, v = .ref T ∧ (T, tup2 (xs.getD i (0, 0)) t1 t2 q) ∈ L9 ∧ i < xs.length := by
  have hi : i < xs.length := by
    have := hd.length
    rw [List.length_map] at this
    rw [← this]
    exact (List.getElem?_eq_some_iff.mp hv).1
  obtain ⟨v', hv', hD⟩ := hd.get (k := i) (by simpa using hi)
  rw [hv] at hv'
  cases hv'
  rw [List.getElem_map] at hD
  have e : xs[i] = xs.getD i (0, 0) := by rw [List.getD_eq_getElem?_getD, List.getElem?_eq_getElem hi]; rfl
  rw [e] at hD
  obtain ⟨T, t1, t2, q, rfl, hm⟩ := pair_inv hD
  exact ⟨T, t1, t2, q, rfl, hm, hi⟩
end Mine
end
section
open PySem PySem.W PyProof.Rows
namespace Mine
noncomputable def tstep (fo : List P2) (p : P2) : List P2 :=
  match fo.getLast? with
  | none => [p]
  | some z => if p.1 ≤ z.2 + 1 then (if p.2 > z.2 then fo.dropLast ++ [(z.1, p.2)] else fo) else fo ++ [p]
noncomputable def tidyL (ys : List P2) : List P2 := ys.foldl tstep []
noncomputable abbrev tidyT : ToldN (List P2) where
  Rel := fun news vs d => ∃ va, vs = [va] ∧ DatIn news va (spD d)
  Ok := fun d => d.length < 64 ∧ ∀ p ∈ d, 0 ≤ p.2 ∧ p.2 < 64
  size := fun _ => 1
  Tl := fun _ => True
  Out := fun news r d => ∃ ys : List P2, ys.Perm d ∧ ys.Pairwise (fun a b => a.1 ≤ b.1) ∧ DatIn news r (spD (tidyL ys))
theorem tstep_nil (p : P2) : tstep [] p = [p] := rfl
theorem tstep_up {fg : List P2} {lo hi : Int} {p : P2} (h1 : p.1 ≤ hi + 1) (h2 : p.2 > hi) : tstep (fg ++ [(lo, hi)]) p = fg ++ [(lo, p.2)] := by
  unfold tstep
  rw [List.getLast?_concat]
  dsimp only
  rw [if_pos h1, if_pos h2, List.dropLast_concat]
theorem tstep_in {fg : List P2} {lo hi : Int} {p : P2} (h1 : p.1 ≤ hi + 1) (h2 : ¬ p.2 > hi) : tstep (fg ++ [(lo, hi)]) p = fg ++ [(lo, hi)] := by
  unfold tstep
  rw [List.getLast?_concat]
  dsimp only
  rw [if_pos h1, if_neg h2]
theorem tstep_new {fg : List P2} {lo hi : Int} {p : P2} (h1 : ¬ p.1 ≤ hi + 1) : tstep (fg ++ [(lo, hi)]) p = fg ++ [(lo, hi)] ++ [p] := by
  unfold tstep
  rw [List.getLast?_concat]
  dsimp only
  rw [if_neg h1]
theorem tidy_take {ys : List P2} {i : Nat} (h : i < ys.length) : (ys.take (i + 1)).foldl tstep [] = tstep ((ys.take i).foldl tstep []) (ys.getD i (0, 0)) := by
  rw [List.take_add_one, List.getElem?_eq_getElem h, List.foldl_append, List.getD_eq_getElem?_getD, List.getElem?_eq_getElem h]
  rfl
theorem sp_rev {L9 : List (Addr × Obj)} {vs : List Value} {fo : List P2} (h : DatAll L9 vs (fo.map pD)) :
    (vs = [] ∧ fo = []) ∨ ∃ gs Z fg lo hi t1 t2 q, vs = gs ++ [.ref Z] ∧ fo = fg ++ [(lo, hi)] ∧ DatAll L9 gs (fg.map pD) ∧ (Z, ({ cls := .type "tuple", data := .seq #[.int lo t1, .int hi t2] q } : Obj)) ∈ L9 := by
  rcases List.eq_nil_or_concat fo with rfl | ⟨fg, z, rfl⟩
  · left
    cases h
    exact ⟨rfl, rfl⟩
  · right
    obtain ⟨lo, hi⟩ := z
    have hl := h.length
    rw [List.length_map, List.concat_eq_append, List.length_append] at hl
    rcases List.eq_nil_or_concat vs with rfl | ⟨gs, v, rfl⟩
    · simp at hl
    · rw [List.concat_eq_append] at h ⊢
      rw [List.concat_eq_append, List.map_append] at h
      obtain ⟨es, d, e, h1, h2⟩ := h.snoc
      rw [List.map_cons, List.map_nil] at e
      have e1 := List.append_inj_left' e rfl
      have e2 := List.append_inj_right' e rfl
      subst e1
      rw [List.cons_eq_cons] at e2
      obtain ⟨e2, _⟩ := e2
      subst e2
      obtain ⟨T, t1, t2, q, rfl, hm⟩ := pair_inv h2
      exact ⟨gs, T, fg, lo, hi, t1, t2, q, rfl, List.concat_eq_append .., h1, hm⟩
section
variable {prog : Program} {w : World} {A : Around} {E : Value → Shared → Prop} {s : Shared} {h₀ : Heap} {L l : Addr} {m : Str → Option Value}
theorem sp_true {news : List (Addr × Obj)} {gs : List Value} {v : Value} {n : Nat} {Q : Bool → Shared → Prop} (N : News h₀ L s.heap news) (hm : (l, listOf (gs ++ [v]).toArray n) ∈ news) (hfit : gs.length < 1000) (h : ∀ tk, Q true { s with toks := tk }) :
    wpAny (model prog w) A (truthy (.ref l)) Q E s := by
  have hl : s.heap.IsList l (gs ++ [v]).toArray := ⟨_, (N _ hm).1, rfl, n, rfl⟩
  refine wpAny_truthy_list hl ?_ ?_
  · simp only [List.size_toArray, List.length_append, List.length_cons, List.length_nil]; omega
  · have e : (!(gs ++ [v]).toArray.isEmpty) = true := by simp
    rw [e]; exact h _
theorem sp_false {news : List (Addr × Obj)} {n : Nat} {Q : Bool → Shared → Prop} (N : News h₀ L s.heap news) (hm : (l, listOf #[] n) ∈ news) (h : ∀ tk, Q false { s with toks := tk }) :
    wpAny (model prog w) A (truthy (.ref l)) Q E s := by
  have hl : s.heap.IsList l #[] := ⟨_, (N _ hm).1, rfl, n, rfl⟩
  exact wpAny_truthy_list hl (by decide) (h _)
theorem last_get {news : List (Addr × Obj)} {gs : List Value} {v : Value} {n : Nat} {u : Tok} {Q : Value → Shared → Prop} (N : News h₀ L s.heap news) (hm : (l, listOf (gs ++ [v]).toArray n) ∈ news) (h : Q v s) :
    wpAny (model prog w) A (getItem (.ref l) (.int (-1) u)) Q E s := by
  have hl : s.heap.IsList l (gs ++ [v]).toArray := ⟨_, (N _ hm).1, rfl, n, rfl⟩
  refine wpAny_getItem_list_neg hl (by decide) (by simp only [List.size_toArray, List.length_append, List.length_cons, List.length_nil]; omega) (by decide) ?_ h
  have e : (-1 + ((gs ++ [v]).toArray.size : Int)).toNat = gs.length := by
    simp only [List.size_toArray, List.length_append, List.length_cons, List.length_nil]; omega
  rw [e]; simp
theorem last_item {value slice : PySem.Expr} {news : List (Addr × Obj)} {gs : List Value} {v : Value} {n : Nat} {u : Tok} {Q : Value → Shared → Prop} (N : News h₀ L s.heap news) (hm : (l, listOf (gs ++ [v]).toArray n) ∈ news) (h : Q v s)
    (hs : subscripted slice false (.ref l) (.int (-1) u) = operate [.ref l, .int (-1) u] (getItem (.ref l) (.int (-1) u)) := by with_unfolding_all rfl) :
    wpAny (model prog w) A (subscriptTail value slice (.ref l) (.int (-1) u)) Q E s := by
  have hl : s.heap.IsList l (gs ++ [v]).toArray := ⟨_, (N _ hm).1, rfl, n, rfl⟩
  exact tail_any hl.typeIs slot_list_getitem.lookup (last_get N hm h) hs
theorem last_set {news news' : List (Addr × Obj)} {gs : List Value} {v x : Value} {n : Nat} {u : Tok} {Q : Unit → Shared → Prop} (F : Fr h₀ L s.heap m) (N : News h₀ L s.heap news)
    (U : Upd l (listOf (gs ++ [v]).toArray n) (listOf (gs ++ [x]).toArray n) news news') (h : ∀ h', Fr h₀ L h' m → News h₀ L h' news' → Q () { s with heap := h' }) :
    wpAny (model prog w) A (setItem (.ref l) (.int (-1) u) x) Q E s := by
  refine ki_setNeg (j := gs.length) (q := gs ++ [x]) F N (by decide) (by decide) ?_ ?_ U h
  · rw [seqIndex_neg (by decide) (by simp only [List.size_toArray, List.length_append, List.length_cons, List.length_nil]; omega)]
    congr 1
    simp only [List.size_toArray, List.length_append, List.length_cons, List.length_nil]; omega
  · show ki_setL (gs ++ [v]) gs.length x = _
    clear U N F
    induction gs with
    | nil => rfl
    | cons a gs ih => 
      show (match ki_setL (gs ++ [v]) gs.length x with | some q => some (a :: q) | none => none) = _
      rw [ih]; rfl
end
end Mine
end
section
open PySem PySem.W PyProof.Rows
namespace Mine
noncomputable def kok {α : Type} (n : Nat) (lt : Nat → Nat → Bool) : KasT α → (α → Prop) → Prop
  | .ret a, P => P a
  | .ask i j k, P => i < n ∧ j < n ∧ kok n lt (k (lt i j)) P
theorem kok_bind {α β : Type} {n : Nat} {lt : Nat → Nat → Bool} {f : α → KasT β} {P : β → Prop} : ∀ t : KasT α, kok n lt t (fun a => kok n lt (f a) P) → kok n lt (t.bind f) P
  | .ret _, h => h
  | .ask _ _ k, h => ⟨h.1, h.2.1, kok_bind (k _) h.2.2⟩
theorem kok_mono {α : Type} {n : Nat} {lt : Nat → Nat → Bool} {P P' : α → Prop} (hp : ∀ a, P a → P' a) : ∀ t : KasT α, kok n lt t P → kok n lt t P'
  | .ret a, h => hp a h
  | .ask _ _ k, h => ⟨h.1, h.2.1, kok_mono hp (k _) h.2.2⟩
theorem kok_wp {α : Type} {n : Nat} {lt : Nat → Nat → Bool} {cmp : Nat → Nat → (Bool → Shared → Prop) → Shared → Prop} {P : α → Prop} {Q : α → Shared → Prop} {s : Shared}
    (hc : ∀ i j (C : Bool → Shared → Prop), i < n → j < n → C (lt i j) s → cmp i j C s) (hq : ∀ a, P a → Q a s) : ∀ t : KasT α, kok n lt t P → t.kasWp cmp Q s
  | .ret a, h => hq a h
  | .ask i j k, h => hc i j _ h.1 h.2.1 (kok_wp hc hq (k _) h.2.2)
section
variable {n : Nat} (key : Nat → Int)
noncomputable abbrev ltK (key : Nat → Int) (i j : Nat) : Bool := decide (key i < key j)
noncomputable def KA (key : Nat → Int) (p : Array Nat) (k : Nat) : Int := key (p.getD k 0)
noncomputable abbrev base (n : Nat) : Array Nat := List.toArray (List.range n)
theorem perm_size {p : Array Nat} (h : p.Perm (base n)) : p.size = n := by
  have := h.size_eq
  simpa using this
theorem perm_in {p : Array Nat} (h : p.Perm (base n)) {k : Nat} (hk : k < n) : p.getD k 0 < n := by
  have hs := perm_size h
  have hk' : k < p.size := by omega
  have e : p.getD k 0 = p[k] := by simp [Array.getD, hk']
  rw [e]
  have hm : p[k] ∈ base n := h.mem_iff.mp (Array.getElem_mem hk')
  simpa using hm
variable {key}
theorem KA_congr {p q : Array Nat} {i j : Nat} (h : p[i]? = q[j]?) : KA key p i = KA key q j := by
  unfold KA
  rw [Array.getD_eq_getD_getElem?, Array.getD_eq_getD_getElem?, h]
theorem KA_rev {p : Array Nat} {i j : Nat} (hj : j ≤ p.size) (k : Nat) : KA key (kas_rev p i j) k = if i ≤ k ∧ k < j then KA key p (i + j - 1 - k) else KA key p k := by
  have e := getElem?_mirror_all (i := i) hj k
  by_cases h : i ≤ k ∧ k < j
  · rw [if_pos h] at e ⊢; exact KA_congr e
  · rw [if_neg h] at e ⊢; exact KA_congr e
theorem KA_bub {p : Array Nat} {src d : Nat} (hs : src < p.size) (hd : d ≤ src) (k : Nat) :
    KA key (bubble p src d) k = if k = src - d then KA key p src else if src - d < k ∧ k ≤ src then KA key p (k - 1) else KA key p k := by
  have e := getElem?_bubble hs d hd k
  by_cases h1 : k = src - d
  · rw [if_pos h1] at e ⊢; exact KA_congr e
  · rw [if_neg h1] at e ⊢
    by_cases h2 : src - d < k ∧ k ≤ src
    · rw [if_pos h2] at e ⊢; exact KA_congr e
    · rw [if_neg h2] at e ⊢; exact KA_congr e
theorem rev_perm {p : Array Nat} {i j : Nat} (h : p.Perm (base n)) : (kas_rev p i j).Perm (base n) := (mirror_perm _ _ _ _).trans h

theorem asc_ok {p : Array Nat} (hp : p.Perm (base n)) : ∀ (f k : Nat), 1 ≤ k → k + f ≤ n → (∀ t, 1 ≤ t → t < k → KA key p (t - 1) ≤ KA key p t) →
    kok n (ltK key) (kas_asc p f k) (fun m => k ≤ m ∧ m ≤ k + f ∧ (∀ t, 1 ≤ t → t < m → KA key p (t - 1) ≤ KA key p t) ∧ (m < k + f → KA key p m < KA key p (m - 1)))
  | 0, k, h1, hk, hs => by
    unfold kas_asc
    exact ⟨Nat.le_refl _, Nat.le_refl _, hs, fun h => absurd h (by omega)⟩
  | f + 1, k, h1, hk, hs => by
    unfold kas_asc
    refine ⟨perm_in hp (by omega), perm_in hp (by omega), ?_⟩
    by_cases hc : KA key p k < KA key p (k - 1)
    · have e : ltK key (p.getD k 0) (p.getD (k - 1) 0) = true := decide_eq_true hc
      rw [e]; simp only [↓reduceIte]
      exact ⟨Nat.le_refl _, by omega, hs, fun _ => hc⟩
    · have e : ltK key (p.getD k 0) (p.getD (k - 1) 0) = false := decide_eq_false hc
      rw [e]; simp only [Bool.false_eq_true, ↓reduceIte]
      refine kok_mono (fun m hm => ⟨by omega, by omega, hm.2.2.1, fun h => hm.2.2.2 (by omega)⟩) _ (asc_ok hp f (k + 1) (by omega) (by omega) fun t h2 h3 => ?_)
      by_cases ht : t = k
      · subst ht; omega
      · exact hs t h2 (by omega)

theorem desc_ok : ∀ (f : Nat) (p : Array Nat) (k q : Nat), p.Perm (base n) → 1 ≤ k → k + f ≤ n → (∀ t, 1 ≤ t → t < k → KA key p t ≤ KA key p (t - 1)) → q + 1 ≤ k → (∀ t, k - (q + 1) ≤ t → t < k → KA key p t = KA key p (k - 1)) →
    kok n (ltK key) (kas_desc f p k q) (fun r => r.1.Perm (base n) ∧ k ≤ r.2.1 ∧ r.2.1 ≤ k + f ∧ (∀ t, 1 ≤ t → t < r.2.1 → KA key r.1 t ≤ KA key r.1 (t - 1)) ∧ r.2.2 + 1 ≤ r.2.1 ∧ (∀ t, r.2.1 - (r.2.2 + 1) ≤ t → t < r.2.1 → KA key r.1 t = KA key r.1 (r.2.1 - 1)))
  | 0, p, k, q, hp, h1, hk, hd, hq, he => by
    unfold kas_desc
    exact ⟨hp, Nat.le_refl _, Nat.le_refl _, hd, hq, he⟩
  | f + 1, p, k, q, hp, h1, hk, hd, hq, he => by
    unfold kas_desc
    have hsz := perm_size hp
    refine ⟨perm_in hp (by omega), perm_in hp (by omega), ?_⟩
    by_cases hc : KA key p k < KA key p (k - 1)
    · have e : ltK key (p.getD k 0) (p.getD (k - 1) 0) = true := decide_eq_true hc
      rw [e]; simp only [↓reduceIte]
      by_cases h0 : q > 0
      · rw [if_pos h0]
        have hK : ∀ t, KA key (kas_rev p (k - (q + 1)) k) t = KA key p t := by
          intro t
          rw [KA_rev (by omega)]
          by_cases hi : k - (q + 1) ≤ t ∧ t < k
          · rw [if_pos hi, he _ (by omega) (by omega), he t hi.1 hi.2]
          · rw [if_neg hi]
        refine kok_mono (fun r hr => ⟨hr.1, by omega, by omega, hr.2.2.2.1, hr.2.2.2.2.1, hr.2.2.2.2.2⟩) _ (desc_ok f _ (k + 1) 0 (rev_perm hp) (by omega) (by omega) (fun t h2 h3 => ?_) (by omega) (fun t h2 h3 => ?_))
        · rw [hK, hK]
          by_cases ht : t = k
          · subst ht; omega
          · exact hd t h2 (by omega)
        · have : t = k + 1 - 1 := by omega
          rw [this]
      · rw [if_neg h0]
        refine kok_mono (fun r hr => ⟨hr.1, by omega, by omega, hr.2.2.2.1, hr.2.2.2.2.1, hr.2.2.2.2.2⟩) _ (desc_ok f p (k + 1) 0 hp (by omega) (by omega) (fun t h2 h3 => ?_) (by omega) (fun t h2 h3 => ?_))
        · by_cases ht : t = k
          · subst ht; omega
          · exact hd t h2 (by omega)
        · have : t = k + 1 - 1 := by omega
          rw [this]
    · have e : ltK key (p.getD k 0) (p.getD (k - 1) 0) = false := decide_eq_false hc
      rw [e]; simp only [Bool.false_eq_true, ↓reduceIte]
      refine ⟨perm_in hp (by omega), perm_in hp (by omega), ?_⟩
      by_cases hb : KA key p (k - 1) < KA key p k
      · have e : ltK key (p.getD (k - 1) 0) (p.getD k 0) = true := decide_eq_true hb
        rw [e]; simp only [↓reduceIte]
        exact ⟨hp, Nat.le_refl _, Nat.le_add_right _ _, hd, hq, he⟩
      · have e : ltK key (p.getD (k - 1) 0) (p.getD k 0) = false := decide_eq_false hb
        rw [e]; simp only [Bool.false_eq_true, ↓reduceIte]
        have hkk : KA key p k = KA key p (k - 1) := by omega
        refine kok_mono (fun r hr => ⟨hr.1, by omega, by omega, hr.2.2.2.1, hr.2.2.2.2.1, hr.2.2.2.2.2⟩) _ (desc_ok f p (k + 1) (q + 1) hp (by omega) (by omega) (fun t h2 h3 => ?_) (by omega) (fun t h2 h3 => ?_))
        · by_cases ht : t = k
          · subst ht; omega
          · exact hd t h2 (by omega)
        · have e9 : k + 1 - 1 = k := by omega
          rw [e9]
          by_cases ht : t = k
          · rw [ht]
          · rw [he t (by omega) (by omega), hkk]

noncomputable abbrev Cnt (key : Nat → Int) (n : Nat) (r : Nat × Array Nat) : Prop := r.2.Perm (base n) ∧ 1 ≤ r.1 ∧ r.1 ≤ n ∧ ∀ t, 1 ≤ t → t < r.1 → KA key r.2 (t - 1) ≤ KA key r.2 t
theorem tail3_ok {p : Array Nat} {k : Nat} (hp : p.Perm (base n)) (h1 : 1 ≤ k) (hk : k ≤ n) (hd : ∀ t, 1 ≤ t → t < k → KA key p t ≤ KA key p (t - 1)) :
    kok n (ltK key) (kas_tail3 k n p) (Cnt key n) := by
  unfold kas_tail3
  have hsz := perm_size hp
  refine kok_bind _ (kok_mono (fun m hm => ?_) _ (asc_ok (rev_perm hp) (n - k) k h1 (by omega) fun t h2 h3 => ?_))
  · exact ⟨rev_perm hp, by dsimp only; omega, by dsimp only; omega, hm.2.2.1⟩
  · rw [KA_rev (by omega), KA_rev (by omega), if_pos (by omega), if_pos (by omega)]
    have e1 : 0 + k - 1 - (t - 1) = k - t := by omega
    have e2 : 0 + k - 1 - t = k - t - 1 := by omega
    rw [e1, e2]
    exact hd (k - t) (by omega) (by omega)
theorem descPart_ok {p : Array Nat} {k : Nat} (hp : p.Perm (base n)) (h1 : 1 ≤ k) (hk : k + 1 ≤ n) (hd : ∀ t, 1 ≤ t → t < k + 1 → KA key p t ≤ KA key p (t - 1)) :
    kok n (ltK key) (kas_descPart k n p) (Cnt key n) := by
  unfold kas_descPart
  refine kok_bind _ (kok_mono (fun r hr => ?_) _ (desc_ok (n - (k + 1)) p (k + 1) 0 hp (by omega) (by omega) hd (by omega) fun t h2 h3 => ?_))
  · obtain ⟨p', n', q'⟩ := r
    obtain ⟨g1, g2, g3, g4, g5, g6⟩ := hr
    dsimp only at g1 g2 g3 g4 g5 g6 ⊢
    have hsz := perm_size g1
    by_cases h0 : q' > 0
    · rw [if_pos h0]
      have hK : ∀ t, KA key (kas_rev p' (n' - (q' + 1)) n') t = KA key p' t := by
        intro t
        rw [KA_rev (by omega)]
        by_cases hi : n' - (q' + 1) ≤ t ∧ t < n'
        · rw [if_pos hi, g6 _ (by omega) (by omega), g6 t hi.1 hi.2]
        · rw [if_neg hi]
      exact tail3_ok (rev_perm g1) (by omega) (by omega) fun t h2 h3 => by rw [hK, hK]; exact g4 t h2 h3
    · rw [if_neg h0]
      exact tail3_ok g1 (by omega) (by omega) g4
  · have : t = k + 1 - 1 := by omega
    rw [this]
theorem asc_all {p : Array Nat} {m : Nat} (h : ∀ t, 1 ≤ t → t < m → KA key p (t - 1) ≤ KA key p t) : ∀ i j, i ≤ j → j < m → KA key p i ≤ KA key p j := by
  intro i j hij
  induction j with
  | zero => intro _; have : i = 0 := by omega
            subst this; exact Int.le_refl _
  | succ j ih =>
    intro hj
    by_cases e : i = j + 1
    · subst e; exact Int.le_refl _
    · exact Int.le_trans (ih (by omega) (by omega)) (h (j + 1) (by omega) hj)
theorem count_ok {p : Array Nat} (hp : p.Perm (base n)) (hn : 1 ≤ n) : kok n (ltK key) (kas_count n p) (Cnt key n) := by
  unfold kas_count
  have hsz := perm_size hp
  refine kok_bind _ (kok_mono (fun m hm => ?_) _ (asc_ok hp (n - 1) 1 (Nat.le_refl _) (by omega) fun t h2 h3 => absurd h2 (by omega)))
  obtain ⟨g1, g2, g3, g4⟩ := hm
  by_cases e : m = n
  · rw [if_pos (by simpa using e)]
    exact ⟨hp, g1, by dsimp only; omega, g3⟩
  · rw [if_neg (by simpa using e)]
    have g5 := g4 (by omega)
    by_cases h1 : m > 1
    · rw [if_pos h1]
      refine ⟨perm_in hp (by omega), perm_in hp (by omega), ?_⟩
      by_cases hc : KA key p 0 < KA key p (m - 1)
      · have e : ltK key (p.getD 0 0) (p.getD (m - 1) 0) = true := decide_eq_true hc
        rw [e]; simp only [↓reduceIte]
        exact ⟨hp, g1, by dsimp only; omega, g3⟩
      · have e : ltK key (p.getD 0 0) (p.getD (m - 1) 0) = false := decide_eq_false hc
        rw [e]; simp only [Bool.false_eq_true, ↓reduceIte]
        have same : ∀ t, t < m → KA key p t = KA key p 0 := by
          intro t ht
          have a := asc_all g3 0 t (by omega) ht
          have b := asc_all g3 t (m - 1) (by omega) (by omega)
          omega
        have hK : ∀ t, KA key (kas_rev p 0 m) t = KA key p t := by
          intro t
          rw [KA_rev (by omega)]
          by_cases hi : 0 ≤ t ∧ t < m
          · rw [if_pos hi, same _ (by omega), same t hi.2]
          · rw [if_neg hi]
        refine descPart_ok (rev_perm hp) (by omega) (by omega) fun t h2 h3 => ?_
        rw [hK, hK]
        by_cases ht : t = m
        · subst ht; omega
        · rw [same t (by omega), same (t - 1) (by omega)]; exact Int.le_refl _
    · rw [if_neg h1]
      refine descPart_ok hp (by omega) (by omega) fun t h2 h3 => ?_
      have : t = m := by omega
      subst this; omega
theorem place_ok {p : Array Nat} {k : Nat} (hp : p.Perm (base n)) (hk : k < n) : ∀ (f l r : Nat), r ≤ l + f → l ≤ r → r ≤ k → (∀ t, t < l → KA key p t ≤ KA key p k) → (∀ t, r ≤ t → t < k → KA key p k < KA key p t) → (∀ i j, i ≤ j → j < k → KA key p i ≤ KA key p j) →
    kok n (ltK key) (kas_place p k f l r) (fun m => m ≤ k ∧ (∀ t, t < m → KA key p t ≤ KA key p k) ∧ (∀ t, m ≤ t → t < k → KA key p k < KA key p t))
  | 0, l, r, h1, h2, h3, h4, h5, h6 => by
    unfold kas_place
    have : l = r := by omega
    subst this
    exact ⟨h3, h4, h5⟩
  | f + 1, l, r, h1, h2, h3, h4, h5, h6 => by
    unfold kas_place
    by_cases hlr : l ≥ r
    · rw [if_pos hlr]
      have : l = r := by omega
      subst this
      exact ⟨h3, h4, h5⟩
    · rw [if_neg hlr]
      refine ⟨perm_in hp (by omega), perm_in hp (by omega), ?_⟩
      by_cases hc : KA key p k < KA key p ((l + r) / 2)
      · have e : ltK key (p.getD k 0) (p.getD ((l + r) / 2) 0) = true := decide_eq_true hc
        rw [e]; simp only [↓reduceIte]
        refine place_ok hp hk f l ((l + r) / 2) (by omega) (by omega) (by omega) h4 (fun t ht1 ht2 => ?_) h6
        have := h6 ((l + r) / 2) t ht1 ht2
        omega
      · have e : ltK key (p.getD k 0) (p.getD ((l + r) / 2) 0) = false := decide_eq_false hc
        rw [e]; simp only [Bool.false_eq_true, ↓reduceIte]
        refine place_ok hp hk f ((l + r) / 2 + 1) r (by omega) (by omega) h3 (fun t ht => ?_) h5 h6
        have := h6 t ((l + r) / 2) (by omega) (by omega)
        omega
theorem bin_ok : ∀ (f : Nat) (p : Array Nat) (k : Nat), p.Perm (base n) → 1 ≤ k → k + f = n → (∀ i j, i ≤ j → j < k → KA key p i ≤ KA key p j) →
    kok n (ltK key) (kas_bin f p k) (fun p' => p'.Perm (base n) ∧ ∀ i j, i ≤ j → j < n → KA key p' i ≤ KA key p' j)
  | 0, p, k, hp, h1, hk, hs => by
    unfold kas_bin
    have : k = n := by omega
    subst this
    exact ⟨hp, hs⟩
  | f + 1, p, k, hp, h1, hk, hs => by
    unfold kas_bin
    have hsz := perm_size hp
    refine kok_bind _ (kok_mono (fun m hm => ?_) _ (place_ok hp (by omega) k 0 k (by omega) (by omega) (Nat.le_refl _) (fun t ht => absurd ht (by omega)) (fun t h2 h3 => absurd h3 (by omega)) hs))
    obtain ⟨g1, g2, g3⟩ := hm
    refine bin_ok f _ (k + 1) ((bubble_perm _ _ _).trans hp) (by omega) (by omega) fun i j hij hj => ?_
    rw [KA_bub (by omega) (by omega), KA_bub (by omega) (by omega)]
    have e : k - (k - m) = m := by omega
    rw [e]
    by_cases hi : i = m
    · rw [if_pos hi]
      by_cases hj2 : j = m
      · rw [if_pos hj2]; exact Int.le_refl _
      · rw [if_neg hj2, if_pos (by omega)]
        have := g3 (j - 1) (by omega) (by omega)
        omega
    · rw [if_neg hi]
      by_cases hi2 : m < i ∧ i ≤ k
      · rw [if_pos hi2, if_neg (by omega), if_pos (by omega)]
        exact hs _ _ (by omega) (by omega)
      · rw [if_neg hi2]
        by_cases hj2 : j = m
        · rw [if_pos hj2]; exact g2 i (by omega)
        · rw [if_neg hj2]
          by_cases hj3 : m < j ∧ j ≤ k
          · rw [if_pos hj3]; exact hs _ _ (by omega) (by omega)
          · rw [if_neg hj3]; exact hs _ _ hij (by omega)
theorem sort_ok (hn : 1 ≤ n) : kok n (ltK key) (kas_sort n) (fun p' => p'.Perm (base n) ∧ ∀ i j, i ≤ j → j < n → KA key p' i ≤ KA key p' j) := by
  unfold kas_sort
  refine kok_bind _ (kok_mono (fun r hr => ?_) _ (count_ok (key := key) (Array.Perm.refl _) hn))
  obtain ⟨m, p⟩ := r
  obtain ⟨g1, g2, g3, g4⟩ := hr
  dsimp only at g1 g2 g3 g4 ⊢
  by_cases h : m < n
  · rw [if_pos h]
    have e : max m 1 = m := by omega
    rw [e]
    exact bin_ok (n - m) p m g1 g2 (by omega) (asc_all g4)
  · rw [if_neg h]
    have : m = n := by omega
    subst this
    exact ⟨g1, asc_all g4⟩
end
end Mine
end
section
open PySem PySem.W PyProof.Rows
namespace Mine
noncomputable def pkey (xs : List P2) (i : Nat) : Int := 64 * (xs.getD i (0, 0)).1 + (xs.getD i (0, 0)).2
theorem getD_mem {xs : List P2} {i : Nat} (h : i < xs.length) : xs.getD i (0, 0) ∈ xs := by
  rw [List.getD_eq_getElem?_getD, List.getElem?_eq_getElem h]
  exact List.getElem_mem h
section
variable {prog : Program} {w : World} {A : Around} {E : Value → Shared → Prop} {s : Shared} {h₀ : Heap} {L l : Addr} {m : Str → Option Value}
theorem sp_ask {news : List (Addr × Obj)} {us : List Value} {xs : List P2} {i j : Nat} {C : Bool → Shared → Prop} (N : News h₀ L s.heap news) (hd : DatAll news us (xs.map pD)) (hb : ∀ p ∈ xs, 0 ≤ p.2 ∧ p.2 < 64)
    (hi : i < xs.length) (hj : j < xs.length) (h : C (ltK (pkey xs) i j) s) : kas_ask prog w A (tuples' true) us i j C s := by
  have hl : us.length = xs.length := by rw [hd.length, List.length_map]
  obtain ⟨T1, a1, b1, q1, e1, m1, _⟩ := sp_at (i := i) (v := us.getD i Value.none) hd (by rw [List.getD_eq_getElem?_getD, List.getElem?_eq_getElem (by omega)]; rfl)
  obtain ⟨T2, a2, b2, q2, e2, m2, _⟩ := sp_at (i := j) (v := us.getD j Value.none) hd (by rw [List.getD_eq_getElem?_getD, List.getElem?_eq_getElem (by omega)]; rfl)
  unfold kas_ask
  rw [e1, e2]
  have hbi := hb _ (getD_mem hi)
  have hbj := hb _ (getD_mem hj)
  refine kat_lt (N _ m1).1 rfl (N _ m2).1 rfl ?_
  show KatLex prog w A true (decide (2 < 2)) C [(.int (xs.getD i (0, 0)).1 a1, .int (xs.getD j (0, 0)).1 a2), (.int (xs.getD i (0, 0)).2 b1, .int (xs.getD j (0, 0)).2 b2)] 0 s
  refine kat_cons (wpAny_eqBool_int ?_)
  by_cases he : (xs.getD i (0, 0)).1 = (xs.getD j (0, 0)).1
  · rw [beq_iff_eq.mpr he]
    refine kat_yes (kat_cons (wpAny_eqBool_int ?_))
    by_cases hf : (xs.getD i (0, 0)).2 = (xs.getD j (0, 0)).2
    · rw [beq_iff_eq.mpr hf]
      refine kat_yes (kat_nil ?_)
      have e : ltK (pkey xs) i j = decide (2 < 2) := by
        unfold ltK pkey
        rw [he, hf]; simp
      rw [← e]; exact h
    · rw [beq_eq_false_iff_ne.mpr hf]
      refine kat_no ?_
      show wpAny (model prog w) A (oneLt' false _ _) C _ s
      refine kat_one _ _ (lt_int ?_)
      have e : ltK (pkey xs) i j = decide ((xs.getD i (0, 0)).2 < (xs.getD j (0, 0)).2) := by
        unfold ltK pkey
        rw [he]
        by_cases hh : (xs.getD i (0, 0)).2 < (xs.getD j (0, 0)).2
        · rw [decide_eq_true hh, decide_eq_true (by omega)]
        · rw [decide_eq_false hh, decide_eq_false (by omega)]
      show C _ s
      rw [← e]; exact h
  · rw [beq_eq_false_iff_ne.mpr he]
    refine kat_no ?_
    show wpAny (model prog w) A (oneLt' true _ _) C _ s
    refine oneLt_int ?_
    have e : ltK (pkey xs) i j = decide ((xs.getD i (0, 0)).1 < (xs.getD j (0, 0)).1) := by
      unfold ltK pkey
      by_cases hh : (xs.getD i (0, 0)).1 < (xs.getD j (0, 0)).1
      · rw [decide_eq_true hh, decide_eq_true (by omega)]
      · rw [decide_eq_false hh, decide_eq_false (by omega)]
    rw [← e]; exact h

theorem sp_tups {news : List (Addr × Obj)} (N : News h₀ L s.heap news) : ∀ {us : List Value} {xs : List P2}, DatAll news us (xs.map pD) →
    ∃ fs, KatTups s.heap us fs ∧ fs.length = us.length ∧ ∀ v ∈ fs, ∃ i t, v = Value.int i t
  | [], [], _ => ⟨[], KatTups.nil, rfl, fun _ h => nomatch h⟩
  | [], _ :: _, h => by cases h
  | _ :: _, [], h => by cases h
  | v :: us, x :: xs, h => by
    obtain ⟨T, t1, t2, q, e, hm, _⟩ := sp_at (i := 0) (v := v) h rfl
    subst e
    cases h with
    | cons h1 h2 =>
      obtain ⟨fs, a, b, c⟩ := sp_tups N h2
      exact ⟨_ :: fs, KatTups.cons (N _ hm).1 rfl rfl rfl a, by simp [b], List.forall_mem_cons.mpr ⟨⟨_, _, rfl⟩, c⟩⟩

theorem sp_pick {news : List (Addr × Obj)} {us : List Value} {xs : List P2} (hd : DatAll news us (xs.map pD)) : ∀ l : List Nat, (∀ i ∈ l, i < xs.length) →
    DatAll news (l.map fun i => us.getD i Value.none) ((l.map fun i => xs.getD i (0, 0)).map pD)
  | [], _ => .nil
  | i :: l, h => by
    have hi := h i (.head _)
    obtain ⟨v, hv, hD⟩ := hd.get (k := i) (by simpa using hi)
    refine .cons ?_ (sp_pick hd l fun j hj => h j (.tail _ hj))
    show DatIn news (us.getD i Value.none) (pD (xs.getD i (0, 0)))
    rw [List.getD_eq_getElem?_getD, hv, List.getD_eq_getElem?_getD, List.getElem?_eq_getElem hi]
    rw [List.getElem_map] at hD
    exact hD

theorem range_pick (xs : List P2) : ((List.range xs.length).map fun i => xs.getD i (0, 0)) = xs := by
  apply List.ext_getElem
  · simp
  · intro i h1 h2
    simp only [List.getElem_map, List.getElem_range]
    rw [List.getD_eq_getElem?_getD, List.getElem?_eq_getElem h2]; rfl

theorem sorted_few {vs : List Value} {news : List (Addr × Obj)} {Q : Value → Shared → Prop} (F : Fr h₀ L s.heap m) (N : News h₀ L s.heap news) (hl : s.heap.IsList l vs.toArray) (h2 : vs.length < 2)
    (h : ∀ D c h', Fr h₀ L h' m → News h₀ L h' ((D, listOf vs.toArray c) :: news) → (∀ q ∈ news, q.1 < D) → Q (.ref D) { s with heap := h' }) :
    wpAny (model prog w) A (call (.builtin "sorted") [.ref l]) Q E s := by
  refine Calls.call_function_entry kind_sorted plain_sorted entry_sorted (args_sorted1 _) ?_
  unfold Builtin.«sorted»
  refine wpAny_bind (m := checkCount "sorted" 1 1 _) (wpAny_pure ?_)
  refine wpAny_bind (collect_list hl ?_ (by rw [sizeLine_eq]; omega))
  refine wpAny_bind (wpAny_newList ?_ (by rw [sizeLine_eq]; omega))
  have hsz : ((s.heap.push (seqObj "list" #[] 0)).update s.heap.objs.size (Obj.mapSeq (· ++ vs.toArray))).objs.size = s.heap.objs.size + 1 := by
    rw [Heap.size_update, size_push']
  have hoL : (((s.heap.push (seqObj "list" #[] 0)).update s.heap.objs.size (Obj.mapSeq (· ++ vs.toArray))).push (seqObj "list" vs.toArray 0)).get? (s.heap.objs.size + 1) = some (seqObj "list" vs.toArray 0) := by
    rw [← hsz]; exact Heap.get?_push_size _ rfl
  show wpAny _ _ _ _ _ { s with heap := ((s.heap.push (seqObj "list" #[] 0)).update s.heap.objs.size (Obj.mapSeq (· ++ vs.toArray))).push (seqObj "list" vs.toArray 0) }
  rw [hsz]
  refine wpAny_bind (wpAny_holding (wpAny_call_entry slot_list_sort ⟨_, hoL, rfl⟩ entry_list_sort ?body (args_list_sort _)))
  case body =>
    rw [list_sort_plain]
    generalize hh : (((s.heap.push (seqObj "list" #[] 0)).update s.heap.objs.size (Obj.mapSeq (· ++ vs.toArray))).push (seqObj "list" vs.toArray 0)) = hp at hoL ⊢
    have ha : s.heap.objs.size + 1 < hp.objs.size := Heap.lt_size hoL
    refine wpAny_bind (listItems_at hoL rfl ?_)
    refine wpAny_bind (listUpdate_at hoL rfl ?_ (by rw [List.size_toArray, sizeLine_eq]; omega) (Nat.zero_le _))
    obtain ⟨e1, ho1⟩ : ∃ e1, (hp.update (s.heap.objs.size + 1) (Obj.mapSeq fun _ => #[])).get? (s.heap.objs.size + 1) = some (seqObj "list" #[] e1) := ⟨_, get?_update_seq hoL (fun _ => #[])⟩
    refine wpAny_bind (seqEpoch_at ho1 rfl ?_)
    refine wpAny_bind (wpAny_newTuple ?_ (by show vs.length ≤ _; rw [sizeLine_eq]; omega))
    refine wpAny_bind (wpAny_newList ?_ (Nat.zero_le _))
    refine wpAny_holding ?_
    have ho6 : (((hp.update (s.heap.objs.size + 1) (Obj.mapSeq fun _ => #[])).push (seqObj "tuple" vs.toArray 0)).push (seqObj "list" #[] 0)).get? (s.heap.objs.size + 1) = some (seqObj "list" #[] e1) := by
      rw [Heap.get?_push_ne _ _ _ (by rw [size_push', Heap.size_update]; exact Nat.ne_of_lt (Nat.lt_succ_of_lt ha)), Heap.get?_push_ne _ _ _ (by rw [Heap.size_update]; exact Nat.ne_of_lt ha)]
      exact ho1
    show wpAny (model prog w) A.in1.in1 _ _ _ { s with heap := ((hp.update (s.heap.objs.size + 1) (Obj.mapSeq fun _ => #[])).push (seqObj "tuple" vs.toArray 0)).push (seqObj "list" #[] 0) }
    dsimp only
    have hn2 : vs.toArray.size < 2 := by rw [List.size_toArray]; omega
    rw [if_pos hn2, if_pos hn2]
    refine wpAny_bind (wpAny_pure ?_)
    rw [StateT.run_pure]
    refine wpAny_bind (wpAny_pure ?_)
    dsimp only
    refine wpAny_bind (seqEpoch_at ho6 rfl ?_)
    have hout : (arrOf (SortSt.mk' general' (vs.toArray.zip vs.toArray) #[] 7 none)).map (·.2) = vs.toArray := by
      show (vs.toArray.zip vs.toArray).map (·.2) = vs.toArray
      apply Array.toList_inj.mp
      have e9 : ∀ l : List Value, List.map (fun x : Value × Value => x.snd) (l.zip l) = l := by
        intro l
        induction l with
        | nil => rfl
        | cons a l ih => simp only [List.zip_cons_cons, List.map_cons, ih]
      simpa using e9 vs
    rw [hout]
    refine wpAny_bind (listUpdate_at ho6 rfl ?_ (Nat.zero_le _) (by rw [List.size_toArray, sizeLine_eq]; omega))
    simp only [bne_self_eq_false, Bool.false_eq_true, if_false]
    refine wpAny_pure ⟨_, rfl, wpAny_pure ⟨_, rfl, ?_⟩⟩
    have hk : sortedAll s.heap vs vs.toArray = (((hp.update (s.heap.objs.size + 1) (Obj.mapSeq fun _ => #[])).push (seqObj "tuple" vs.toArray 0)).push (seqObj "list" #[] 0)).update (s.heap.objs.size + 1) (Obj.mapSeq fun _ => vs.toArray) := by
      unfold sortedAll sortedHeap
      rw [hh]
    obtain ⟨e, he⟩ := sortedAll_at s.heap vs vs.toArray
    have F' := F.kept (h' := sortedAll s.heap vs vs.toArray) fun _ _ => sortedAll_old
    have N' := N.kept_cons F (h' := sortedAll s.heap vs vs.toArray) (fun _ _ => sortedAll_old) (Nat.le_succ _) he
    rw [hk] at F' N'
    exact h _ e _ F' N' fun q hq => Nat.lt_succ_of_lt (Heap.lt_size (N q hq).1)

theorem sp_sorted {news L9 : List (Addr × Obj)} {us : List Value} {xs : List P2} {n : Nat} {Q : Value → Shared → Prop} (F : Fr h₀ L s.heap m) (N : News h₀ L s.heap news) (hm : (l, listOf us.toArray n) ∈ news) (hs9 : ∀ p ∈ L9, p ∈ news) (hd : DatAll L9 us (xs.map pD))
    (h64 : xs.length < 64) (hb : ∀ p ∈ xs, 0 ≤ p.2 ∧ p.2 < 64)
    (h : ∀ D vs' (ys : List P2) c h', Fr h₀ L h' m → News h₀ L h' ((D, listOf (List.toArray vs') c) :: news) → (∀ q ∈ news, q.1 < D) → DatAll L9 vs' (ys.map pD) → ys.Perm xs → ys.Pairwise (fun a b => a.1 ≤ b.1) → Q (.ref D) { s with heap := h' }) :
    wpAny (model prog w) A (call (.builtin "sorted") [.ref l]) Q E s := by
  have hl : s.heap.IsList l us.toArray := ⟨_, (N _ hm).1, rfl, n, rfl⟩
  have hlen : us.length = xs.length := by rw [hd.length, List.length_map]
  by_cases h2 : us.length < 2
  · refine sorted_few F N hl h2 fun D c h' F' N' lt => h D us xs c h' F' N' lt hd (List.Perm.refl _) ?_
    match xs, hlen with
    | [], _ => exact .nil
    | [x], _ => exact .cons (fun _ h => nomatch h) .nil
    | _ :: _ :: _, e => simp only [List.length_cons] at e; omega
  · refine kat_sorted F N hl (by omega) (by omega) fun D e1 h' F' N' lt => ?_
    obtain ⟨fs, ht, hfl, hfi⟩ := sp_tups (s := { s with heap := h' }) (news_sub N' fun p hp => List.mem_cons_of_mem _ (hs9 p hp)) hd
    refine kat_kind (T := .type "int") ht (by omega) (fun v hv => ?_) rfl ?_
    · obtain ⟨i, t, rfl⟩ := hfi v hv
      exact Looks.of_pure rfl
    · show (kas_sort us.length).kasWp (kas_ask prog w A.in1.in1 (tuples' true) us) _ _
      rw [hlen]
      refine kok_wp (n := xs.length) (lt := ltK (pkey xs)) (fun i j C hi hj hC => sp_ask (news_sub N' fun p hp => List.mem_cons_of_mem _ (hs9 p hp)) hd hb hi hj hC) (fun p hp => ?_) _ (sort_ok (by omega))
      obtain ⟨hperm, hsort⟩ := hp
      have hsz := perm_size hperm
      have hin : ∀ i ∈ p.toList, i < xs.length := by
        intro i hi
        have hm : i ∈ base xs.length := hperm.mem_iff.mp (by simpa using hi)
        simpa using hm
      refine KasFin.intro F' N' (UpdF.head fun q hq => Nat.ne_of_lt (lt q hq)) fun h2 c F2 N2 => h D _ _ c h2 F2 N2 lt (sp_pick hd p.toList hin) ?_ ?_
      · have hp2 : p.toList.Perm (List.range xs.length) := by
          have := Array.perm_iff_toList_perm.mp hperm
          simpa using this
        have := hp2.map fun i => xs.getD i (0, 0)
        rw [range_pick] at this
        exact this
      · rw [List.pairwise_iff_getElem]
        intro i j hi hj hij
        simp only [List.length_map, Array.length_toList] at hi hj
        simp only [List.getElem_map, Array.getElem_toList]
        have hs := hsort i j (by omega) (by omega)
        unfold KA at hs
        have ei : p.getD i 0 = p[i] := by simp [Array.getD, hi]
        have ej : p.getD j 0 = p[j] := by simp [Array.getD, hj]
        rw [ei, ej] at hs
        unfold pkey at hs
        have bi := hb _ (getD_mem (hin p[i] (by simp)))
        have bj := hb _ (getD_mem (hin p[j] (by simp)))
        omega
end
end Mine
end
section
open PySem PySem.W PyProof.Rows
namespace Mine
/-- sorted, apart, none empty, none below b -/
noncomputable def Nrm (b : Int) : List P2 → Prop
  | [] => True
  | x :: xs => b ≤ x.1 ∧ x.1 ≤ x.2 ∧ Nrm (x.2 + 2) xs
noncomputable def inn (n : Int) (xs : List P2) : Prop := ∃ p ∈ xs, p.1 ≤ n ∧ n ≤ p.2
theorem inn_nil {n : Int} : ¬ inn n [] := fun ⟨_, h, _⟩ => nomatch h
theorem inn_cons {n : Int} {x : P2} {xs : List P2} : inn n (x :: xs) ↔ (x.1 ≤ n ∧ n ≤ x.2) ∨ inn n xs := by
  constructor
  · rintro ⟨p, hp, h⟩
    rcases List.mem_cons.mp hp with rfl | hp
    · exact .inl h
    · exact .inr ⟨p, hp, h⟩
  · rintro (h | ⟨p, hp, h⟩)
    · exact ⟨x, .head _, h⟩
    · exact ⟨p, .tail _ hp, h⟩
theorem inn_app {n : Int} {xs ys : List P2} : inn n (xs ++ ys) ↔ inn n xs ∨ inn n ys := by
  constructor
  · rintro ⟨p, hp, h⟩
    rcases List.mem_append.mp hp with hp | hp
    · exact .inl ⟨p, hp, h⟩
    · exact .inr ⟨p, hp, h⟩
  · rintro (⟨p, hp, h⟩ | ⟨p, hp, h⟩)
    · exact ⟨p, List.mem_append_left _ hp, h⟩
    · exact ⟨p, List.mem_append_right _ hp, h⟩
theorem Nrm.low {b c : Int} {xs : List P2} (h : Nrm c xs) (hb : b ≤ c) : Nrm b xs := by
  cases xs with
  | nil => exact trivial
  | cons x xs => exact ⟨Int.le_trans hb h.1, h.2⟩
theorem Nrm.ge {b n : Int} : ∀ {xs : List P2}, Nrm b xs → inn n xs → b ≤ n
  | [], _, h => absurd h inn_nil
  | x :: xs, hn, h => by
    obtain ⟨h1, h2, h3⟩ := hn
    rcases inn_cons.mp h with h | h
    · omega
    · have := Nrm.ge h3 h; omega
theorem Nrm.ext : ∀ {xs ys : List P2} {b c : Int}, Nrm b xs → Nrm c ys → (∀ n, inn n xs ↔ inn n ys) → xs = ys
  | [], [], _, _, _, _, _ => rfl
  | [], y :: ys, _, _, _, hy, h => absurd ((h y.1).mpr (inn_cons.mpr (.inl ⟨Int.le_refl _, hy.2.1⟩))) inn_nil
  | x :: xs, [], _, _, hx, _, h => absurd ((h x.1).mp (inn_cons.mpr (.inl ⟨Int.le_refl _, hx.2.1⟩))) inn_nil
  | x :: xs, y :: ys, b, c, hx, hy, h => by
    obtain ⟨hx1, hx2, hx3⟩ := hx
    obtain ⟨hy1, hy2, hy3⟩ := hy
    have e1 : x.1 = y.1 := by
      have a : y.1 ≤ x.1 := Nrm.ge (xs := y :: ys) ⟨Int.le_refl _, hy2, hy3⟩ ((h x.1).mp (inn_cons.mpr (.inl ⟨Int.le_refl _, hx2⟩)))
      have b : x.1 ≤ y.1 := Nrm.ge (xs := x :: xs) ⟨Int.le_refl _, hx2, hx3⟩ ((h y.1).mpr (inn_cons.mpr (.inl ⟨Int.le_refl _, hy2⟩)))
      omega
    have e2 : x.2 = y.2 := by
      rcases Int.lt_trichotomy x.2 y.2 with hl | hl | hl
      · have := (h (x.2 + 1)).mpr (inn_cons.mpr (.inl ⟨by omega, by omega⟩))
        rcases inn_cons.mp this with q | q
        · omega
        · have := Nrm.ge hx3 q; omega
      · exact hl
      · have := (h (y.2 + 1)).mp (inn_cons.mpr (.inl ⟨by omega, by omega⟩))
        rcases inn_cons.mp this with q | q
        · omega
        · have := Nrm.ge hy3 q; omega
    have e : x = y := Prod.ext e1 e2
    subst e
    rw [Nrm.ext hx3 hy3 fun n => ?_]
    constructor
    · intro q
      have := Nrm.ge hx3 q
      rcases inn_cons.mp ((h n).mp (inn_cons.mpr (.inr q))) with r | r
      · omega
      · exact r
    · intro q
      have := Nrm.ge hy3 q
      rcases inn_cons.mp ((h n).mpr (inn_cons.mpr (.inr q))) with r | r
      · omega
      · exact r
theorem Nrm.app {h : Int} : ∀ {xs ys : List P2} {b : Int}, Nrm b xs → (∀ n, inn n xs → n ≤ h) → Nrm (h + 2) ys → b ≤ h + 2 → Nrm b (xs ++ ys)
  | [], _, _, _, _, hy, hb => hy.low hb
  | x :: xs, ys, b, hx, hh, hy, _ => ⟨hx.1, hx.2.1, Nrm.app hx.2.2 (fun n q => hh n (inn_cons.mpr (.inr q))) hy (by have := hh x.2 (inn_cons.mpr (.inl ⟨hx.2.1, Int.le_refl _⟩)); omega)⟩

theorem meet_nrm : ∀ (k : Nat) (xs ys : List P2) (b c : Int), xs.length + ys.length ≤ k → Nrm b xs → Nrm c ys → Nrm (max b c) (meetF xs ys) ∧ ∀ n, inn n (meetF xs ys) ↔ inn n xs ∧ inn n ys := by
  intro k
  induction k with
  | zero =>
    intro xs ys b c hk hx hy
    match xs, ys, hk with
    | [], ys, _ =>
      rw [meetF]
      exact ⟨trivial, fun n => ⟨fun h => absurd h inn_nil, fun h => absurd h.1 inn_nil⟩⟩
    | x :: xs, ys, hk => simp only [List.length_cons] at hk; omega
  | succ k ih =>
    intro xs ys b c hk hx hy
    match xs, ys with
    | [], ys =>
      rw [meetF]
      exact ⟨trivial, fun n => ⟨fun h => absurd h inn_nil, fun h => absurd h.1 inn_nil⟩⟩
    | x :: xs, [] =>
      rw [meetF]
      exact ⟨trivial, fun n => ⟨fun h => absurd h inn_nil, fun h => absurd h.2 inn_nil⟩⟩
    | x :: xs, y :: ys =>
      rw [meetF]
      obtain ⟨hx1, hx2, hx3⟩ := hx
      obtain ⟨hy1, hy2, hy3⟩ := hy
      simp only [List.length_cons] at hk
      have el : mlo x y = max x.1 y.1 := by unfold mlo; split <;> omega
      have eh : mhi x y = min x.2 y.2 := by unfold mhi; split <;> omega
      rw [el, eh]
      by_cases hc : x.2 < y.2
      · rw [if_pos hc]
        obtain ⟨i1, i2⟩ := ih xs (y :: ys) (x.2 + 2) c (by simp only [List.length_cons]; omega) hx3 ⟨hy1, hy2, hy3⟩
        have em : min x.2 y.2 = x.2 := by omega
        rw [em]
        by_cases hl : max x.1 y.1 ≤ x.2
        · rw [if_pos hl]
          refine ⟨⟨by dsimp only; omega, hl, i1.low (by dsimp only; omega)⟩, fun n => ?_⟩
          simp only [List.singleton_append, inn_cons, i2]
          constructor
          · rintro (h | ⟨h1, h2⟩)
            · exact ⟨.inl (by omega), .inl (by omega)⟩
            · exact ⟨.inr h1, h2⟩
          · rintro ⟨h1 | h1, h2 | h2⟩
            · exact .inl (by omega)
            · have := hy3.ge h2; omega
            · exact .inr ⟨h1, .inl h2⟩
            · exact .inr ⟨h1, .inr h2⟩
        · rw [if_neg hl, List.nil_append]
          refine ⟨i1.low (by omega), fun n => ?_⟩
          simp only [i2, inn_cons]
          constructor
          · rintro ⟨h1, h2⟩
            exact ⟨.inr h1, h2⟩
          · rintro ⟨h1 | h1, h2 | h2⟩
            · omega
            · have := hy3.ge h2; omega
            · exact ⟨h1, .inl h2⟩
            · exact ⟨h1, .inr h2⟩
      · rw [if_neg hc]
        obtain ⟨i1, i2⟩ := ih (x :: xs) ys b (y.2 + 2) (by simp only [List.length_cons]; omega) ⟨hx1, hx2, hx3⟩ hy3
        have em : min x.2 y.2 = y.2 := by omega
        rw [em]
        by_cases hl : max x.1 y.1 ≤ y.2
        · rw [if_pos hl]
          refine ⟨⟨by dsimp only; omega, hl, i1.low (by dsimp only; omega)⟩, fun n => ?_⟩
          simp only [List.singleton_append, inn_cons, i2]
          constructor
          · rintro (h | ⟨h1, h2⟩)
            · exact ⟨.inl (by omega), .inl (by omega)⟩
            · exact ⟨h1, .inr h2⟩
          · rintro ⟨h1 | h1, h2 | h2⟩
            · exact .inl (by omega)
            · exact .inr ⟨.inl h1, h2⟩
            · have := hx3.ge h1; omega
            · exact .inr ⟨.inr h1, h2⟩
        · rw [if_neg hl, List.nil_append]
          refine ⟨i1.low (by omega), fun n => ?_⟩
          simp only [i2, inn_cons]
          constructor
          · rintro ⟨h1, h2⟩
            exact ⟨h1, .inr h2⟩
          · rintro ⟨h1 | h1, h2 | h2⟩
            · omega
            · exact ⟨.inl h1, h2⟩
            · have := hx3.ge h1; omega
            · exact ⟨.inr h1, h2⟩

theorem mskip_nrm {lo : Int} : ∀ {ys : List P2} {c : Int}, Nrm c ys → Nrm c (mskip lo ys) ∧ (∀ y, (mskip lo ys).head? = some y → lo ≤ y.2) ∧ ∀ n, lo ≤ n → (inn n (mskip lo ys) ↔ inn n ys)
  | [], _, _ => ⟨trivial, (by intro y h; cases h), fun _ _ => Iff.rfl⟩
  | y :: ys, c, h => by
    rw [mskip]
    by_cases hc : y.2 < lo
    · rw [if_pos hc]
      obtain ⟨a, b, d⟩ := mskip_nrm (lo := lo) h.2.2
      refine ⟨a.low (by have := h.1; have := h.2.1; omega), b, fun n hn => ?_⟩
      rw [d n hn, inn_cons]
      constructor
      · exact .inr
      · rintro (q | q)
        · omega
        · exact q
    · rw [if_neg hc]
      refine ⟨h, fun z hz => ?_, fun _ _ => Iff.rfl⟩
      cases hz
      omega
theorem mcut_nrm {hi : Int} : ∀ {ys : List P2} {b c : Int}, Nrm c ys → (∀ y, ys.head? = some y → b ≤ y.2) → Nrm b (mcut hi b ys) ∧ ∀ n, inn n (mcut hi b ys) ↔ b ≤ n ∧ n ≤ hi ∧ ¬ inn n ys
  | [], b, c, _, _ => by
    rw [mcut]
    by_cases h : b ≤ hi
    · rw [if_pos h]
      refine ⟨⟨Int.le_refl _, h, trivial⟩, fun n => ?_⟩
      rw [inn_cons]
      constructor
      · rintro (q | q)
        · exact ⟨q.1, q.2, inn_nil⟩
        · exact absurd q inn_nil
      · exact fun q => .inl ⟨q.1, q.2.1⟩
    · rw [if_neg h]
      exact ⟨trivial, fun n => ⟨fun q => absurd q inn_nil, fun q => by omega⟩⟩
  | y :: ys, b, c, hn, hh => by
    have hb := hh y rfl
    obtain ⟨h1, h2, h3⟩ := hn
    rw [mcut]
    by_cases hc : y.1 ≤ hi
    · rw [if_pos hc]
      obtain ⟨i1, i2⟩ := mcut_nrm (hi := hi) (ys := ys) (b := y.2 + 1) h3 (fun z hz => by
        cases ys with
        | nil => cases hz
        | cons w ws => cases hz; have := h3.1; have := h3.2.1; omega)
      by_cases hl : b < y.1
      · rw [if_pos hl]
        refine ⟨⟨Int.le_refl _, by dsimp only; omega, i1.low (by dsimp only; omega)⟩, fun n => ?_⟩
        rw [List.singleton_append, inn_cons, i2, inn_cons]
        dsimp only
        constructor
        · rintro (q | ⟨q1, q2, q3⟩)
          · refine ⟨by omega, by omega, ?_⟩
            rintro (r | r)
            · omega
            · have := h3.ge r; omega
          · refine ⟨by omega, q2, ?_⟩
            rintro (r | r)
            · omega
            · exact q3 r
        · rintro ⟨q1, q2, q3⟩
          by_cases hq : n < y.1
          · exact .inl (by omega)
          · refine .inr ⟨?_, q2, fun r => q3 (.inr r)⟩
            by_cases hr : n ≤ y.2
            · exact absurd (.inl ⟨by omega, hr⟩) q3
            · omega
      · rw [if_neg hl, List.nil_append]
        refine ⟨i1.low (by omega), fun n => ?_⟩
        rw [i2, inn_cons]
        constructor
        · rintro ⟨q1, q2, q3⟩
          refine ⟨by omega, q2, ?_⟩
          rintro (r | r)
          · omega
          · exact q3 r
        · rintro ⟨q1, q2, q3⟩
          refine ⟨?_, q2, fun r => q3 (.inr r)⟩
          by_cases hr : n ≤ y.2
          · exact absurd (.inl ⟨by omega, hr⟩) q3
          · omega
    · rw [if_neg hc]
      have far : ∀ n, n ≤ hi → ¬ inn n (y :: ys) := fun n hn q => by
        have := Nrm.ge (xs := y :: ys) (b := y.1) ⟨Int.le_refl _, h2, h3⟩ q
        omega
      by_cases h : b ≤ hi
      · rw [if_pos h]
        refine ⟨⟨Int.le_refl _, h, trivial⟩, fun n => ?_⟩
        rw [inn_cons]
        constructor
        · rintro (q | q)
          · exact ⟨q.1, q.2, far n q.2⟩
          · exact absurd q inn_nil
        · exact fun q => .inl ⟨q.1, q.2.1⟩
      · rw [if_neg h]
        exact ⟨trivial, fun n => ⟨fun q => absurd q inn_nil, fun q => by omega⟩⟩
theorem minus_nrm : ∀ {xs ys : List P2} {b c : Int}, Nrm b xs → Nrm c ys → Nrm b (minusF xs ys) ∧ ∀ n, inn n (minusF xs ys) ↔ inn n xs ∧ ¬ inn n ys
  | [], ys, b, c, _, _ => by
    rw [minusF]
    exact ⟨trivial, fun n => ⟨fun h => absurd h inn_nil, fun h => absurd h.1 inn_nil⟩⟩
  | x :: xs, ys, b, c, hx, hy => by
    obtain ⟨h1, h2, h3⟩ := hx
    rw [minusF]
    obtain ⟨s1, s2, s3⟩ := mskip_nrm (lo := x.1) hy
    obtain ⟨k1, k2⟩ := mcut_nrm (hi := x.2) s1 s2
    obtain ⟨i1, i2⟩ := minus_nrm h3 s1
    refine ⟨(k1.app (fun n q => ((k2 n).mp q).2.1) i1 (by omega)).low h1, fun n => ?_⟩
    rw [inn_app, k2, i2, inn_cons]
    constructor
    · rintro (⟨q1, q2, q3⟩ | ⟨q1, q2⟩)
      · exact ⟨.inl ⟨q1, q2⟩, fun r => q3 ((s3 n q1).mpr r)⟩
      · have := h3.ge q1
        exact ⟨.inr q1, fun r => q2 ((s3 n (by omega)).mpr r)⟩
    · rintro ⟨q1 | q1, q2⟩
      · exact .inl ⟨q1.1, q1.2, fun r => q2 ((s3 n q1.1).mp r)⟩
      · have := h3.ge q1
        exact .inr ⟨q1, fun r => q2 ((s3 n (by omega)).mp r)⟩

noncomputable def tgo (z : P2) : List P2 → List P2
  | [] => [z]
  | p :: ps => if p.1 ≤ z.2 + 1 then tgo (z.1, max z.2 p.2) ps else z :: tgo p ps
theorem tidy_go : ∀ (ps fg : List P2) (z : P2), ps.foldl tstep (fg ++ [z]) = fg ++ tgo z ps
  | [], fg, z => rfl
  | p :: ps, fg, z => by
    rw [List.foldl_cons, tgo]
    obtain ⟨lo, hi⟩ := z
    by_cases h1 : p.1 ≤ hi + 1
    · rw [if_pos h1]
      by_cases h2 : p.2 > hi
      · rw [tstep_up h1 h2, tidy_go ps fg]
        have e : max hi p.2 = p.2 := by omega
        dsimp only
        rw [e]
      · rw [tstep_in h1 h2, tidy_go ps fg]
        have e : max hi p.2 = hi := by omega
        dsimp only
        rw [e]
    · rw [if_neg h1, tstep_new h1, tidy_go ps]
      simp
theorem tgo_nrm : ∀ (ps : List P2) (z : P2), z.1 ≤ z.2 → (∀ p ∈ ps, z.1 ≤ p.1 ∧ p.1 ≤ p.2) → ps.Pairwise (fun a b => a.1 ≤ b.1) → Nrm z.1 (tgo z ps) ∧ ∀ n, inn n (tgo z ps) ↔ (z.1 ≤ n ∧ n ≤ z.2) ∨ inn n ps
  | [], z, hz, _, _ => by
    rw [tgo]
    exact ⟨⟨Int.le_refl _, hz, trivial⟩, fun n => by rw [inn_cons]⟩
  | p :: ps, z, hz, hp, hs => by
    rw [tgo]
    have h0 := hp p (.head _)
    rw [List.pairwise_cons] at hs
    by_cases h1 : p.1 ≤ z.2 + 1
    · rw [if_pos h1]
      obtain ⟨i1, i2⟩ := tgo_nrm ps (z.1, max z.2 p.2) (by dsimp only; omega) (fun q hq => hp q (.tail _ hq)) hs.2
      refine ⟨i1, fun n => ?_⟩
      rw [i2, inn_cons]
      dsimp only
      constructor
      · rintro (q | q)
        · by_cases hq : n ≤ z.2
          · exact .inl (by omega)
          · exact .inr (.inl (by omega))
        · exact .inr (.inr q)
      · rintro (q | q | q)
        · exact .inl (by omega)
        · exact .inl (by omega)
        · exact .inr q
    · rw [if_neg h1]
      obtain ⟨i1, i2⟩ := tgo_nrm ps p h0.2 (fun q hq => ⟨hs.1 q hq, (hp q (.tail _ hq)).2⟩) hs.2
      refine ⟨⟨Int.le_refl _, hz, i1.low (by omega)⟩, fun n => ?_⟩
      rw [inn_cons, i2, inn_cons]
theorem tidy_nrm {ys : List P2} {b : Int} (hp : ∀ p ∈ ys, b ≤ p.1 ∧ p.1 ≤ p.2) (hs : ys.Pairwise (fun a b => a.1 ≤ b.1)) : Nrm b (tidyL ys) ∧ ∀ n, inn n (tidyL ys) ↔ inn n ys := by
  cases ys with
  | nil => exact ⟨trivial, fun _ => Iff.rfl⟩
  | cons p ps =>
    have e : tidyL (p :: ps) = tgo p ps := tidy_go ps [] p
    rw [e]
    rw [List.pairwise_cons] at hs
    have h0 := hp p (.head _)
    obtain ⟨i1, i2⟩ := tgo_nrm ps p h0.2 (fun q hq => ⟨hs.1 q hq, (hp q (.tail _ hq)).2⟩) hs.2
    exact ⟨i1.low h0.1, fun n => by rw [i2, inn_cons]⟩
theorem inn_perm {xs ys : List P2} (h : xs.Perm ys) (n : Int) : inn n xs ↔ inn n ys := by
  unfold inn
  constructor
  · rintro ⟨p, hp, q⟩; exact ⟨p, h.mem_iff.mp hp, q⟩
  · rintro ⟨p, hp, q⟩; exact ⟨p, h.mem_iff.mpr hp, q⟩
end Mine
end
section
open PySem PySem.W PyProof.Rows
namespace Mine
noncomputable def rstep (c : List Bool) (fo : List P2) (n : Nat) : List P2 :=
  if c.getD n false = true then
    (if 0 < n ∧ c.getD (n - 1) false = true then (match fo.getLast? with | none => fo | some z => fo.dropLast ++ [(z.1, (n : Int))]) else fo ++ [((n : Int), (n : Int))])
  else fo
noncomputable def runsTo (c : List Bool) (k : Nat) : List P2 := (List.range k).foldl (rstep c) []
noncomputable def runsF (c : List Bool) : List P2 := runsTo c c.length
theorem runsTo_succ (c : List Bool) (k : Nat) : runsTo c (k + 1) = rstep c (runsTo c k) k := by
  unfold runsTo
  rw [List.range_succ, List.foldl_append]; rfl
theorem rstep_ext {c : List Bool} {fg : List P2} {lo hi : Int} {n : Nat} (h1 : c.getD n false = true) (h0 : 0 < n) (h2 : c.getD (n - 1) false = true) : rstep c (fg ++ [(lo, hi)]) n = fg ++ [(lo, (n : Int))] := by
  unfold rstep
  rw [if_pos h1, if_pos ⟨h0, h2⟩, List.getLast?_concat]
  dsimp only
  rw [List.dropLast_concat]
theorem rstep_new {c : List Bool} {fo : List P2} {n : Nat} (h1 : c.getD n false = true) (h2 : ¬ (0 < n ∧ c.getD (n - 1) false = true)) : rstep c fo n = fo ++ [((n : Int), (n : Int))] := by
  unfold rstep
  rw [if_pos h1, if_neg h2]
theorem rstep_no {c : List Bool} {fo : List P2} {n : Nat} (h1 : ¬ c.getD n false = true) : rstep c fo n = fo := by
  unfold rstep
  rw [if_neg h1]
noncomputable def SpecC (xs : List P2) (c : List Bool) : Prop := Nrm 0 xs ∧ ∀ n, inn n xs ↔ 0 ≤ n ∧ c.getD n.toNat false = true
theorem SpecC.uniq {xs ys : List P2} {c : List Bool} (h : SpecC xs c) (k : SpecC ys c) : xs = ys := h.1.ext k.1 fun n => (h.2 n).trans (k.2 n).symm
theorem nrm_up {lo h h' : Int} (hh : h ≤ h') : ∀ {fg : List P2} {b : Int}, Nrm b (fg ++ [(lo, h)]) → Nrm b (fg ++ [(lo, h')])
  | [], _, q => ⟨q.1, Int.le_trans q.2.1 hh, trivial⟩
  | _ :: _, _, q => ⟨q.1, q.2.1, nrm_up hh q.2.2⟩
theorem runsTo_spec (c : List Bool) : ∀ k : Nat, Nrm 0 (runsTo c k) ∧ (∀ n, inn n (runsTo c k) ↔ 0 ≤ n ∧ n < (k : Int) ∧ c.getD n.toNat false = true) ∧ (0 < k → c.getD (k - 1) false = true → ∃ fg lo, runsTo c k = fg ++ [(lo, (k : Int) - 1)])
  | 0 => ⟨trivial, fun n => ⟨fun h => absurd h inn_nil, fun h => by omega⟩, fun h => absurd h (by omega)⟩
  | k + 1 => by
    obtain ⟨h1, h2, h3⟩ := runsTo_spec c k
    rw [runsTo_succ]
    by_cases hk : c.getD k false = true
    · by_cases hp : 0 < k ∧ c.getD (k - 1) false = true
      · obtain ⟨fg, lo, e⟩ := h3 hp.1 hp.2
        rw [e] at h1 h2
        rw [e, rstep_ext hk hp.1 hp.2]
        refine ⟨nrm_up (by omega) h1, fun n => ?_, fun _ _ => ⟨fg, lo, by congr 3; omega⟩⟩
        have q := h2 n
        rw [inn_app, inn_cons] at q ⊢
        dsimp only at q ⊢
        have hlo : lo ≤ (k : Int) - 1 := by
          have := (h2 ((k : Int) - 1)).mpr ⟨by omega, by omega, by
            have e9 : ((k : Int) - 1).toNat = k - 1 := by omega
            rw [e9]; exact hp.2⟩
          rw [inn_app, inn_cons] at this
          have hl : ∀ {fg : List P2} {b : Int}, Nrm b (fg ++ [(lo, (k : Int) - 1)]) → lo ≤ (k : Int) - 1
            := by
            intro fg
            induction fg with
            | nil => intro b q; exact q.2.1
            | cons _ _ ih => intro b q; exact ih q.2.2
          exact hl h1
        by_cases hn : n = (k : Int)
        · subst hn
          constructor
          · intro _
            refine ⟨by omega, by omega, ?_⟩
            have e9 : ((k : Int)).toNat = k := by omega
            rw [e9]; exact hk
          · intro _
            exact .inr (.inl ⟨by omega, Int.le_refl _⟩)
        · constructor
          · rintro (r | r | r)
            · have := q.mp (.inl r); exact ⟨this.1, by omega, this.2.2⟩
            · have := q.mp (.inr (.inl ⟨r.1, by omega⟩)); exact ⟨this.1, by omega, this.2.2⟩
            · exact absurd r inn_nil
          · rintro ⟨r1, r2, r3⟩
            rcases q.mpr ⟨r1, by omega, r3⟩ with r | r | r
            · exact .inl r
            · exact .inr (.inl ⟨r.1, by omega⟩)
            · exact absurd r inn_nil
      · rw [rstep_new hk hp]
        refine ⟨?_, fun n => ?_, fun _ _ => ⟨runsTo c k, (k : Int), by congr 3; omega⟩⟩
        · refine Nrm.app (h := (k : Int) - 2) h1 (fun n q => ?_) ⟨by dsimp only; omega, Int.le_refl _, trivial⟩ (by omega)
          have r := (h2 n).mp q
          by_cases hn : n = (k : Int) - 1
          · exfalso
            apply hp
            refine ⟨by omega, ?_⟩
            have e9 : n.toNat = k - 1 := by omega
            rw [e9] at r; exact r.2.2
          · omega
        · rw [inn_app, h2, inn_cons]
          dsimp only
          constructor
          · rintro (r | r | r)
            · exact ⟨r.1, by omega, r.2.2⟩
            · have e9 : n.toNat = k := by omega
              rw [e9]; exact ⟨by omega, by omega, hk⟩
            · exact absurd r inn_nil
          · rintro ⟨r1, r2, r3⟩
            by_cases hn : n = (k : Int)
            · exact .inr (.inl (by omega))
            · exact .inl ⟨r1, by omega, r3⟩
    · rw [rstep_no hk]
      refine ⟨h1, fun n => ?_, fun _ q => absurd q hk⟩
      rw [h2]
      constructor
      · rintro ⟨r1, r2, r3⟩; exact ⟨r1, by omega, r3⟩
      · rintro ⟨r1, r2, r3⟩
        refine ⟨r1, ?_, r3⟩
        by_cases hn : n = (k : Int)
        · exfalso; apply hk
          have e9 : n.toNat = k := by omega
          rw [e9] at r3; exact r3
        · omega
theorem runs_spec (c : List Bool) : SpecC (runsF c) c := by
  obtain ⟨h1, h2, _⟩ := runsTo_spec c c.length
  refine ⟨h1, fun n => (h2 n).trans ⟨fun h => ⟨h.1, h.2.2⟩, fun h => ⟨h.1, ?_, h.2⟩⟩⟩
  false_or_by_contra
  have e : c.getD n.toNat false = false := by
    rw [List.getD_eq_getElem?_getD, List.getElem?_eq_none (by omega)]; rfl
  rw [e] at h
  cases h.2
theorem runs_ne {c : List Bool} {k : Nat} (h0 : 0 < k) (h : c.getD (k - 1) false = true) : ∃ fg lo, runsTo c k = fg ++ [(lo, (k : Int) - 1)] := (runsTo_spec c k).2.2 h0 h

theorem zip_getD (f : Bool → Bool → Bool) (hf : f false false = false) : ∀ {a b : List Bool} (n : Nat), a.length = b.length → (List.zipWith f a b).getD n false = f (a.getD n false) (b.getD n false)
  | [], [], n, _ => by simp [hf]
  | [], _ :: _, _, h => by cases h
  | _ :: _, [], _, h => by cases h
  | x :: a, y :: b, 0, _ => rfl
  | x :: a, y :: b, n + 1, h => zip_getD f hf n (by simpa using h)
theorem meet_col {a b : List Bool} (h : a.length = b.length) : meetF (runsF a) (runsF b) = runsF (List.zipWith (· && ·) a b) := by
  have ha := runs_spec a
  have hb := runs_spec b
  obtain ⟨i1, i2⟩ := meet_nrm _ _ _ _ _ (Nat.le_refl _) ha.1 hb.1
  refine SpecC.uniq ⟨i1.low (by omega), fun n => ?_⟩ (runs_spec _)
  rw [i2, ha.2, hb.2, zip_getD _ rfl _ h, Bool.and_eq_true]
  constructor
  · rintro ⟨⟨q1, q2⟩, _, q3⟩; exact ⟨q1, q2, q3⟩
  · rintro ⟨q1, q2, q3⟩; exact ⟨⟨q1, q2⟩, q1, q3⟩
theorem minus_col {a b : List Bool} (h : a.length = b.length) : minusF (runsF a) (runsF b) = runsF (List.zipWith (fun p q => p && !q) a b) := by
  have ha := runs_spec a
  have hb := runs_spec b
  obtain ⟨i1, i2⟩ := minus_nrm ha.1 hb.1
  refine SpecC.uniq ⟨i1, fun n => ?_⟩ (runs_spec _)
  rw [i2, ha.2, hb.2, zip_getD _ rfl _ h, Bool.and_eq_true, Bool.not_eq_true']
  constructor
  · rintro ⟨⟨q1, q2⟩, q3⟩
    refine ⟨q1, q2, ?_⟩
    cases hq : b.getD n.toNat false with
    | false => rfl
    | true => exact absurd ⟨q1, hq⟩ q3
  · rintro ⟨q1, q2, q3⟩
    exact ⟨⟨q1, q2⟩, fun r => by rw [q3] at r; cases r.2⟩
theorem Nrm.mem {b : Int} : ∀ {xs : List P2}, Nrm b xs → ∀ p ∈ xs, b ≤ p.1 ∧ p.1 ≤ p.2
  | x :: xs, h, p, hp => by
    rcases List.mem_cons.mp hp with rfl | hp
    · exact ⟨h.1, h.2.1⟩
    · have := Nrm.mem h.2.2 p hp
      have h1 := h.1
      have h2 := h.2.1
      omega
theorem col_lt {c : List Bool} {n : Int} (h : 0 ≤ n ∧ c.getD n.toNat false = true) : n < (c.length : Int) := by
  false_or_by_contra
  have e : c.getD n.toNat false = false := by
    rw [List.getD_eq_getElem?_getD, List.getElem?_eq_none (by omega)]; rfl
  rw [e] at h
  cases h.2
theorem runs_mem {c : List Bool} {p : P2} (h : p ∈ runsF c) : 0 ≤ p.1 ∧ p.1 ≤ p.2 ∧ p.2 < (c.length : Int) := by
  have hs := runs_spec c
  have hm := hs.1.mem p h
  exact ⟨hm.1, hm.2, col_lt ((hs.2 p.2).mp ⟨p, h, hm.2, Int.le_refl _⟩)⟩
theorem nrm_len {h : Int} : ∀ {xs : List P2} {b : Int}, Nrm b xs → (∀ n, inn n xs → n ≤ h) → b ≤ h + 2 → b + 2 * (xs.length : Int) ≤ h + 2
  | [], _, _, _, hb => by simpa using hb
  | x :: xs, b, hn, hh, _ => by
    have h1 := hn.1
    have h2 := hn.2.1
    have h3 := hh x.2 (inn_cons.mpr (.inl ⟨h2, Int.le_refl _⟩))
    have := nrm_len hn.2.2 (fun n q => hh n (inn_cons.mpr (.inr q))) (by omega)
    simp only [List.length_cons]
    omega
theorem runs_len (c : List Bool) : 2 * (runsF c).length ≤ c.length + 1 := by
  have hs := runs_spec c
  have := nrm_len (h := (c.length : Int) - 1) hs.1 (fun n q => by have := col_lt ((hs.2 n).mp q); omega) (by omega)
  omega
theorem join_col {a b : List Bool} {ys : List P2} (h : a.length = b.length) (hp : ys.Perm (runsF a ++ runsF b)) (hs : ys.Pairwise (fun a b => a.1 ≤ b.1)) : tidyL ys = runsF (List.zipWith (· || ·) a b) := by
  have ha := runs_spec a
  have hb := runs_spec b
  obtain ⟨i1, i2⟩ := tidy_nrm (b := 0) (ys := ys) (fun p q => by
    rcases List.mem_append.mp (hp.mem_iff.mp q) with r | r
    · exact ha.1.mem p r
    · exact hb.1.mem p r) hs
  refine SpecC.uniq ⟨i1, fun n => ?_⟩ (runs_spec _)
  rw [i2, inn_perm hp, inn_app, ha.2, hb.2, zip_getD _ rfl _ h, Bool.or_eq_true]
  constructor
  · rintro (q | q)
    · exact ⟨q.1, .inl q.2⟩
    · exact ⟨q.1, .inr q.2⟩
  · rintro ⟨q1, q2 | q2⟩
    · exact .inl ⟨q1, q2⟩
    · exact .inr ⟨q1, q2⟩
theorem rep_col (n : Nat) : runsF (List.replicate (n + 1) true) = [(0, (n : Int))] := by
  refine SpecC.uniq (runs_spec _) ⟨⟨Int.le_refl _, by dsimp only; omega, trivial⟩, fun k => ?_⟩
  rw [inn_cons, List.getD_eq_getElem?_getD, List.getElem?_replicate]
  dsimp only
  constructor
  · rintro (q | q)
    · rw [if_pos (by omega)]; exact ⟨q.1, rfl⟩
    · exact absurd q inn_nil
  · rintro ⟨q1, q2⟩
    by_cases hq : k.toNat < n + 1
    · exact .inl (by omega)
    · rw [if_neg hq] at q2; cases q2
theorem zip_not : ∀ (c : List Bool), List.zipWith (fun p q => p && !q) (List.replicate c.length true) c = c.map (!·)
  | [] => rfl
  | x :: c => by
    rw [List.length_cons, List.replicate_succ, List.zipWith_cons_cons, zip_not c]; simp
theorem flip_col {c : List Bool} {top : Int} (h : (c.length : Int) = top + 1) (h0 : 0 ≤ top) : minusF [(0, top)] (runsF c) = runsF (c.map (!·)) := by
  obtain ⟨n, rfl⟩ := Int.eq_ofNat_of_zero_le h0
  have e : c.length = n + 1 := by omega
  rw [← rep_col n, minus_col (by rw [List.length_replicate, e]), ← e, zip_not]
end Mine
end
section
open PySem PySem.W PyProof.Rows
namespace Mine
noncomputable def conR (i : Int) (R : List P2) : List P2 := List.casesOn R [(i, i)] fun p t => if p.1 = i + 1 then (i, p.2) :: t else (i, i) :: R
noncomputable def fr (c : List Bool) : Int → List P2 := List.rec (fun _ => []) (fun b _ ih i => cond b (conR i (ih (i + 1))) (ih (i + 1))) c
theorem one_in {i n : Int} : (i ≤ n ∧ n ≤ i) ↔ n = i := ⟨fun q => Int.le_antisymm q.2 q.1, fun q => q ▸ ⟨Int.le_refl _, Int.le_refl _⟩⟩
theorem conR_spec {i : Int} {R : List P2} (h : Nrm (i + 1) R) : Nrm i (conR i R) ∧ ∀ n, inn n (conR i R) ↔ n = i ∨ inn n R := by
  unfold conR
  cases R with
  | nil => exact ⟨⟨Int.le_refl _, Int.le_refl _, trivial⟩, fun n => by rw [inn_cons, one_in]⟩
  | cons p t =>
    obtain ⟨k1, k2, k3⟩ := h
    dsimp only
    by_cases e : p.1 = i + 1
    · rw [if_pos e]
      refine ⟨⟨Int.le_refl _, Int.le_trans (by omega) k2, k3⟩, fun n => ?_⟩
      rw [inn_cons, inn_cons, ← or_assoc]
      exact or_congr_left (by dsimp only; omega)
    · rw [if_neg e]
      exact ⟨⟨Int.le_refl _, Int.le_refl _, by dsimp only; omega, k2, k3⟩, fun n => by rw [inn_cons, one_in]⟩
theorem fr_at {b : Bool} {r : List Bool} {i n : Int} : (i ≤ n ∧ (b :: r).getD (n - i).toNat false = true) ↔ (n = i ∧ b = true) ∨ (i + 1 ≤ n ∧ r.getD (n - (i + 1)).toNat false = true) := by
  by_cases h : i + 1 ≤ n
  · have e : (n - i).toNat = (n - (i + 1)).toNat + 1 := by omega
    rw [e]
    exact ⟨fun q => .inr ⟨h, q.2⟩, fun q => q.elim (fun q => by omega) fun q => ⟨by omega, q.2⟩⟩
  · by_cases h2 : n = i
    · subst h2
      rw [Int.sub_self, Int.toNat_zero]
      exact ⟨fun q => .inl ⟨rfl, q.2⟩, fun q => q.elim (fun q => ⟨Int.le_refl _, q.2⟩) fun q => absurd q.1 h⟩
    · exact ⟨fun q => by omega, fun q => q.elim (fun q => absurd q.1 h2) fun q => absurd q.1 h⟩
theorem fr_spec (c : List Bool) : ∀ i : Int, Nrm i (fr c i) ∧ ∀ n, inn n (fr c i) ↔ i ≤ n ∧ c.getD (n - i).toNat false = true := by
  induction c with
  | nil => exact fun i => ⟨trivial, fun n => ⟨fun q => absurd q inn_nil, fun q => nomatch q.2⟩⟩
  | cons b r ih =>
    intro i
    obtain ⟨h1, h2⟩ := ih (i + 1)
    cases b with
    | false => exact ⟨h1.low (by omega), fun n => by rw [fr_at]; exact (h2 n).trans ⟨.inr, fun q => q.elim (fun q => nomatch q.2) id⟩⟩
    | true =>
      have k := conR_spec h1
      exact ⟨k.1, fun n => by rw [fr_at, ← h2 n]; exact (k.2 n).trans (or_congr_left (and_iff_left rfl).symm)⟩
theorem runs_fr (c : List Bool) : runsF c = fr c 0 := by
  refine SpecC.uniq (runs_spec c) ⟨(fr_spec c 0).1, fun n => ?_⟩
  rw [(fr_spec c 0).2 n, Int.sub_zero]
end Mine
end
section
open PySem PySem.W PyProof.Rows
namespace Mine
structure MD where
  mask : Nat
  want : Nat
  bits : Nat
  most : Nat
noncomputable def mcol (mask want bits : Nat) : List Bool := (List.range (2 ^ bits)).map fun n => n &&& mask == want
noncomputable def bel (held bits : Int) : Nat → Int → Int
  | 0, b => b
  | f + 1, b => if b < bits ∧ Builtin.bitAnd (held.fdiv (2 ^ b.toNat)) 1 = 0 then bel held bits f (b + 1) else b
noncomputable def mgo (want tail free top most : Int) : Nat → Int → List P2 → Option (List P2)
  | 0, _, _ => none
  | f + 1, ch, fo => if (fo.length : Int) < most then (if ch = free then some (fo ++ [(want + ch, want + ch + tail)]) else mgo want tail free top most f (Builtin.bitAnd (ch + (top - free) + 1) free) (fo ++ [(want + ch, want + ch + tail)])) else none
noncomputable def mtop (bits : Int) : Int := 1 * 2 ^ bits.toNat - 1
noncomputable def mtail (held bits : Int) : Int := 1 * 2 ^ (bel held bits 6 0).toNat - 1
noncomputable def maskR (held want bits most : Int) : Option (List P2) := mgo want (mtail held bits) (mtop bits - held - mtail held bits) (mtop bits) most 33 0 []
noncomputable def maskOk (bits : Nat) : Bool := (List.range (2 ^ bits)).all fun held => (List.range (2 ^ bits)).all fun want =>
  if want &&& held = want then decide (maskR (held : Int) (want : Int) (bits : Int) ((2 ^ bits : Nat) : Int) = some (fr (mcol held want bits) 0)) else true
noncomputable def maskOne (bits : Nat) : Bool := (List.range (2 ^ bits)).all fun want => decide (maskR ((2 ^ bits - 1 : Nat) : Int) (want : Int) (bits : Int) 1 = some (fr (mcol (2 ^ bits - 1) want bits) 0))
set_option maxRecDepth 100000 in
theorem mask_ok2 : maskOk 2 = true := by decide +kernel
set_option maxRecDepth 100000 in
theorem mask_ok3 : maskOk 3 = true := by decide +kernel
set_option maxRecDepth 100000 in
theorem mask_ok4 : maskOk 4 = true := by decide +kernel
set_option maxRecDepth 100000 in
theorem mask_ok5 : maskOk 5 = true := by decide +kernel
set_option maxRecDepth 100000 in
theorem mask_one : (maskOne 2 && maskOne 3 && maskOne 4 && maskOne 5) = true := by decide +kernel
theorem maskOk_all {bits : Nat} (h2 : 2 ≤ bits) (h5 : bits ≤ 5) : maskOk bits = true := by
  have : bits = 2 ∨ bits = 3 ∨ bits = 4 ∨ bits = 5 := by omega
  rcases this with rfl | rfl | rfl | rfl
  · exact mask_ok2
  · exact mask_ok3
  · exact mask_ok4
  · exact mask_ok5
theorem maskOne_all {bits : Nat} (h2 : 2 ≤ bits) (h5 : bits ≤ 5) : maskOne bits = true := by
  have h := mask_one
  simp only [Bool.and_eq_true] at h
  have : bits = 2 ∨ bits = 3 ∨ bits = 4 ∨ bits = 5 := by omega
  rcases this with rfl | rfl | rfl | rfl
  · exact h.1.1.1
  · exact h.1.1.2
  · exact h.1.2
  · exact h.2
theorem mask_law {bits held want : Nat} (h2 : 2 ≤ bits) (h5 : bits ≤ 5) (hh : held < 2 ^ bits) (hw : want &&& held = want) :
    maskR (held : Int) (want : Int) (bits : Int) ((2 ^ bits : Nat) : Int) = some (runsF (mcol held want bits)) := by
  have hwl : want < 2 ^ bits := Nat.lt_of_le_of_lt (by rw [← hw]; exact Nat.and_le_right) hh
  have h := maskOk_all h2 h5
  unfold maskOk at h
  rw [List.all_eq_true] at h
  have h1 := h held (List.mem_range.mpr hh)
  rw [List.all_eq_true] at h1
  have h3 := h1 want (List.mem_range.mpr hwl)
  rw [if_pos hw] at h3
  rw [runs_fr]
  exact of_decide_eq_true h3
theorem mask_law1 {bits want : Nat} (h2 : 2 ≤ bits) (h5 : bits ≤ 5) (hw : want < 2 ^ bits) :
    maskR ((2 ^ bits - 1 : Nat) : Int) (want : Int) (bits : Int) 1 = some (runsF (mcol (2 ^ bits - 1) want bits)) := by
  have h := maskOne_all h2 h5
  unfold maskOne at h
  rw [List.all_eq_true] at h
  rw [runs_fr]
  exact of_decide_eq_true (h want (List.mem_range.mpr hw))
theorem mcol_held (mask want bits : Nat) : mcol (mask &&& (2 ^ bits - 1)) want bits = mcol mask want bits := by
  unfold mcol
  refine List.map_congr_left fun n hn => ?_
  have hn' := List.mem_range.mp hn
  have e : n &&& (2 ^ bits - 1) = n := by rw [Nat.and_two_pow_sub_one_eq_mod, Nat.mod_eq_of_lt hn']
  have e2 : n &&& (mask &&& (2 ^ bits - 1)) = n &&& mask := by
    rw [Nat.and_comm mask, ← Nat.and_assoc, e]
  rw [e2]
theorem mcol_none {mask want bits : Nat} (h : want &&& (mask &&& (2 ^ bits - 1)) ≠ want) : runsF (mcol mask want bits) = [] := by
  have e : ∀ b ∈ mcol mask want bits, b = false := by
    intro b hb
    rw [← mcol_held] at hb
    unfold mcol at hb
    obtain ⟨n, hn, rfl⟩ := List.mem_map.mp hb
    rw [beq_eq_false_iff_ne]
    intro q
    apply h
    rw [← q, Nat.and_assoc, Nat.and_self]
  refine SpecC.uniq (runs_spec _) ⟨trivial, fun n => ⟨fun q => absurd q inn_nil, fun q => ?_⟩⟩
  exfalso
  have q2 := q.2
  rw [List.getD_eq_getElem?_getD] at q2
  cases hq : (mcol mask want bits)[n.toNat]? with
  | none => rw [hq] at q2; cases q2
  | some b =>
    rw [hq] at q2
    have := e b (List.mem_of_getElem? hq)
    rw [this] at q2; cases q2
theorem mcol_len (mask want bits : Nat) : (mcol mask want bits).length = 2 ^ bits := by
  unfold mcol; simp
theorem mtop_nat {bits : Nat} : mtop (bits : Int) = ((2 ^ bits - 1 : Nat) : Int) := by
  unfold mtop
  have e : ((bits : Int)).toNat = bits := by omega
  rw [e, ← kbt_cast]
  have : 0 < 2 ^ bits := Nat.two_pow_pos bits
  omega
theorem band_nat (a b : Nat) : Builtin.bitAnd (a : Int) (b : Int) = ((a &&& b : Nat) : Int) := by
  rw [bitAnd_pp (by omega) (by omega)]
  have e1 : ((a : Int)).toNat = a := by omega
  have e2 : ((b : Int)).toNat = b := by omega
  rw [e1, e2]
end Mine
end
namespace Mine
section
local macro_rules | `(tactic| k_all) => `(tactic| first | assumption | exact ne_of_lt9 (by assumption) | exact ne_of_gt9 (by assumption) | (refine all_app ?_ ?_ <;> k_all))
local macro_rules | `(tactic| k_ne) => `(tactic| first | assumption | exact Ne.symm (by assumption) | exact Nat.ne_of_gt (by assumption) | exact Nat.ne_of_lt (by assumption))
local macro_rules | `(tactic| k_memK) => `(tactic| first | assumption | exact List.Mem.head _ | (refine List.mem_append_left _ ?_; k_memK) | (refine List.mem_append_right _ ?_; k_memK))
local macro_rules | `(tactic| walk_at $s:str) => `(tactic| k_extra $s)
local macro_rules | `(tactic| bits_by_make) => `(tactic| first
  | exact List.Mem.head _
  | (with_reducible exact sub_i)
  | exact sub_n
  | ((with_reducible refine sub_cc ?_ ?_) <;> bits_by_make)
  | ((with_reducible refine sub_a ?_ ?_) <;> bits_by_make)
  | ((with_reducible refine sub_t ?_); bits_by_make)
  | ((with_reducible refine sub_l ?_); bits_by_make)
  | ((with_reducible refine sub_r ?_); bits_by_make)
  | ((with_reducible refine mem_t9 ?_); bits_by_make)
  | ((with_reducible refine List.mem_append_left _ ?_); bits_by_make)
  | ((with_reducible refine List.mem_append_right _ ?_); bits_by_make))
section
open PySem PySem.W PyProof.Rows
set_option maxRecDepth 100000
set_option maxHeartbeats 8000000
theorem freshMeet1 : True := by
  k_with_none
  trivial
structure MS where
  i : Int
  j : Int
  ti : Tok
  tj : Tok
  vs : List Value
  n : Nat
  tl : List (Addr × Obj)
  fo : List P2
theorem seg_pos {fo : List P2} {x y : P2} (h : mlo x y ≤ mhi x y) : fo ++ [(mlo x y, mhi x y)] = fo ++ (if mlo x y ≤ mhi x y then [(mlo x y, mhi x y)] else []) := by rw [if_pos h]
theorem seg_neg {fo : List P2} {x y : P2} (h : ¬ mlo x y ≤ mhi x y) : fo = fo ++ (if mlo x y ≤ mhi x y then [(mlo x y, mhi x y)] else []) := by rw [if_neg h, List.append_nil]
theorem meas_i {i : Int} {n k : Nat} (h0 : 0 ≤ i) (h : i < (n : Int)) : (n - (i + 1).toNat) + k < (n - i.toNat) + k := Nat.add_lt_add_right (meas_0 h0 h) k
theorem meas_j {i : Int} {n k : Nat} (h0 : 0 ≤ i) (h : i < (n : Int)) : k + (n - (i + 1).toNat) < k + (n - i.toNat) := Nat.add_lt_add_left (meas_0 h0 h) k
theorem meet_i {xs ys fo fo2 R : List P2} {i j : Int} (h0 : 0 ≤ i) (h : i < (xs.length : Int)) (k0 : 0 ≤ j) (k : j < (ys.length : Int)) (h2 : (xs.getD i.toNat (0, 0)).2 < (ys.getD j.toNat (0, 0)).2)
    (hg : fo2 = fo ++ (if mlo (xs.getD i.toNat (0, 0)) (ys.getD j.toNat (0, 0)) ≤ mhi (xs.getD i.toNat (0, 0)) (ys.getD j.toNat (0, 0)) then [(mlo (xs.getD i.toNat (0, 0)) (ys.getD j.toNat (0, 0)), mhi (xs.getD i.toNat (0, 0)) (ys.getD j.toNat (0, 0)))] else []))
    (e : fo ++ meetF (xs.drop i.toNat) (ys.drop j.toNat) = R) : fo2 ++ meetF (xs.drop (i + 1).toNat) (ys.drop j.toNat) = R := by
  rw [← e, meet_step h0 h k0 k, if_pos h2, hg, List.append_assoc]
theorem meet_j {xs ys fo fo2 R : List P2} {i j : Int} (h0 : 0 ≤ i) (h : i < (xs.length : Int)) (k0 : 0 ≤ j) (k : j < (ys.length : Int)) (h2 : ¬ (xs.getD i.toNat (0, 0)).2 < (ys.getD j.toNat (0, 0)).2)
    (hg : fo2 = fo ++ (if mlo (xs.getD i.toNat (0, 0)) (ys.getD j.toNat (0, 0)) ≤ mhi (xs.getD i.toNat (0, 0)) (ys.getD j.toNat (0, 0)) then [(mlo (xs.getD i.toNat (0, 0)) (ys.getD j.toNat (0, 0)), mhi (xs.getD i.toNat (0, 0)) (ys.getD j.toNat (0, 0)))] else []))
    (e : fo ++ meetF (xs.drop i.toNat) (ys.drop j.toNat) = R) : fo2 ++ meetF (xs.drop i.toNat) (ys.drop (j + 1).toNat) = R := by
  rw [← e, meet_step h0 h k0 k, if_neg h2, hg, List.append_assoc]

theorem meet_fresh (w : World) (s₀ : Shared) (mg mb : Str → Option Value) (d : List P2 × List P2) :
    TellsF Challenge.rw_pq1070_01.row.prog w (hd.heap_39 w.params) hd.view_39 (looseW hd.view_39 []) (ExcName.means s₀.heap) mg mb 60 meetT d := by
  unfold TellsF
  k_fill
  intro dp un gd cn cs a ccd cl outer A₀ base h₀ L m news s vs Q E B F X N T hk hR hok hd hu hret
  obtain ⟨xs, ys⟩ := d
  obtain ⟨va, vb, rfl, hA, hB⟩ := hR
  obtain ⟨la, usa, na, rfl, hma, hda⟩ := sp_cases hA
  obtain ⟨lb, usb, nb, rfl, hmb, hdb⟩ := sp_cases hB
  obtain ⟨hoa, hob⟩ := hok
  dsimp only at hda hdb hoa hob
  have kdM : KdMark := kdMark
  refine wpAny_call ?_
  k_dflt ktr_enter
  clear hd hu
  (k_with "exec While BoolOp cons nil" => refine of_stop ?_)
  (k_with "exec If" => ((with_reducible show wpAny _ _ (exec (Stmt.If _ [Stmt.Expr _ _] _ _) _) _ _ _); refine of_stop ?_))
  (k_with "call builtin:len" => (first
    | (refine' sp_len (by assumption) (by k_memK) hda (by omega) ?_)
    | (refine' sp_len (by assumption) (by k_memK) hdb (by omega) ?_)))
  (k_with "subscriptTail Name Name ref int" => ((with_unfolding_all first
    | (refine' sp_item (by assumption) (by k_memK) hda (by assumption) (by assumption) (fit_of (by assumption) hoa) ?_)
    | (refine' sp_item (by assumption) (by k_memK) hdb (by assumption) (by assumption) (fit_of (by assumption) hob) ?_)); intro T t1 t2 q hT))
  k_steps
  refine to_stop ?_
  (rename Fr _ _ _ _ => F1); (rename News _ _ _ _ => N1); (rename (∀ p ∈ news, p.1 < _) => hlt)
  rename_i lf _ _ _ _
  with_unfolding_all
    refine' whl_d (sv0 := s) (σ := MS) (fun c => (lf, listOf c.vs.toArray c.n) :: (news ++ c.tl))
      (fun c => [(Str.ofString "a", Value.ref la), (Str.ofString "b", Value.ref lb), (Str.ofString "found", Value.ref lf), (Str.ofString "i", Value.int c.i c.ti), (Str.ofString "j", Value.int c.j c.tj)])
      (fun c => DatAll c.tl c.vs (c.fo.map pD) ∧ (∀ p ∈ c.tl, lf < p.1) ∧ c.fo ++ meetF (xs.drop c.i.toNat) (ys.drop c.j.toNat) = meetF xs ys ∧ 0 ≤ c.i ∧ c.i ≤ xs.length ∧ 0 ≤ c.j ∧ c.j ≤ ys.length ∧ c.fo.length ≤ c.i + c.j)
      (fun c => DatAll c.tl c.vs (c.fo.map pD) ∧ (∀ p ∈ c.tl, lf < p.1) ∧ c.fo = meetF xs ys)
      (fun c => (xs.length - c.i.toNat) + (ys.length - c.j.toNat)) ⟨0, 0, _, _, [], 0, [], []⟩ F1 ?kn ?kk ?kp ?g1 ?g2
  case kn => exact news_sub N1 (by simp)
  case kk => kst_all
  case kp => exact ⟨DatAll.nil, by simp, by simp, by simp, by simp, by simp, by simp, by simp⟩
  case g1 =>
    (rintro ⟨i, j, ti, tj, fvs, fn, tl, fo⟩ u sv PQ PD ⟨hdf, htl, hfo, hi0, hil, hj0, hjl, hfl⟩ F2 N2 hE hX _); (dsimp only at hdf htl hfo hi0 hil hj0 hjl hfl F2 N2); clear F1 N1; k_fold
    (k_with "call builtin:list.append" => (with_unfolding_all refine' append_K ?F ?N ?U ?_ ?z; (case F => k_asm); (case N => k_asm); (case U => k_upd); (case z => (have e9 := hdf.length; simp only [List.length_map] at e9; rw [sizeLine_eq, List.size_toArray]; omega)); k_whole; intro h' F' N'; (try k_sweep)))
    k_steps
    · refine to_stop ?_
      (rename Fr _ _ _ _ => F4); (rename News _ _ _ _ => N4)
      rename i < (xs.length : Int) => hi
      rename j < (ys.length : Int) => hj
      refine st_cut (sv := sv) (σ := MS) (fun c => (lf, listOf c.vs.toArray c.n) :: (news ++ c.tl))
        (fun c => [(Str.ofString "a", Value.ref la), (Str.ofString "b", Value.ref lb), (Str.ofString "found", Value.ref lf), (Str.ofString "i", Value.int i c.ti), (Str.ofString "j", Value.int j c.tj)])
        (fun c => DatAll c.tl c.vs (c.fo.map pD) ∧ (∀ p ∈ c.tl, lf < p.1) ∧ c.fo = fo ++ (if mlo (xs.getD i.toNat (0, 0)) (ys.getD j.toNat (0, 0)) ≤ mhi (xs.getD i.toNat (0, 0)) (ys.getD j.toNat (0, 0)) then [(mlo (xs.getD i.toNat (0, 0)) (ys.getD j.toNat (0, 0)), mhi (xs.getD i.toNat (0, 0)) (ys.getD j.toNat (0, 0)))] else [])) rfl F4 ?c1 ?c2
      case c1 =>
        intro PQ2 hPQ2
        refine wpAny_If ?_
        k_steps
        · (rename Fr _ _ _ _ => F9); (rename News _ _ _ _ => N9)
          simp only [List.push_toArray] at N9
          exact hPQ2 ⟨0, 0, _, _, fvs ++ [.ref _], fn + 1, (_, _) :: tl, fo ++ [(_, _)]⟩ _ _ _ _ ⟨sp_snocF hdf, gt_cons htl (show @LT.lt Nat _ _ _ by omega), seg_pos (by assumption)⟩ F9 (by kst_all) N9 sub_mv
        · (rename Fr _ _ _ _ => F9); (rename News _ _ _ _ => N9)
          exact hPQ2 ⟨0, 0, _, _, fvs, fn, tl, fo⟩ _ _ _ _ ⟨hdf, htl, seg_neg (by assumption)⟩ F9 (by kst_all) N9 sub_i
      case c2 =>
        rintro ⟨_, _, ti2, tj2, gvs, gn, tl2, fo2⟩ u2 hh tk2 ⟨hdg, htg, hg⟩ F5 N5
        (try dsimp only at hdg htg hg F5 N5)
        clear F4 N4
        have hg2 : fo2.length ≤ fo.length + 1 := by
          rw [hg, List.length_append]; split <;> simp
        k_steps
        · (rename Fr _ _ _ _ => F9); (rename News _ _ _ _ => N9)
          refine hE _ ⟨⟨_, _, _, _, gvs, gn, tl2, fo2⟩, _, _, _, _, rfl, F9, N9, sub_i, by kst_all, ⟨hdg, htg, meet_i hi0 hi hj0 hj (by assumption) hg hfo, by dsimp only; omega, by dsimp only; omega, hj0, hjl, by dsimp only; omega⟩, meas_i hi0 hi⟩
        · (rename Fr _ _ _ _ => F9); (rename News _ _ _ _ => N9)
          refine hE _ ⟨⟨_, _, _, _, gvs, gn, tl2, fo2⟩, _, _, _, _, rfl, F9, N9, sub_i, by kst_all, ⟨hdg, htg, meet_j hi0 hi hj0 hj (by assumption) hg hfo, hi0, hil, by dsimp only; omega, by dsimp only; omega, by dsimp only; omega⟩, meas_j hj0 hj⟩
    · (rename Fr _ _ _ _ => F9); (rename News _ _ _ _ => N9)
      exact hX _ ⟨⟨i, j, ti, tj, fvs, fn, tl, fo⟩, _, _, _, _, rfl, F9, N9, sub_i, by kst_all, ⟨hdf, htl, by rw [← hfo, meet_done2 (by assumption), List.append_nil]⟩⟩
    · (rename Fr _ _ _ _ => F9); (rename News _ _ _ _ => N9)
      exact hX _ ⟨⟨i, j, ti, tj, fvs, fn, tl, fo⟩, _, _, _, _, rfl, F9, N9, sub_i, by kst_all, ⟨hdf, htl, by rw [← hfo, meet_done1 (by assumption), List.append_nil]⟩⟩
  case g2 =>
    (rintro ⟨i, j, ti, tj, fvs, fn, tl, fo⟩ u h tk ⟨hdf, htl, hfo⟩ F2 N2); (dsimp only at hdf htl hfo F2 N2); clear F1 N1
    k_steps
    (rename Fr _ _ _ _ => F9); (rename News _ _ _ _ => N9)
    refine hret _ ((lf, _) :: tl) _ _ F9 (news_sub N9 sub_out) (ord_out hlt htl) trivial ?_
    dsimp only
    rw [← hfo]
    exact sp_outF hdf
end
section
open PySem PySem.W PyProof.Rows
set_option maxRecDepth 100000
set_option maxHeartbeats 8000000
theorem freshMinus1 : True := by
  k_with_none
  trivial
structure NS where
  j : Int
  tj : Tok
  vs : List Value
  n : Nat
  tl : List (Addr × Obj)
  fo : List P2
structure JS where
  j : Int
  tj : Tok
structure NS2 where
  b : Int
  tb : Tok
  k : Int
  tk : Tok
  vs : List Value
  n : Nat
  tl : List (Addr × Obj)
  fo : List P2
theorem cut_pos {fo : List P2} {b y : Int} (h : b < y) : fo ++ [(b, y - 1)] = fo ++ (if b < y then [(b, y - 1)] else []) := by rw [if_pos h]
theorem cut_neg {fo : List P2} {b y : Int} (h : ¬ b < y) : fo = fo ++ (if b < y then [(b, y - 1)] else []) := by rw [if_neg h, List.append_nil]
theorem mcut_j {hi b : Int} {ys fo fo2 R : List P2} {k : Int} (h0 : 0 ≤ k) (h : k < (ys.length : Int)) (h1 : (ys.getD k.toNat (0, 0)).1 ≤ hi) (hg : fo2 = fo ++ (if b < (ys.getD k.toNat (0, 0)).1 then [(b, (ys.getD k.toNat (0, 0)).1 - 1)] else []))
    (e : fo ++ mcut hi b (ys.drop k.toNat) = R) : fo2 ++ mcut hi ((ys.getD k.toNat (0, 0)).2 + 1) (ys.drop (k + 1).toNat) = R := by
  rw [← e, drop_at h0 h, mcut, if_pos h1, hg, List.append_assoc]

theorem minus_fresh (w : World) (s₀ : Shared) (mg mb : Str → Option Value) (d : List P2 × List P2) :
    TellsF Challenge.rw_pq1070_01.row.prog w (hd.heap_39 w.params) hd.view_39 (looseW hd.view_39 []) (ExcName.means s₀.heap) mg mb 74 minusT d := by
  unfold TellsF
  k_fill
  intro dp un gd cn cs a ccd cl outer A₀ base h₀ L m news s vs Q E B F X N T hk hR hok hd hu hret
  obtain ⟨xs, ys⟩ := d
  obtain ⟨va, vb, rfl, hA, hB⟩ := hR
  obtain ⟨la, usa, na, rfl, hma, hda⟩ := sp_cases hA
  obtain ⟨lb, usb, nb, rfl, hmb, hdb⟩ := sp_cases hB
  obtain ⟨hoa, hob⟩ := hok
  dsimp only at hda hdb hoa hob
  have kdM : KdMark := kdMark
  refine wpAny_call ?_
  k_dflt ktr_enter
  clear hd hu
  (k_with "exec For Tuple Name cons nil" => (rename Fr _ _ _ _ => lF'); (with_unfolding_all refine' For_turns lF' ?_))
  (k_with "pyIter ref" => refine of_stop ?_)
  (k_with "exec While BoolOp cons nil" => refine of_stop ?_)
  (k_with "CPost" => dsimp only [CPost])
  (k_with "FPost" => dsimp only [FPost])
  (k_with "exec If" => ((with_reducible show wpAny _ _ (exec (Stmt.If _ [Stmt.Expr _ _] _ _) _) _ _ _); refine of_stop ?_))
  (k_with "call builtin:len" => (refine' sp_len (by assumption) (by k_memK) hdb (by omega) ?_))
  (k_with "subscriptTail Name Name ref int" => ((with_unfolding_all refine' sp_item (by assumption) (by k_memK) hdb (by assumption) (by assumption) (fit_of (by assumption) hob) ?_); intro T t1 t2 q hT))
  (k_with "call builtin:list.append" => (with_unfolding_all refine' append_K ?F ?N ?U ?_ ?z; (case F => k_asm); (case N => k_asm); (case U => k_upd); (case z => ((rename DatAll _ _ _ => hX); have e9 := hX.length; simp only [List.length_map] at e9; rw [sizeLine_eq, List.size_toArray]; omega)); k_whole; intro h' F' N'; (try k_sweep)))
  k_steps
  refine to_stop ?_
  (rename Fr _ _ _ _ => F1); (rename News _ _ _ _ => N1); (rename (∀ p ∈ news, p.1 < _) => hlt)
  rename_i lf _ _ _
  with_unfolding_all
    refine' for_list (sv0 := s) (σ := NS) (l := la) (us := usa) (nn := na) (fun c => (lf, listOf c.vs.toArray c.n) :: (news ++ c.tl))
      (fun c => [(Str.ofString "a", Value.ref la), (Str.ofString "b", Value.ref lb), (Str.ofString "found", Value.ref lf), (Str.ofString "j", Value.int c.j c.tj)])
      (fun i c => DatAll c.tl c.vs (c.fo.map pD) ∧ (∀ p ∈ c.tl, lf < p.1) ∧ c.fo ++ minusF (xs.drop i) (ys.drop c.j.toNat) = minusF xs ys ∧ 0 ≤ c.j ∧ c.j ≤ ys.length ∧ c.fo.length ≤ 65 * i)
      ⟨0, _, [], 0, [], []⟩ (fun c => by k_memK) F1 ?kn ?kk ?kp ?g1 ?g2
  case kn => exact news_sub N1 (by simp)
  case kk => kst_all
  case kp => exact ⟨DatAll.nil, by simp, by simp, by simp, by simp, by simp⟩
  case g2 =>
    (rintro ⟨j, tj, fvs, fn, tl, fo⟩ u h tk ⟨hdf, htl, hfo, hj0, hjl, hfl⟩ F2 N2); (dsimp only at hdf htl hfo hj0 hjl hfl F2 N2); clear F1 N1
    k_steps
    (rename Fr _ _ _ _ => F9); (rename News _ _ _ _ => N9)
    refine hret _ ((lf, _) :: tl) _ _ F9 (news_sub N9 sub_out) (ord_out hlt htl) trivial ?_
    have e : fo = minusF xs ys := by
      rw [← hfo, List.drop_of_length_le (by have e9 := hda.length; simp only [List.length_map] at e9; omega), minusF, List.append_nil]
    dsimp only
    rw [← e]
    exact sp_outF hdf
  case g1 =>
    (rintro i v ⟨j, tj, fvs, fn, tl, fo⟩ u sv I oI PQ hv ⟨hdf, htl, hfo, hj0, hjl, hfl⟩ hI F2 N2 hPQ); (dsimp only at hdf htl hfo hj0 hjl hfl hI F2 N2); clear F1 N1
    obtain ⟨T9, t91, t92, q9, rfl, hT9, hix⟩ := sp_at hda hv
    k_fold
    have hIl : @Ne Nat lf I := hI _ (.head _)
    have hIn : ∀ p ∈ news, p.1 ≠ I := fun p hp => hI p (List.mem_cons_of_mem _ (List.mem_append_left _ hp))
    k_steps
    refine to_stop ?_
    (rename Fr _ _ _ _ => F1); (rename News _ _ _ _ => N1)
    with_unfolding_all
      refine' whl_d (sv0 := sv) (σ := JS) (fun _ => (I, oI) :: (lf, listOf fvs.toArray fn) :: (news ++ tl))
        (fun c => [(Str.ofString "a", Value.ref la), (Str.ofString "b", Value.ref lb), (Str.ofString "found", Value.ref lf), (Str.ofString "j", Value.int c.j c.tj), (Str.ofString "low", Value.int (xs.getD i (0, 0)).1 t91), (Str.ofString "high", Value.int (xs.getD i (0, 0)).2 t92), (Str.ofString "begin", Value.int (xs.getD i (0, 0)).1 t91)])
        (fun c => mskip (xs.getD i (0, 0)).1 (ys.drop c.j.toNat) = mskip (xs.getD i (0, 0)).1 (ys.drop j.toNat) ∧ 0 ≤ c.j ∧ c.j ≤ ys.length)
        (fun c => ys.drop c.j.toNat = mskip (xs.getD i (0, 0)).1 (ys.drop j.toNat) ∧ 0 ≤ c.j ∧ c.j ≤ ys.length)
        (fun c => ys.length - c.j.toNat) ⟨j, tj⟩ F1 ?kn ?kk ?kp ?g1 ?g2
    case kn => exact N1
    case kk => kst_all
    case kp => exact ⟨rfl, hj0, hjl⟩
    case g1 =>
      (rintro ⟨j1, tj1⟩ u1 sv1 PQ1 PD1 ⟨hs1, hj10, hj1l⟩ F3 N3 hE1 hX1 _); (dsimp only at hs1 hj10 hj1l F3 N3); clear F1 N1 hPQ
      k_fold
      k_steps
      · (rename Fr _ _ _ _ => F9); (rename News _ _ _ _ => N9)
        refine hE1 _ ⟨⟨_, _⟩, _, _, _, _, rfl, F9, N9, fun _ h => h, by kst_all, ⟨(mskip_go hj10 (by assumption) (by assumption)).trans hs1, by dsimp only; omega, by dsimp only; omega⟩, meas_0 hj10 (by assumption)⟩
      · (rename Fr _ _ _ _ => F9); (rename News _ _ _ _ => N9)
        refine hX1 _ ⟨⟨_, _⟩, _, _, _, _, rfl, F9, N9, fun _ h => h, by kst_all, ⟨(mskip_stop hj10 (by omega) (by assumption)).symm.trans hs1, hj10, hj1l⟩⟩
      · (rename Fr _ _ _ _ => F9); (rename News _ _ _ _ => N9)
        refine hX1 _ ⟨⟨_, _⟩, _, _, _, _, rfl, F9, N9, fun _ h => h, by kst_all, ⟨(mskip_end (by assumption)).symm.trans hs1, hj10, hj1l⟩⟩
    case g2 =>
      (rintro ⟨j1, tj1⟩ u1 h1 tk1 ⟨hs1, hj10, hj1l⟩ F3 N3); (dsimp only at hs1 hj10 hj1l F3 N3); clear F1 N1
      k_steps
      refine to_stop ?_
      (rename Fr _ _ _ _ => F1); (rename News _ _ _ _ => N1)
      with_unfolding_all
        refine' whl_d (sv0 := sv) (σ := NS2) (fun c => (I, oI) :: (lf, listOf c.vs.toArray c.n) :: (news ++ c.tl))
          (fun c => [(Str.ofString "a", Value.ref la), (Str.ofString "b", Value.ref lb), (Str.ofString "found", Value.ref lf), (Str.ofString "j", Value.int j1 tj1), (Str.ofString "low", Value.int (xs.getD i (0, 0)).1 t91), (Str.ofString "high", Value.int (xs.getD i (0, 0)).2 t92), (Str.ofString "begin", Value.int c.b c.tb), (Str.ofString "k", Value.int c.k c.tk)])
          (fun c => DatAll c.tl c.vs (c.fo.map pD) ∧ (∀ p ∈ c.tl, lf < p.1) ∧ (∀ p ∈ c.tl, p.1 ≠ I) ∧ c.fo ++ mcut (xs.getD i (0, 0)).2 c.b (ys.drop c.k.toNat) = fo ++ mcut (xs.getD i (0, 0)).2 (xs.getD i (0, 0)).1 (mskip (xs.getD i (0, 0)).1 (ys.drop j.toNat)) ∧ 0 ≤ c.k ∧ c.k ≤ ys.length ∧ c.fo.length ≤ 65 * i + c.k)
          (fun c => DatAll c.tl c.vs (c.fo.map pD) ∧ (∀ p ∈ c.tl, lf < p.1) ∧ (∀ p ∈ c.tl, p.1 ≠ I) ∧ c.fo ++ (if c.b ≤ (xs.getD i (0, 0)).2 then [(c.b, (xs.getD i (0, 0)).2)] else []) = fo ++ mcut (xs.getD i (0, 0)).2 (xs.getD i (0, 0)).1 (mskip (xs.getD i (0, 0)).1 (ys.drop j.toNat)) ∧ c.fo.length ≤ 65 * i + 64)
          (fun c => ys.length - c.k.toNat) ⟨_, _, _, _, fvs, fn, tl, fo⟩ F1 ?kn ?kk ?kp ?g1 ?g2
      case kn => exact N1
      case kk => kst_all
      case kp => exact ⟨hdf, htl, fun p hp => hI p (List.mem_cons_of_mem _ (List.mem_append_right _ hp)), by rw [← hs1], hj10, hj1l, by dsimp only; omega⟩
      case g1 =>
        (rintro ⟨b2, tb2, k2, tk2, fvs2, fn2, tl2, fo2⟩ u2 sv2 PQ2 PD2 ⟨hdf2, htl2, htI2, hfo2, hk20, hk2l, hfl2⟩ F4 N4 hE2 hX2 _); (dsimp only at hdf2 htl2 htI2 hfo2 hk20 hk2l hfl2 F4 N4); clear F1 N1 hPQ
        k_fold
        k_steps
        · refine to_stop ?_
          (rename Fr _ _ _ _ => F5); (rename News _ _ _ _ => N5)
          rename k2 < (ys.length : Int) => hkl
          rename (ys.getD k2.toNat (0, 0)).1 ≤ _ => hle
          refine st_cut (sv := sv2) (σ := NS2) (fun c => (I, oI) :: (lf, listOf c.vs.toArray c.n) :: (news ++ c.tl))
            (fun c => [(Str.ofString "a", Value.ref la), (Str.ofString "b", Value.ref lb), (Str.ofString "found", Value.ref lf), (Str.ofString "j", Value.int j1 tj1), (Str.ofString "low", Value.int (xs.getD i (0, 0)).1 t91), (Str.ofString "high", Value.int (xs.getD i (0, 0)).2 t92), (Str.ofString "begin", Value.int b2 c.tb), (Str.ofString "k", Value.int k2 c.tk)])
            (fun c => DatAll c.tl c.vs (c.fo.map pD) ∧ (∀ p ∈ c.tl, lf < p.1) ∧ (∀ p ∈ c.tl, p.1 ≠ I) ∧ c.fo = fo2 ++ (if b2 < (ys.getD k2.toNat (0, 0)).1 then [(b2, (ys.getD k2.toNat (0, 0)).1 - 1)] else [])) rfl F5 ?c1 ?c2
          case c1 =>
            intro PQ3 hPQ3
            refine wpAny_If ?_
            k_steps
            · (rename Fr _ _ _ _ => F9); (rename News _ _ _ _ => N9)
              simp only [List.push_toArray] at N9
              exact hPQ3 ⟨0, _, 0, _, fvs2 ++ [.ref _], fn2 + 1, (_, _) :: tl2, fo2 ++ [(_, _)]⟩ _ _ _ _ ⟨sp_snocF hdf2, gt_cons htl2 (show @LT.lt Nat _ _ _ by omega), off_cons (show @LT.lt Nat _ _ _ by omega) htI2, cut_pos (by assumption)⟩ F9 (by kst_all) N9 sub_mv2
            · (rename Fr _ _ _ _ => F9); (rename News _ _ _ _ => N9)
              exact hPQ3 ⟨0, _, 0, _, fvs2, fn2, tl2, fo2⟩ _ _ _ _ ⟨hdf2, htl2, htI2, cut_neg (by assumption)⟩ F9 (by kst_all) N9 sub_i
          case c2 =>
            rintro ⟨_, tb3, _, tk3, gvs, gn, tl3, fo3⟩ u3 hh tk4 ⟨hdg, htg, htIg, hg⟩ F6 N6
            (try dsimp only at hdg htg htIg hg F6 N6)
            clear F5 N5
            have hg2 : fo3.length ≤ fo2.length + 1 := by
              rw [hg, List.length_append]; split <;> simp
            k_steps
            (rename Fr _ _ _ _ => F9); (rename News _ _ _ _ => N9)
            exact hE2 _ ⟨⟨_, _, _, _, gvs, gn, tl3, fo3⟩, _, _, _, _, rfl, F9, N9, sub_i, by kst_all, ⟨hdg, htg, htIg, mcut_j hk20 hkl hle hg hfo2, by dsimp only; omega, by dsimp only; omega, by dsimp only; omega⟩, meas_0 hk20 hkl⟩
        · (rename Fr _ _ _ _ => F9); (rename News _ _ _ _ => N9)
          refine hX2 _ ⟨⟨_, _, _, _, fvs2, fn2, tl2, fo2⟩, _, _, _, _, rfl, F9, N9, sub_i, by kst_all, ⟨hdf2, htl2, htI2, ?_, ?_⟩⟩
          · dsimp only
            rw [← hfo2, mcut_stop hk20 (by assumption) (by assumption)]
          · dsimp only; omega
        · (rename Fr _ _ _ _ => F9); (rename News _ _ _ _ => N9)
          refine hX2 _ ⟨⟨_, _, _, _, fvs2, fn2, tl2, fo2⟩, _, _, _, _, rfl, F9, N9, sub_i, by kst_all, ⟨hdf2, htl2, htI2, ?_, ?_⟩⟩
          · dsimp only
            rw [← hfo2, mcut_end (by assumption)]
          · dsimp only; omega
      case g2 =>
        (rintro ⟨b2, tb2, k2, tk2, fvs2, fn2, tl2, fo2⟩ u2 h2 tk2' ⟨hdf2, htl2, htI2, hfo2, hfl2⟩ F4 N4); (dsimp only at hdf2 htl2 htI2 hfo2 hfl2 F4 N4); clear F1 N1
        k_steps
        refine to_stop ?_
        refine wpAny_If ?_
        k_steps
        · (rename Fr _ _ _ _ => F9); (rename News _ _ _ _ => N9)
          simp only [List.push_toArray] at N9
          rw [if_pos (by assumption)] at hfo2
          refine hPQ _ _ ⟨⟨_, _, fvs2 ++ [.ref _], fn2 + 1, (_, _) :: tl2, fo2 ++ [(_, _)]⟩, _, _, _, _, rfl, F9, N9, sub_mv3, by k_memK, off3 hIl hIn (off_cons (show @LT.lt Nat _ _ _ by omega) htI2), by kst_all, ⟨sp_snocF hdf2, gt_cons htl2 (show @LT.lt Nat _ _ _ by omega), ?_, hj10, hj1l, ?_⟩⟩
          · dsimp only
            rw [hfo2, hs1]
            exact minus_go hix hfo
          · simp only [List.length_append, List.length_cons, List.length_nil]; omega
        · (rename Fr _ _ _ _ => F9); (rename News _ _ _ _ => N9)
          rw [if_neg (by assumption), List.append_nil] at hfo2
          refine hPQ _ _ ⟨⟨_, _, fvs2, fn2, tl2, fo2⟩, _, _, _, _, rfl, F9, N9, fun _ h => List.mem_cons_of_mem _ h, by k_memK, off3 hIl hIn htI2, by kst_all, ⟨hdf2, htl2, ?_, hj10, hj1l, ?_⟩⟩
          · dsimp only
            rw [hfo2, hs1]
            exact minus_go hix hfo
          · dsimp only; omega
end
section
open PySem PySem.W PyProof.Rows
set_option maxRecDepth 100000
set_option maxHeartbeats 8000000
theorem freshTidy1 : True := by
  k_with_none
  trivial
structure TS where
  vs : List Value
  n : Nat
  tl : List (Addr × Obj)
  fo : List P2


theorem tidy_fresh (w : World) (s₀ : Shared) (mg mb : Str → Option Value) (d : List P2) :
    TellsF Challenge.rw_pq1070_01.row.prog w (hd.heap_39 w.params) hd.view_39 (looseW hd.view_39 []) (ExcName.means s₀.heap) mg mb 53 tidyT d := by
  unfold TellsF
  k_fill
  intro dp un gd cn cs a ccd cl outer A₀ base h₀ L m news s vs Q E B F X N T hk hR hok hd hu hret
  obtain ⟨va, rfl, hA⟩ := hR
  obtain ⟨la, usa, na, rfl, hma, hda⟩ := sp_cases hA
  obtain ⟨hoa, hob⟩ := hok
  have kdM : KdMark := kdMark
  refine wpAny_call ?_
  k_dflt ktr_enter
  clear hd hu
  (k_with "exec For Tuple Call cons nil" => (rename Fr _ _ _ _ => lF'); (with_unfolding_all refine' For_turns lF' ?_))
  (k_with "pyIter ref" => refine of_stop ?_)
  (k_with "call builtin:sorted" => refine of_stop ?_)
  (k_with "CPost" => dsimp only [CPost])
  (k_with "FPost" => dsimp only [FPost])
  (k_with "call builtin:list.append" => (with_unfolding_all refine' append_K ?F ?N ?U ?_ ?z; (case F => k_asm); (case N => k_asm); (case U => k_upd); (case z => ((rename DatAll _ _ _ => hX); have e9 := hX.length; simp only [List.length_map] at e9; rw [sizeLine_eq]; simp only [List.size_toArray, List.length_append, List.length_cons, List.length_nil] at hfl ⊢; omega)); k_whole; intro h' F' N'; (try k_sweep)))
  k_steps
  refine to_stop ?_
  (rename Fr _ _ _ _ => F1); (rename News _ _ _ _ => N1); (rename (∀ p ∈ news, p.1 < _) => hlt)
  rename_i lf _ _
  refine sp_sorted F1 N1 (by k_memK) (fun p hp => List.mem_cons_of_mem _ hp) hda hoa hob fun D us ys c h1 F2 N2 hltD hdy hperm hsort => ?_
  clear F1 N1
  obtain ⟨news1, e1⟩ : ∃ n1, n1 = (D, listOf (List.toArray us) c) :: news := ⟨_, rfl⟩
  have hD : @LT.lt Nat _ lf D := hltD _ (.head _)
  have hne1 : ∀ p ∈ news1, p.1 ≠ lf := by
    rw [e1]; exact List.forall_mem_cons.mpr ⟨Nat.ne_of_gt hD, fun p hp => Nat.ne_of_lt (hlt p hp)⟩
  have hmD : (D, listOf us.toArray c) ∈ news1 := by rw [e1]; exact .head _
  have hs1 : ∀ p ∈ news, p ∈ news1 := fun p hp => by rw [e1]; exact List.mem_cons_of_mem _ hp
  have N3 : News _ _ h1 ((lf, listOf #[] 0) :: news1) := news_sub N2 fun p hp => by
    rw [e1] at hp
    rcases List.mem_cons.mp hp with h | h
    · exact h ▸ List.mem_cons_of_mem _ (.head _)
    · rcases List.mem_cons.mp h with h | h
      · exact h ▸ .head _
      · exact List.mem_cons_of_mem _ (List.mem_cons_of_mem _ h)
  clear N2
  k_steps
  refine to_stop ?_
  (rename Fr _ _ _ _ => F1); (rename News _ _ _ _ => N1)
  have hyl : ys.length < 64 := by rw [hperm.length_eq]; exact hoa
  with_unfolding_all
    refine' for_list (sv0 := s) (σ := TS) (l := D) (us := us) (nn := c) (fun c => (lf, listOf c.vs.toArray c.n) :: (news1 ++ c.tl))
      (fun c => [(Str.ofString "found", Value.ref lf)])
      (fun i c => DatAll c.tl c.vs (c.fo.map pD) ∧ (∀ p ∈ c.tl, lf < p.1) ∧ c.fo = (ys.take i).foldl tstep [] ∧ c.fo.length ≤ i)
      ⟨[], 0, [], []⟩ (fun c => by k_memK) F1 ?kn ?kk ?kp ?g1 ?g2
  case kn => exact news_sub N1 (by simp)
  case kk => kst_all
  case kp => exact ⟨DatAll.nil, by simp, by simp, by simp⟩
  case g2 =>
    (rintro ⟨fvs, fn, tl, fo⟩ u h tk ⟨hdf, htl, hfo, hfl⟩ F2 N2); (dsimp only at hdf htl hfo hfl F2 N2); clear F1 N1
    k_steps
    (rename Fr _ _ _ _ => F9); (rename News _ _ _ _ => N9)
    have hul : us.length = ys.length := by have e9 := hdy.length; simp only [List.length_map] at e9; exact e9
    refine hret _ ((lf, listOf fvs.toArray fn) :: (D, listOf us.toArray c) :: tl) _ _ F9 (news_sub N9 ?_) (ord_out hlt (gt_cons htl hD)) trivial ⟨ys, hperm, hsort, ?_⟩
    · intro p hp
      rw [e1]
      simp only [List.mem_append, List.mem_cons] at hp ⊢
      rcases hp with h | h | h | h <;> simp [h]
    · have e : fo = tidyL ys := by rw [hfo, hul, List.take_length]; rfl
      rw [← e]
      exact DatIn.list (.head _) (DatAll.mono (fun _ h => .tail _ (.tail _ h)) hdf)
  case g1 =>
    (rintro i v ⟨fvs, fn, tl, fo⟩ u sv I oI PQ hv ⟨hdf, htl, hfo, hfl⟩ hI F2 N2 hPQ); (dsimp only at hdf htl hfo hfl hI F2 N2); clear F1 N1
    obtain ⟨T9, t91, t92, q9, rfl, hT9, hix⟩ := sp_at hdy hv
    k_fold
    replace hT9 := hs1 _ hT9
    have hIl : @Ne Nat lf I := hI _ (.head _)
    have hIn : ∀ p ∈ news1, p.1 ≠ I := fun p hp => hI p (List.mem_cons_of_mem _ (List.mem_append_left _ hp))
    have htI : ∀ p ∈ tl, p.1 ≠ I := fun p hp => hI p (List.mem_cons_of_mem _ (List.mem_append_right _ hp))
    rcases sp_rev hdf with ⟨rfl, rfl⟩ | ⟨gs, Z, fg, lo, hi, z1, z2, qz, rfl, rfl, hdg, hZ⟩
    · (k_with "truthy ref" => (refine' sp_false (by assumption) (by k_memK) ?_; intro tk'))
      k_steps
      (rename Fr _ _ _ _ => F9); (rename News _ _ _ _ => N9)
      simp only [List.push_toArray] at N9
      refine hPQ _ _ ⟨⟨[] ++ [.ref _], fn + 1, (_, _) :: tl, [] ++ [(_, _)]⟩, _, _, _, _, rfl, F9, N9, sub_mv3, by k_memK, off3 hIl hIn (off_cons (show @LT.lt Nat _ _ _ by omega) htI), by kst_all, ⟨sp_snocF hdf, gt_cons htl (show @LT.lt Nat _ _ _ by omega), ?_, ?_⟩⟩
      · dsimp only
        rw [tidy_take hix, ← hfo, tstep_nil]; rfl
      · simp
    · (k_with "truthy ref" => (refine' sp_true (by assumption) (by k_memK) (by simp only [List.length_append, List.length_cons, List.length_nil] at hfl; have e9 := hdg.length; simp only [List.length_map] at e9; omega) ?_; intro tk'))
      (k_with "subscriptTail Name UnaryOp ref int" => (with_unfolding_all refine' last_item (by assumption) (by k_memK) ?_))
      (k_with "setItem ref int ref" => (with_unfolding_all refine' last_set ?F ?N ?U ?_; (case F => k_asm); (case N => k_asm); (case U => k_upd); k_whole; intro h' F' N'; (try k_sweep)))
      k_steps
      · (rename Fr _ _ _ _ => F9); (rename News _ _ _ _ => N9)
        refine hPQ _ _ ⟨⟨gs ++ [.ref _], fn, (_, _) :: tl, fg ++ [(_, _)]⟩, _, _, _, _, rfl, F9, N9, sub_mv3, by k_memK, off3 hIl hIn (off_cons (show @LT.lt Nat _ _ _ by omega) htI), by kst_all, ⟨sp_snocF hdg, gt_cons htl (show @LT.lt Nat _ _ _ by omega), ?_, ?_⟩⟩
        · dsimp only
          rw [tidy_take hix, ← hfo, tstep_up (by assumption) (by assumption)]
        · simp only [List.length_append, List.length_cons, List.length_nil] at hfl ⊢; omega
      · (rename Fr _ _ _ _ => F9); (rename News _ _ _ _ => N9)
        refine hPQ _ _ ⟨⟨gs ++ [.ref Z], fn, tl, fg ++ [(lo, hi)]⟩, _, _, _, _, rfl, F9, N9, fun _ h => List.mem_cons_of_mem _ h, by k_memK, off3 hIl hIn htI, by kst_all, ⟨hdf, htl, ?_, ?_⟩⟩
        · dsimp only
          rw [tidy_take hix, ← hfo, tstep_in (by assumption) (by assumption)]
        · dsimp only; omega
      · (rename Fr _ _ _ _ => F9); (rename News _ _ _ _ => N9)
        simp only [List.push_toArray] at N9
        refine hPQ _ _ ⟨⟨gs ++ [.ref Z] ++ [.ref _], fn + 1, (_, _) :: tl, fg ++ [(lo, hi)] ++ [(_, _)]⟩, _, _, _, _, rfl, F9, N9, sub_mv3, by k_memK, off3 hIl hIn (off_cons (show @LT.lt Nat _ _ _ by omega) htI), by kst_all, ⟨sp_snocF hdf, gt_cons htl (show @LT.lt Nat _ _ _ by omega), ?_, ?_⟩⟩
        · dsimp only
          rw [tidy_take hix, ← hfo, tstep_new (by assumption)]
        · simp only [List.length_append, List.length_cons, List.length_nil] at hfl ⊢; omega
end
section
open PySem PySem.W PyProof.Rows
set_option maxRecDepth 100000
set_option maxHeartbeats 8000000
theorem freshJoin1 : True := by
  k_with_none
  trivial
noncomputable abbrev colT (f : List Bool → List Bool → List Bool) (k : Nat) : ToldN (List Bool × List Bool) where
  Rel := fun news vs d => ∃ va vb, vs = [va, vb] ∧ DatIn news va (spD (runsF d.1)) ∧ DatIn news vb (spD (runsF d.2))
  Ok := fun d => d.1.length = d.2.length ∧ d.1.length ≤ 32
  size := fun _ => k
  Tl := fun _ => True
  Out := fun news r d => DatIn news r (spD (runsF (f d.1 d.2)))
noncomputable abbrev orC (a b : List Bool) : List Bool := List.zipWith (· || ·) a b
noncomputable abbrev andC (a b : List Bool) : List Bool := List.zipWith (· && ·) a b
noncomputable abbrev lessC (a b : List Bool) : List Bool := List.zipWith (fun p q => p && !q) a b
noncomputable abbrev notC (a : List Bool) : List Bool := a.map (!·)
noncomputable abbrev flipT : ToldN (List Bool) where
  Rel := fun news vs c => ∃ va t, vs = [va, Value.int ((c.length : Int) - 1) t] ∧ DatIn news va (spD (runsF c))
  Ok := fun c => 1 ≤ c.length ∧ c.length ≤ 32
  size := fun _ => 2
  Tl := fun _ => True
  Out := fun news r c => DatIn news r (spD (runsF (notC c)))

theorem join_fresh (w : World) (s₀ : Shared) (mg mb : Str → Option Value) (d : List Bool × List Bool) :
    TellsF Challenge.rw_pq1070_01.row.prog w (hd.heap_39 w.params) hd.view_39 (looseW hd.view_39 []) (ExcName.means s₀.heap) mg mb 67 (colT orC 2) d := by
  unfold TellsF
  k_fill
  intro dp un gd cn cs a ccd cl outer A₀ base h₀ L m news s vs Q E B F X N T hk hR hok hd hu hret
  obtain ⟨c1, c2⟩ := d
  obtain ⟨va, vb, rfl, hA, hB⟩ := hR
  obtain ⟨la, usa, na, rfl, hma, hda⟩ := sp_cases hA
  obtain ⟨lb, usb, nb, rfl, hmb, hdb⟩ := sp_cases hB
  obtain ⟨hlen, h32⟩ := hok
  dsimp only at hda hdb hlen h32
  have hd' : dp + 2 < recursionLimit := hd
  have hu' : un + 16 < cLine := hu
  have l1 := runs_len c1
  have l2 := runs_len c2
  have kdM : KdMark := kdMark
  refine wpAny_call ?_
  k_dflt ktr_enter
  (k_with "call ref" => refine of_stop ?_)
  (k_with "binaryOp Add ref ref" => refine of_stop ?_)
  k_steps
  refine to_stop ?_
  (rename Fr _ _ _ _ => F1); (rename News _ _ _ _ => N1)
  have ela : usa.length = (runsF c1).length := by have e9 := hda.length; simp only [List.length_map] at e9; exact e9
  have elb : usb.length = (runsF c2).length := by have e9 := hdb.length; simp only [List.length_map] at e9; exact e9
  refine kmk_add_lit (zs := usa ++ usb) F1 N1 ⟨_, (N1 _ hma).1, rfl, na, rfl⟩ ⟨_, (N1 _ hmb).1, rfl, nb, rfl⟩ (by simp) ?_ (by simp only [sizeLine_eq]; omega)
  intro D h1 F2 N2 hlt
  clear F1 N1
  k_steps
  refine to_stop ?_
  k_dflt (refine tellsF_use (sv := s) (C := tidy_fresh w s₀ mg mb (runsF c1 ++ runsF c2)) (by assumption) F2 (by assumption) N2 (by assumption) rfl ?_ ?_ ?_ ?_ rfl ?_)
  · refine ⟨_, rfl, DatIn.list (.head _) ?_⟩
    rw [List.map_append]
    exact DatAll.append (DatAll.mono (fun p hp => List.mem_cons_of_mem _ hp) hda) (DatAll.mono (fun p hp => List.mem_cons_of_mem _ hp) hdb)
  · refine ⟨by rw [List.length_append]; omega, fun p hp => ?_⟩
    rcases List.mem_append.mp hp with h | h
    · have := runs_mem h; omega
    · have := runs_mem h; omega
  · show dp + 1 + 1 < recursionLimit; omega
  · show un + 3 + 8 * 1 < cLine; omega
  rintro r tl h' tk' F3 N3 hord _ ⟨ys, hperm, hsort, hD⟩
  clear F2 N2
  k_steps
  (rename Fr _ _ _ _ => F9); (rename News _ _ _ _ => N9)
  refine hret _ ((D, _) :: tl) _ _ F9 (news_sub N9 sub_c1) (ord_c hlt hord) trivial ?_
  show DatIn _ _ (spD (runsF (orC c1 c2)))
  rw [← join_col hlen hperm hsort]
  exact DatIn.mono (fun _ h => .tail _ h) hD

theorem flip_fresh (w : World) (s₀ : Shared) (mg mb : Str → Option Value) (c : List Bool) :
    TellsF Challenge.rw_pq1070_01.row.prog w (hd.heap_39 w.params) hd.view_39 (looseW hd.view_39 []) (ExcName.means s₀.heap) mg mb 81 flipT c := by
  unfold TellsF
  k_fill
  intro dp un gd cn cs a ccd cl outer A₀ base h₀ L m news s vs Q E B F X N T hk hR hok hd hu hret
  obtain ⟨va, t0, rfl, hA⟩ := hR
  obtain ⟨la, usa, na, rfl, hma, hda⟩ := sp_cases hA
  obtain ⟨h1c, h32⟩ := hok
  have hd' : dp + 2 < recursionLimit := hd
  have hu' : un + 16 < cLine := hu
  have l1 := runs_len c
  have kdM : KdMark := kdMark
  refine wpAny_call ?_
  k_dflt ktr_enter
  (k_with "call ref" => refine of_stop ?_)
  k_steps
  refine to_stop ?_
  (rename Fr _ _ _ _ => F1); (rename News _ _ _ _ => N1)
  (rename (∀ p ∈ news, p.1 < _) => hlt)
  rename_i D _ G _ _
  have hDG : @LT.lt Nat _ D G := by omega
  k_dflt (refine tellsF_use (sv := s) (C := minus_fresh w s₀ mg mb ([(0, (c.length : Int) - 1)], runsF c)) (by assumption) F1 (by assumption) N1 (by assumption) rfl ?_ ?_ ?_ ?_ rfl ?_)
  · exact ⟨_, _, rfl, DatIn.list (.head _) (.cons (DatIn.tuple (vs := [.int 0 _, .int _ _]) (.tail _ (.head _)) (.cons (.int _ _) (.cons (.int _ _) .nil))) .nil), DatIn.list (.tail _ (.tail _ hma)) (DatAll.mono (fun p hp => .tail _ (.tail _ hp)) hda)⟩
  · exact ⟨by simp, by dsimp only; omega⟩
  · show dp + 1 + 1 < recursionLimit; omega
  · show un + 3 + 8 * 1 < cLine; omega
  rintro r tl h' tk' F3 N3 hord _ hD
  clear F1 N1
  k_steps
  (rename Fr _ _ _ _ => F9); (rename News _ _ _ _ => N9)
  refine hret _ ((D, _) :: (G, _) :: tl) _ _ F9 (news_sub N9 ?_) (ord_c hlt (ord_c (fun p hp => ?_) hord)) trivial ?_
  · intro p hp
    simp only [List.mem_cons, List.mem_append, List.cons_append] at hp ⊢
    rcases hp with h | h | h | h <;> simp [h]
  · rcases List.mem_cons.mp hp with rfl | hp
    · exact hDG
    · exact Nat.lt_trans (hlt p hp) hDG
  · show DatIn _ _ (spD (runsF (notC c)))
    rw [← flip_col (c := c) (top := (c.length : Int) - 1) (by omega) (by omega)]
    exact DatIn.mono (fun _ h => .tail _ (.tail _ h)) hD
theorem join_tells (w : World) (s₀ : Shared) (mg mb : Str → Option Value) (d : List Bool × List Bool) :
    TellsN Challenge.rw_pq1070_01.row.prog w (hd.heap_39 w.params) hd.view_39 (looseW hd.view_39 []) (ExcName.means s₀.heap) mg mb 67 (colT orC 2) d := tellsF_N (join_fresh w s₀ mg mb d) fun _ _ _ hs h => DatIn.mono hs h
theorem flip_tells (w : World) (s₀ : Shared) (mg mb : Str → Option Value) (c : List Bool) :
    TellsN Challenge.rw_pq1070_01.row.prog w (hd.heap_39 w.params) hd.view_39 (looseW hd.view_39 []) (ExcName.means s₀.heap) mg mb 81 flipT c := tellsF_N (flip_fresh w s₀ mg mb c) fun _ _ _ hs h => DatIn.mono hs h
end
section
open PySem PySem.W PyProof.Rows
set_option maxRecDepth 100000
set_option maxHeartbeats 8000000
theorem freshRuns1 : True := by
  k_with_none
  trivial
noncomputable def colD (c : List Bool) : Dat := .list (c.map Dat.bool)
noncomputable abbrev runsT : ToldN (List Bool) where
  Rel := fun news vs c => ∃ va, vs = [va] ∧ DatIn news va (colD c)
  Ok := fun c => c.length ≤ 32
  size := fun _ => 1
  Tl := fun _ => True
  Out := fun news r c => DatIn news r (spD (runsF c))
theorem col_cases {news : List (Addr × Obj)} {v : Value} {c : List Bool} (h : DatIn news v (colD c)) :
    ∃ l us n, v = .ref l ∧ (l, listOf us.toArray n) ∈ news ∧ DatAll news us (c.map Dat.bool) := by
  unfold colD at h
  cases h with
  | list hm hd => exact ⟨_, _, _, rfl, hm, hd⟩
theorem bools_eq {news : List (Addr × Obj)} : ∀ {us : List Value} {c : List Bool}, DatAll news us (c.map Dat.bool) → us = c.map Value.bool
  | [], [], _ => rfl
  | [], _ :: _, h => by cases h
  | _ :: _, [], h => by cases h
  | _ :: _, _ :: _, h => by
    cases h with
    | cons h1 h2 => cases h1; rw [bools_eq h2]; rfl
section
variable {prog : Program} {w : World} {A : Around} {E : Value → Shared → Prop} {s : Shared} {h₀ : Heap} {L l : Addr} {m : Str → Option Value}
theorem col_item {value slice : PySem.Expr} {news : List (Addr × Obj)} {c : List Bool} {n : Nat} {k : Int} {u : Tok} {Q : Value → Shared → Prop} (N : News h₀ L s.heap news) (hm : (l, listOf (c.map Value.bool).toArray n) ∈ news)
    (h0 : 0 ≤ k) (h1 : k < (c.length : Int)) (hfit : k < 2 ^ 63) (h : Q (.bool (c.getD k.toNat false)) s)
    (hs : subscripted slice false (.ref l) (.int k u) = operate [.ref l, .int k u] (getItem (.ref l) (.int k u)) := by with_unfolding_all rfl) :
    wpAny (model prog w) A (subscriptTail value slice (.ref l) (.int k u)) Q E s := by
  have hl : s.heap.IsList l (c.map Value.bool).toArray := ⟨_, (N _ hm).1, rfl, n, rfl⟩
  refine tail_any hl.typeIs slot_list_getitem.lookup (wpAny_getItem_list hl h0 hfit ?_ h) hs
  have hk : k.toNat < c.length := by omega
  simp [List.getD_eq_getElem?_getD, hk]
theorem col_len {news : List (Addr × Obj)} {c : List Bool} {n : Nat} {Q : Value → Shared → Prop} (N : News h₀ L s.heap news) (hm : (l, listOf (c.map Value.bool).toArray n) ∈ news) (hfit : (c.length : Int) < 2 ^ 63)
    (h : Q (.int (c.length : Int) (s.toks + 1)) { s with toks := s.toks + 1 + 1 }) : wpAny (model prog w) A (call (.builtin "len") [.ref l]) Q E s := by
  have hl : s.heap.IsList l (c.map Value.bool).toArray := ⟨_, (N _ hm).1, rfl, n, rfl⟩
  have e : (c.map Value.bool).toArray.size = c.length := by simp
  exact len_list hl (by rw [e]; exact hfit) (by rw [e]; exact h)
end
structure RS where
  vs : List Value
  n : Nat
  tl : List (Addr × Obj)
  fo : List P2
theorem run_ne {c : List Bool} {i : Nat} {fo : List P2} (hfo : fo = runsTo c i) (h0 : (0 : Int) < (i : Int)) (h : c.getD ((i : Int) - 1).toNat false = true) : ∃ fg p, fo = fg ++ [p] := by
  rw [pred_nat] at h
  obtain ⟨fg, lo, e⟩ := runs_ne (c := c) (k := i) (by omega) h
  exact ⟨fg, _, hfo.trans e⟩
theorem run_ext {c : List Bool} {i : Nat} {fg : List P2} {lo hi : Int} (h1 : c.getD ((i : Int)).toNat false = true) (h0 : (0 : Int) < (i : Int)) (h : c.getD ((i : Int) - 1).toNat false = true) (hfo : fg ++ [(lo, hi)] = runsTo c i) : fg ++ [(lo, (i : Int))] = runsTo c (i + 1) := by
  rw [pred_nat] at h
  rw [runsTo_succ, ← hfo, rstep_ext (show c.getD i false = true from h1) (by omega) h]
theorem run_new0 {c : List Bool} {i : Nat} {fo : List P2} (h1 : c.getD ((i : Int)).toNat false = true) (h0 : ¬ (0 : Int) < (i : Int)) (hfo : fo = runsTo c i) : fo ++ [((i : Int), (i : Int))] = runsTo c (i + 1) := by
  rw [runsTo_succ, ← hfo, rstep_new (show c.getD i false = true from h1) fun q => by omega]
theorem run_new1 {c : List Bool} {i : Nat} {fo : List P2} (h1 : c.getD ((i : Int)).toNat false = true) (h : c.getD ((i : Int) - 1).toNat false = false) (hfo : fo = runsTo c i) : fo ++ [((i : Int), (i : Int))] = runsTo c (i + 1) := by
  rw [pred_nat] at h
  rw [runsTo_succ, ← hfo, rstep_new (show c.getD i false = true from h1) fun q => by rw [h] at q; cases q.2]
theorem run_none {c : List Bool} {i : Nat} {fo : List P2} (h1 : c.getD ((i : Int)).toNat false = false) (hfo : fo = runsTo c i) : fo = runsTo c (i + 1) := by
  have h2 : ¬ c.getD i false = true := by
    have h3 : c.getD i false = false := h1
    rw [h3]; exact Bool.false_ne_true
  rw [runsTo_succ, ← hfo, rstep_no h2]
theorem run_same {fg : List P2} {p q : P2} {i : Nat} (h : (fg ++ [p]).length ≤ i) : (fg ++ [q]).length ≤ i + 1 := by
  rw [List.length_append, List.length_singleton] at h ⊢; exact Nat.le_succ_of_le h
theorem run_more {fo : List P2} {q : P2} {i : Nat} (h : fo.length ≤ i) : (fo ++ [q]).length ≤ i + 1 := by
  rw [List.length_append, List.length_singleton]; exact Nat.succ_le_succ h
section
variable {prog : Program} {w : World} {A : Around} {E : Value → Shared → Prop} {s : Shared} {h₀ : Heap} {L l : Addr} {m : Str → Option Value}
theorem run_last {value slice : PySem.Expr} {news L9 : List (Addr × Obj)} {vs : List Value} {fo : List P2} {n : Nat} {u : Tok} {Q : Value → Shared → Prop} (N : News h₀ L s.heap news) (hm : (l, listOf vs.toArray n) ∈ news) (hd : DatAll L9 vs (fo.map pD)) (hne : ∃ fg p, fo = fg ++ [p])
    (h : ∀ gs Z fg lo hi t1 t2 q, vs = gs ++ [.ref Z] → fo = fg ++ [(lo, hi)] → DatAll L9 gs (fg.map pD) → (Z, ({ cls := .type "tuple", data := .seq #[.int lo t1, .int hi t2] q } : Obj)) ∈ L9 → Q (.ref Z) s)
    (hs : subscripted slice false (.ref l) (.int (-1) u) = operate [.ref l, .int (-1) u] (getItem (.ref l) (.int (-1) u)) := by with_unfolding_all rfl) :
    wpAny (model prog w) A (subscriptTail value slice (.ref l) (.int (-1) u)) Q E s := by
  rcases sp_rev hd with ⟨_, rfl⟩ | ⟨gs, Z, fg, lo, hi, t1, t2, q, rfl, rfl, hdg, hZ⟩
  · obtain ⟨fg, p, e⟩ := hne
    simp at e
  · exact last_item N hm (h gs Z fg lo hi t1 t2 q rfl rfl hdg hZ) hs
end

theorem runs_tells (w : World) (s₀ : Shared) (mg mb : Str → Option Value) (c : List Bool) :
    TellsN Challenge.rw_pq1070_01.row.prog w (hd.heap_39 w.params) hd.view_39 (looseW hd.view_39 []) (ExcName.means s₀.heap) mg mb 102 runsT c := by
  unfold TellsN
  k_fill
  intro dp un gd cn cs a ccd cl outer A₀ base h₀ L m news s vs Q E B F X N T hk hR hok hd hu hret
  obtain ⟨va, rfl, hA⟩ := hR
  obtain ⟨la, usa, na, rfl, hma, hda⟩ := col_cases hA
  have hus := bools_eq hda
  subst hus
  have hlen : c.length ≤ 32 := hok
  have kdM : KdMark := kdMark
  refine wpAny_call ?_
  k_dflt ktr_enter
  clear hd hu
  (k_with "call builtin:len" => (refine' col_len (by assumption) (by k_memK) (by omega) ?_))
  (k_with "exec For Name Call cons nil" => (rename Fr _ _ _ _ => lF'); (with_unfolding_all refine' For_turns lF' ?_))
  (k_with "pyIter ref" => refine of_stop ?_)
  (k_with "FPost" => dsimp only [FPost])
  (k_with "subscriptTail Name Name ref int" => (with_unfolding_all refine' col_item (by assumption) (by k_memK) (Int.natCast_nonneg _) (Int.ofNat_lt.mpr hic) (fit_of (Int.ofNat_lt.mpr hic) (Nat.le_trans hlen (by decide))) ?_))
  (k_with "subscriptTail Name BinOp ref int" => (with_unfolding_all refine' col_item (by assumption) (by k_memK) (pred_ge (by assumption)) (pred_lt hic) (fit_of (pred_lt hic) (Nat.le_trans hlen (by decide))) ?_))
  (k_with "call builtin:list.append" => (with_unfolding_all refine' append_K ?F ?N ?U ?_ ?z; (case F => k_asm); (case N => k_asm); (case U => k_upd); (case z => ((rename DatAll _ _ _ => hX); have e9 := hX.length; simp only [List.length_map] at e9; rw [sizeLine_eq]; simp only [List.size_toArray, List.length_append, List.length_cons, List.length_nil] at hfl ⊢; omega)); k_whole; intro h' F' N'; (try k_sweep)))
  k_steps
  refine to_stop ?_
  (rename IsRange _ _ _ _ _ _ _ _ => R1); (rename Fr _ _ _ _ => F1); (rename News _ _ _ _ => N1); (rename (∀ p ∈ news, p.1 < _) => hlt)
  rename_i lf _ _ _ _ _ _ _ _ _ _
  with_unfolding_all
    refine' for_range2 (sv0 := s) (σ := RS) (n := c.length) (fun c => (lf, listOf c.vs.toArray c.n) :: (news ++ c.tl))
      (fun _ => [(Str.ofString "column", Value.ref la), (Str.ofString "runs", Value.ref lf)])
      (fun i st => DatAll (news ++ st.tl) st.vs (st.fo.map pD) ∧ (∀ p ∈ st.tl, lf < p.1) ∧ st.fo = runsTo c i ∧ st.fo.length ≤ i)
      ⟨[], 0, [], []⟩ R1 ?hsm ?hrs F1 ?kn ?kk ?kp ?g1 ?g2
  case hsm => exact small_one (by omega) (by omega) (by omega) (by omega)
  case hrs => first | exact rangeSize_nat _ _ | rfl
  case kn => exact news_sub N1 (by simp)
  case kk => kst_all
  case kp => exact ⟨by simpa using DatAll.nil, by simp, rfl, by simp⟩
  case g2 =>
    (rintro ⟨fvs, fn, tl, fo⟩ u h tk ⟨hdf, htl, hfo, hfl⟩ F2 N2); (dsimp only at hdf htl hfo hfl F2 N2); clear F1 N1 R1
    k_steps
    (rename Fr _ _ _ _ => F9); (rename News _ _ _ _ => N9)
    refine hret _ ((lf, _) :: tl) _ _ F9 (news_sub N9 sub_out) (ord_out hlt htl) trivial ?_
    show DatIn _ _ (spD (runsTo c c.length))
    rw [← hfo]
    exact sp_out hdf
  case g1 =>
    (rintro i t ⟨fvs, fn, tl, fo⟩ u sv I oI PQ hic ⟨hdf, htl, hfo, hfl⟩ _ hI F2 N2 hPQ); (dsimp only at hdf htl hfo hfl hI F2 N2); clear F1 N1 R1
    simp only [Int.zero_add]
    k_fold
    have hIl : @Ne Nat lf I := hI _ (.head _)
    have hIn : ∀ p ∈ news, p.1 ≠ I := fun p hp => hI p (List.mem_cons_of_mem _ (List.mem_append_left _ hp))
    have htI : ∀ p ∈ tl, p.1 ≠ I := fun p hp => hI p (List.mem_cons_of_mem _ (List.mem_append_right _ hp))
    have hrow : (0 : Int) < (i : Int) → c.getD ((i : Int) - 1).toNat false = true → ∃ fg p, fo = fg ++ [p] := fun h0 h => run_ne hfo h0 h
    (k_with "subscriptTail Name UnaryOp ref int" => ((with_unfolding_all refine' run_last (by assumption) (by k_memK) hdf (hrow (by assumption) (by assumption)) ?_); intro gs Z fg lo hi z1 z2 qz e1 e2 hdg hZ; subst e1 e2))
    (k_with "setItem ref int ref" => (with_unfolding_all refine' last_set ?F ?N ?U ?_; (case F => k_asm); (case N => k_asm); (case U => k_upd); k_whole; intro h' F' N'; (try k_sweep)))
    k_steps
    all_goals (first
      | ((rename Fr _ _ _ _ => F9); (rename News _ _ _ _ => N9)
         refine hPQ _ _ ⟨⟨gs ++ [.ref _], fn, (_, _) :: tl, fg ++ [(_, _)]⟩, _, _, _, _, rfl, F9, N9, sub_mv3, by k_memK, off3 hIl hIn (off_cons (show @LT.lt Nat _ _ _ by omega) htI), by kst_all, ⟨sp_snoc hdg, gt_cons htl (show @LT.lt Nat _ _ _ by omega), run_ext (by assumption) (by assumption) (by assumption) hfo, run_same hfl⟩⟩)
      | ((rename Fr _ _ _ _ => F9); (rename News _ _ _ _ => N9)
         simp only [List.push_toArray] at N9
         refine hPQ _ _ ⟨⟨fvs ++ [.ref _], fn + 1, (_, _) :: tl, fo ++ [(_, _)]⟩, _, _, _, _, rfl, F9, N9, sub_mv3, by k_memK, off3 hIl hIn (off_cons (show @LT.lt Nat _ _ _ by omega) htI), by kst_all, ⟨sp_snoc hdf, gt_cons htl (show @LT.lt Nat _ _ _ by omega), ?_, run_more hfl⟩⟩
         first | exact run_new0 (by assumption) (by assumption) hfo | exact run_new1 (by assumption) (by assumption) hfo)
      | ((rename Fr _ _ _ _ => F9); (rename News _ _ _ _ => N9)
         refine hPQ _ _ ⟨⟨fvs, fn, tl, fo⟩, _, _, _, _, rfl, F9, N9, fun _ h => List.mem_cons_of_mem _ h, by k_memK, off3 hIl hIn htI, by kst_all, ⟨hdf, htl, run_none (by assumption) hfo, Nat.le_succ_of_le hfl⟩⟩))
end
section
open PySem PySem.W PyProof.Rows
set_option maxRecDepth 100000
set_option maxHeartbeats 8000000
theorem freshMask1 : True := by
  k_with_none
  trivial
structure BS where
  b : Int
  tb : Tok
  u1 : Tok
  u2 : Tok
  u3 : Tok
  u4 : Tok
  u5 : Tok
structure KS where
  f : Nat
  ch : Int
  tc : Tok
  u1 : Tok
  u2 : Tok
  u3 : Tok
  u4 : Tok
  u5 : Tok
  vs : List Value
  n : Nat
  tl : List (Addr × Obj)
  fo : List P2
theorem bel_go {held bits b : Int} (h0 : 0 ≤ b) (h : b < bits) (h5 : bits ≤ 5) (h1 : Builtin.bitAnd (held.fdiv (2 ^ b.toNat)) 1 = 0) : bel held bits (6 - (b + 1)).toNat (b + 1) = bel held bits (6 - b).toNat b := by
  have e : (6 - b).toNat = (6 - (b + 1)).toNat + 1 := by omega
  rw [e, bel, if_pos ⟨h, h1⟩]
theorem bel_stop {held bits b : Int} {f : Nat} (h : ¬ (b < bits ∧ Builtin.bitAnd (held.fdiv (2 ^ b.toNat)) 1 = 0)) : bel held bits f b = b := by
  cases f with
  | zero => rfl
  | succ f => rw [bel, if_neg h]
theorem mgo_no {want tail free top most ch : Int} {f : Nat} {fo R : List P2} (e : mgo want tail free top most f ch fo = some R) (h : ¬ (fo.length : Int) < most) : False := by
  cases f with
  | zero => cases e
  | succ f => rw [mgo, if_neg h] at e; cases e
theorem mgo_end {want tail free top most ch : Int} {f : Nat} {fo R : List P2} (e : mgo want tail free top most f ch fo = some R) (h : (fo.length : Int) < most) (h1 : ch = free) : fo ++ [(want + ch, want + ch + tail)] = R := by
  cases f with
  | zero => cases e
  | succ f => rw [mgo, if_pos h, if_pos h1] at e; exact Option.some.inj e
theorem mgo_on {want tail free top most ch : Int} {f : Nat} {fo R : List P2} (e : mgo want tail free top most f ch fo = some R) (h : (fo.length : Int) < most) (h1 : ch ≠ free) :
    ∃ g, f = g + 1 ∧ mgo want tail free top most g (Builtin.bitAnd (ch + (top - free) + 1) free) (fo ++ [(want + ch, want + ch + tail)]) = some R := by
  cases f with
  | zero => cases e
  | succ f => rw [mgo, if_pos h, if_neg h1] at e; exact ⟨f, rfl, e⟩
noncomputable abbrev maskT : ToldN MD where
  Rel := fun _ vs d => ∃ t1 t2 t3 t4, vs = [Value.int (d.mask : Int) t1, Value.int (d.want : Int) t2, Value.int (d.bits : Int) t3, Value.int (d.most : Int) t4]
  Ok := fun d => (2 ≤ d.bits ∧ d.bits ≤ 5) ∧ d.mask < 64 ∧ d.want < 64 ∧ (d.most = 2 ^ d.bits ∨ (d.most = 1 ∧ d.mask = 2 ^ d.bits - 1))
  size := fun _ => 1
  Tl := fun _ => True
  Out := fun news r d => DatIn news r (spD (runsF (mcol d.mask d.want d.bits)))
theorem mask_fresh (w : World) (s₀ : Shared) (mg mb : Str → Option Value) (d : MD) :
    TellsF Challenge.rw_pq1070_01.row.prog w (hd.heap_39 w.params) hd.view_39 (looseW hd.view_39 []) (ExcName.means s₀.heap) mg mb 88 maskT d := by
  unfold TellsF
  k_fill
  intro dp un gd cn cs a ccd cl outer A₀ base h₀ L m news s vs Q E B F X N T hk hR hok hd hu hret
  obtain ⟨mask, want, bits, most⟩ := d
  obtain ⟨t1, t2, t3, t4, hvs⟩ := hR
  dsimp only at hvs
  subst hvs
  obtain ⟨⟨hb2, hb5⟩, hm64, hw64, hmost⟩ := hok
  dsimp only at hb2 hb5 hm64 hw64 hmost
  have hpow : 2 ^ bits ≤ 32 := Nat.le_trans (Nat.pow_le_pow_right (by decide) hb5) (by decide)
  have kdM : KdMark := kdMark
  refine wpAny_call ?_
  k_dflt ktr_enter
  clear hd hu
  (k_with "exec While BoolOp cons nil" => refine of_stop ?_)
  (k_with "exec While Compare cons nil" => refine of_stop ?_)
  (k_with "CPost" => dsimp only [CPost])
  (k_with "call builtin:len" => ((rename DatAll _ _ _ => hX); refine' sp_len (by assumption) (by k_memK) hX (by omega) ?_))
  (k_with "call builtin:list.append" => (with_unfolding_all refine' append_K ?F ?N ?U ?_ ?z; (case F => k_asm); (case N => k_asm); (case U => k_upd); (case z => ((rename DatAll _ _ _ => hX); have e9 := hX.length; simp only [List.length_map] at e9; rw [sizeLine_eq]; simp only [List.size_toArray]; omega)); k_whole; intro h' F' N'; (try k_sweep)))
  obtain ⟨held, eheld⟩ : ∃ held, held = mask &&& (2 ^ bits - 1) := ⟨_, rfl⟩
  have hb1 : Builtin.bitAnd (mask : Int) (1 * 2 ^ ((bits : Int)).toNat - 1) = (held : Int) := by
    have := mtop_nat (bits := bits)
    unfold mtop at this
    rw [this, band_nat, eheld]
  have hhl : held < 2 ^ bits := by
    rw [eheld, Nat.and_two_pow_sub_one_eq_mod]
    exact Nat.mod_lt _ (Nat.two_pow_pos bits)
  k_steps
  · (rename Fr _ _ _ _ => F9); (rename News _ _ _ _ => N9); (rename (∀ p ∈ news, p.1 < _) => hlt)
    rename Builtin.bitAnd _ _ ≠ _ => hne
    rw [hb1, band_nat] at hne
    obtain ⟨lf, elf⟩ := hd_ex N9
    subst elf
    refine hret _ [(lf, listOf #[] 0)] _ _ F9 (news_sub N9 (fun p hp => (List.mem_append.mp hp).elim (fun h => .tail _ h) fun h => by rw [List.mem_singleton.mp h]; exact .head _)) (ord_out hlt (fun _ h => nomatch h)) trivial ?_
    show DatIn _ _ (spD (runsF (mcol mask want bits)))
    rw [mcol_none (by rw [← eheld]; intro q; exact hne (congrArg _ q))]
    exact DatIn.list (vs := []) (.head _) .nil
  refine to_stop ?_
  rename Builtin.bitAnd _ _ = _ => heq
  rw [hb1, band_nat] at heq
  have hweq : want &&& held = want := by omega
  have hR : maskR (held : Int) (want : Int) (bits : Int) (most : Int) = some (runsF (mcol mask want bits)) := by
    rw [← mcol_held, ← eheld]
    rcases hmost with rfl | ⟨rfl, rfl⟩
    · exact mask_law hb2 hb5 hhl hweq
    · have eh : held = 2 ^ bits - 1 := by rw [eheld, Nat.and_self]
      rw [eh]
      exact mask_law1 hb2 hb5 (Nat.lt_of_le_of_lt (by rw [← hweq]; exact Nat.and_le_right) hhl)
  (rename Fr _ _ _ _ => F1); (rename News _ _ _ _ => N1)
  rw [hb1] at F1
  with_unfolding_all
    refine' whl_d (sv0 := s) (σ := BS) (fun _ => news)
      (fun c => [(Str.ofString "want", Value.int (want : Int) c.u1), (Str.ofString "bits", Value.int (bits : Int) c.u2), (Str.ofString "most", Value.int (most : Int) c.u3), (Str.ofString "top", Value.int (mtop (bits : Int)) c.u4), (Str.ofString "held", Value.int (held : Int) c.u5), (Str.ofString "below", Value.int c.b c.tb)])
      (fun c => bel (held : Int) (bits : Int) (6 - c.b).toNat c.b = bel (held : Int) (bits : Int) 6 0 ∧ 0 ≤ c.b ∧ c.b ≤ bits)
      (fun c => c.b = bel (held : Int) (bits : Int) 6 0 ∧ 0 ≤ c.b ∧ c.b ≤ bits)
      (fun c => ((bits : Int) - c.b).toNat) ⟨0, _, _, _, _, _, _⟩ F1 ?kn ?kk ?kp ?g1 ?g2
  case kn => exact N1
  case kk => kst_all
  case kp => exact ⟨rfl, by dsimp only; omega, by dsimp only; omega⟩
  case g1 =>
    (rintro ⟨b, tb, v1, v2, v3, v4, v5⟩ u1 sv1 PQ1 PD1 ⟨hb, hb0, hbl⟩ F3 N3 hE1 hX1 _); (dsimp only at hb hb0 hbl F3 N3); clear F1 N1
    k_fold
    k_steps
    · (rename Fr _ _ _ _ => F9); (rename News _ _ _ _ => N9)
      refine hE1 _ ⟨⟨_, _, _, _, _, _, _⟩, _, _, _, _, rfl, F9, N9, fun _ h => h, by kst_all, ⟨(bel_go hb0 (by assumption) (by omega) (by assumption)).trans hb, by dsimp only; omega, by dsimp only; omega⟩, by dsimp only; omega⟩
    · (rename Fr _ _ _ _ => F9); (rename News _ _ _ _ => N9)
      refine hX1 _ ⟨⟨_, _, _, _, _, _, _⟩, _, _, _, _, rfl, F9, N9, fun _ h => h, by kst_all, ⟨(bel_stop (f := (6 - b).toNat) (fun q => absurd q.2 (by assumption))).symm.trans hb, hb0, hbl⟩⟩
    · (rename Fr _ _ _ _ => F9); (rename News _ _ _ _ => N9)
      refine hX1 _ ⟨⟨_, _, _, _, _, _, _⟩, _, _, _, _, rfl, F9, N9, fun _ h => h, by kst_all, ⟨(bel_stop (f := (6 - b).toNat) (fun q => absurd q.1 (by assumption))).symm.trans hb, hb0, hbl⟩⟩
  case g2 =>
    (rintro ⟨b, tb, v1, v2, v3, v4, v5⟩ u1 h1 tk1 ⟨hb, hb0, hbl⟩ F3 N3); (dsimp only at hb hb0 hbl F3 N3); clear F1 N1
    k_steps
    refine to_stop ?_
    (rename Fr _ _ _ _ => F1); (rename News _ _ _ _ => N1); (rename (∀ p ∈ news, p.1 < _) => hlt)
    rename_i lf _ _ _
    have e1 : 1 * 2 ^ b.toNat - 1 = mtail (held : Int) (bits : Int) := by rw [hb]; rfl
    rw [e1] at F1
    unfold maskR at hR
    generalize mtail (held : Int) (bits : Int) = TL at hR F1
    generalize mtop (bits : Int) = TP at hR F1
    generalize TP - (held : Int) - TL = FR at hR F1
    clear hb e1
    with_unfolding_all
      refine' whl_d (sv0 := s) (σ := KS) (fun c => (lf, listOf c.vs.toArray c.n) :: (news ++ c.tl))
        (fun c => [(Str.ofString "want", Value.int (want : Int) c.u1), (Str.ofString "most", Value.int (most : Int) c.u2), (Str.ofString "top", Value.int TP c.u3), (Str.ofString "tail", Value.int TL c.u4), (Str.ofString "free", Value.int FR c.u5), (Str.ofString "found", Value.ref lf), (Str.ofString "chosen", Value.int c.ch c.tc)])
        (fun c => DatAll c.tl c.vs (c.fo.map pD) ∧ (∀ p ∈ c.tl, lf < p.1) ∧ mgo (want : Int) TL FR TP (most : Int) c.f c.ch c.fo = some (runsF (mcol mask want bits)) ∧ c.fo.length + c.f ≤ 33)
        (fun _ => False)
        (fun c => c.f) ⟨33, 0, _, _, _, _, _, _, [], 0, [], []⟩ F1 ?kn ?kk ?kp ?g1 ?g2
    case kn => exact news_sub N1 (by simp)
    case kk => kst_all
    case kp => exact ⟨DatAll.nil, by simp, hR, by simp⟩
    case g2 => rintro c u2 h2 tk2 hF; exact hF.elim
    case g1 =>
      (rintro ⟨f, ch, tc, w1, w2, w3, w4, w5, fvs, fn, tl, fo⟩ u2 sv2 PQ2 PD2 ⟨hdf, htl, hgo, hfl⟩ F4 N4 hE2 _ hR2); (dsimp only at hdf htl hgo hfl F4 N4); clear F1 N1
      k_fold
      k_steps
      · refine hR2 _ _ _ ?_
        k_steps
        (rename Fr _ _ _ _ => F9); (rename News _ _ _ _ => N9)
        simp only [List.push_toArray] at N9
        have e9 := mgo_end hgo (by assumption) (by assumption)
        refine hret _ ((lf, listOf (fvs ++ [Value.ref _]).toArray (fn + 1)) :: (_, _) :: tl) _ _ F9 (news_sub N9 (fun p hp => sub_mv p (sub_out p hp))) (ord_out hlt (gt_cons htl (show @LT.lt Nat _ _ _ by omega))) trivial ?_
        show DatIn _ _ (spD (runsF (mcol mask want bits)))
        rw [← e9]
        exact sp_outF (sp_snocF hX)
      · (rename Fr _ _ _ _ => F9); (rename News _ _ _ _ => N9)
        simp only [List.push_toArray] at N9
        obtain ⟨g, rfl, e9⟩ := mgo_on hgo (by assumption) (by assumption)
        refine hE2 _ ⟨⟨g, _, _, _, _, _, _, _, fvs ++ [.ref _], fn + 1, (_, _) :: tl, fo ++ [(_, _)]⟩, _, _, _, _, rfl, F9, N9, sub_mv, by kst_all, ⟨sp_snocF hX, gt_cons htl (show @LT.lt Nat _ _ _ by omega), e9, ?_⟩, ?_⟩
        · simp only [List.length_append, List.length_cons, List.length_nil]; omega
        · exact Nat.lt_succ_self _
      · exact (mgo_no hgo (by assumption)).elim
theorem mask_tells (w : World) (s₀ : Shared) (mg mb : Str → Option Value) (d : MD) :
    TellsN Challenge.rw_pq1070_01.row.prog w (hd.heap_39 w.params) hd.view_39 (looseW hd.view_39 []) (ExcName.means s₀.heap) mg mb 88 maskT d :=
  tellsF_N (mask_fresh w s₀ mg mb d) fun _ _ _ hs h => DatIn.mono hs h
end
section
open PySem PySem.W PyProof.Rows PyProof.Rows.LCg
section
variable {prog : Program} {w : World} {A : Around} {E : Value → Shared → Prop} {s : Shared} {h₀ : Heap} {L : Addr} {m : Str → Option Value} {env : Env}
theorem comp_pure {elt : PySem.Expr} {x : Str} {scope : Scope} {cl : List (Str × Addr)} {S : List (Addr × Obj) → Prop} {P : Nat → Value → Prop} {Fin : List Value → List (Addr × Obj) → Prop} {n : Nat} {news : List (Addr × Obj)} (hS : S news) (f : Nat → Value)
    (step : ∀ (i : Nat) (v : Value) (I : Addr) (oI : Obj) (C : Addr) (oC : Obj) (D : Addr) (oD : Obj) (m₂ : Str → Option Value) (h : Heap) (tk : Nat) (Q' E' : Value → Shared → Prop), i < n → P i v → NsObj oC m₂ → m₂ x = some v → Fr h₀ L h m → News h₀ L h ((I, oI) :: (C, oC) :: (D, oD) :: news) →
      (∀ tk', Q' (f i) { s with heap := h, toks := tk' }) → wpAny (model prog w) A (eval elt (compEnvC scope cl C env)) Q' E' { s with heap := h, toks := tk })
    (fin : Fin ((List.range n).map f) news) : CompRest prog w A h₀ L m env elt x scope cl s S P Fin n 0 [] news := by
  have all : ∀ k i, i + k = n → CompRest prog w A h₀ L m env elt x scope cl s S P Fin k i ((List.range i).map f) news := by
    intro k
    induction k with
    | zero =>
      intro i hi
      have : i = n := by omega
      subst this
      exact .zero fin
    | succ k ih =>
      intro i hi
      refine .succ fun v I oI C oC D m₂ h tk E' hP hC hx F N off ne => ?_
      refine step i v I oI C oC D _ m₂ h tk _ E' (by omega) hP hC hx F N fun tk' => ?_
      refine CompEnd.intro F N news (fun p hp => hp) off hS ?_
      have e : (List.range i).map f ++ [f i] = (List.range (i + 1)).map f := by rw [List.range_succ, List.map_append]; rfl
      rw [e]
      exact ih (i + 1) (by omega)
  exact all n 0 (by omega)
theorem comp_pureP {elt : PySem.Expr} {x x₂ : Str} {scope : Scope} {cl : List (Str × Addr)} {S : List (Addr × Obj) → Prop} {P : Nat → Value → Prop} {Fin : List Value → List (Addr × Obj) → Prop} {n : Nat} {news : List (Addr × Obj)} (hS : S news) (f : Nat → Value)
    (step : ∀ (i : Nat) (v : Value), i < n → P i v → ∃ (t : Addr) (ot : Obj) (v₁ v₂ : Value) (nt : Nat), v = .ref t ∧ (t, ot) ∈ news ∧ ot.cls = .type "tuple" ∧ ot.data = .seq #[v₁, v₂] nt ∧
      ∀ (I : Addr) (oI : Obj) (C : Addr) (oC : Obj) (D : Addr) (oD : Obj) (m₂ : Str → Option Value) (h : Heap) (tk : Nat) (Q' E' : Value → Shared → Prop), NsObj oC m₂ → m₂ x = some v₁ → m₂ x₂ = some v₂ → Fr h₀ L h m → News h₀ L h ((I, oI) :: (C, oC) :: (D, oD) :: news) →
        (∀ tk', Q' (f i) { s with heap := h, toks := tk' }) → wpAny (model prog w) A (eval elt (compEnvC scope cl C env)) Q' E' { s with heap := h, toks := tk })
    (fin : Fin ((List.range n).map f) news) : LCp.CompRestP prog w A h₀ L m env elt x x₂ scope cl s S P Fin n 0 [] news := by
  have all : ∀ k i, i + k = n → LCp.CompRestP prog w A h₀ L m env elt x x₂ scope cl s S P Fin k i ((List.range i).map f) news := by
    intro k
    induction k with
    | zero =>
      intro i hi
      have : i = n := by omega
      subst this
      exact .zero fin
    | succ k ih =>
      intro i hi
      refine .succ fun v hP => ?_
      obtain ⟨t, ot, v₁, v₂, nt, e1, e2, e3, e4, st⟩ := step i v (by omega) hP
      refine ⟨t, ot, v₁, v₂, nt, e1, e2, e3, e4, fun I oI C oC D m₂ h tk E' hC hx hx₂ F N off ne => ?_⟩
      refine st I oI C oC D _ m₂ h tk _ E' hC hx hx₂ F N fun tk' => ?_
      refine CompEnd.intro F N news (fun p hp => hp) off hS ?_
      have e : (List.range i).map f ++ [f i] = (List.range (i + 1)).map f := by rw [List.range_succ, List.map_append]; rfl
      rw [e]
      exact ih (i + 1) (by omega)
  exact all n 0 (by omega)
theorem off1_lt {D : Addr} : ∀ {l : List (Addr × Obj)}, Off1 D l → ∀ p ∈ l, p.1 ≠ D
  | [], _, _, h => nomatch h
  | q :: l, x, p, h => by
    rcases List.mem_cons.mp h with rfl | h
    · exact x.1
    · exact off1_lt x.2 p h
end
section
variable {prog : Program} {w : World} {A : Around} {E : Value → Shared → Prop} {s : Shared} {h₀ : Heap} {L l : Addr}
theorem bools_reads {h : Heap} : ∀ c : List Bool, ∃ as, ReadsAll h (c.map Value.bool) (c.map PyData.bool) as
  | [] => ⟨_, ReadsAll.nil⟩
  | b :: c => by
    obtain ⟨as, q⟩ := bools_reads (h := h) c
    exact ⟨_, ReadsAll.cons (Reads.bool b) q⟩
theorem bools_any (b : Bool) : ∀ c : List Bool, ((c.map PyData.bool).any fun y => PyData.eqv y (.bool b)) = c.any (· == b)
  | [] => rfl
  | a :: c => by
    rw [List.map_cons, List.any_cons, List.any_cons, bools_any b c]
    rfl
end
end
section
open PySem PySem.W PyProof.Rows
noncomputable def acol (mask want bits k : Nat) : List Bool := (List.range (2 ^ bits)).map fun n => (List.range k).any fun p => mask.testBit p && (n.testBit p != want.testBit p)
theorem acol_len (mask want bits k : Nat) : (acol mask want bits k).length = 2 ^ bits := by unfold acol; simp
theorem none_runs {c : List Bool} (e : ∀ b ∈ c, b = false) : runsF c = [] := by
  refine SpecC.uniq (runs_spec _) ⟨trivial, fun n => ⟨fun q => absurd q inn_nil, fun q => ?_⟩⟩
  exfalso
  have q2 := q.2
  rw [List.getD_eq_getElem?_getD] at q2
  cases hq : c[n.toNat]? with
  | none => rw [hq] at q2; cases q2
  | some b =>
    rw [hq] at q2
    have := e b (List.mem_of_getElem? hq)
    rw [this] at q2; cases q2
theorem acol_zero (mask want bits : Nat) : runsF (acol mask want bits 0) = [] := by
  refine none_runs fun b hb => ?_
  unfold acol at hb
  obtain ⟨n, _, rfl⟩ := List.mem_map.mp hb
  rfl
theorem rep_runs (n : Nat) : runsF (List.replicate n false) = [] := none_runs fun _ hb => (List.mem_replicate.mp hb).2
theorem and_bit (n p : Nat) : n &&& 2 ^ p = if n.testBit p then 2 ^ p else 0 := by
  rw [kbt_nat, Nat.testBit_eq_decide_div_mod_eq]
  have h : n / 2 ^ p % 2 = 0 ∨ n / 2 ^ p % 2 = 1 := by omega
  rcases h with h | h <;> simp [h]
theorem letter_row (n want p : Nat) : (n &&& 2 ^ p == 2 ^ p - (want &&& 2 ^ p)) = (n.testBit p != want.testBit p) := by
  have hp : 0 < 2 ^ p := Nat.two_pow_pos p
  rw [and_bit, and_bit]
  cases n.testBit p <;> cases want.testBit p <;> simp <;> omega
theorem acol_step {mask want bits k : Nat} (h : mask.testBit k = true) : List.zipWith (· || ·) (acol mask want bits k) (mcol (2 ^ k) (2 ^ k - (want &&& 2 ^ k)) bits) = acol mask want bits (k + 1) := by
  unfold acol mcol
  rw [List.zipWith_map]
  have e : ∀ l : List Nat, List.zipWith (fun a b => ((List.range k).any fun p => mask.testBit p && (a.testBit p != want.testBit p)) || (b &&& 2 ^ k == 2 ^ k - (want &&& 2 ^ k))) l l = l.map fun n => (List.range (k + 1)).any fun p => mask.testBit p && (n.testBit p != want.testBit p) := by
    intro l
    induction l with
    | nil => rfl
    | cons a l ih =>
      rw [List.zipWith_cons_cons, List.map_cons, ih, List.range_succ, List.any_append, letter_row]
      simp [h]
  exact e _
theorem acol_skip {mask want bits k : Nat} (h : mask.testBit k = false) : acol mask want bits (k + 1) = acol mask want bits k := by
  unfold acol
  refine List.map_congr_left fun n _ => ?_
  rw [List.range_succ, List.any_append]
  simp [h]
theorem acol_all {mask want bits : Nat} (h : (mcol mask want bits).any (· == true) = true) : acol mask want bits bits = (mcol mask want bits).map (!·) := by
  rw [List.any_eq_true] at h
  obtain ⟨b, hb, hbt⟩ := h
  unfold mcol at hb
  obtain ⟨n0, hn0, rfl⟩ := List.mem_map.mp hb
  have hn0' := List.mem_range.mp hn0
  have ew : n0 &&& mask = want := by simpa using hbt
  unfold acol mcol
  rw [List.map_map]
  refine List.map_congr_left fun n hn => ?_
  have hn' := List.mem_range.mp hn
  show _ = !(n &&& mask == want)
  have iff : (n &&& mask = want) ↔ ∀ p, p < bits → mask.testBit p = true → n.testBit p = want.testBit p := by
    constructor
    · intro q p hp hm
      rw [← q, Nat.testBit_and, hm, Bool.and_true]
    · intro q
      apply Nat.eq_of_testBit_eq
      intro p
      rw [← ew, Nat.testBit_and, Nat.testBit_and]
      cases hm : mask.testBit p with
      | false => simp
      | true =>
        rw [Bool.and_true, Bool.and_true]
        by_cases hp : p < bits
        · have := q p hp hm
          rw [this, ← ew, Nat.testBit_and, hm, Bool.and_true]
        · have hle : 2 ^ bits ≤ 2 ^ p := Nat.pow_le_pow_right (by decide) (by omega)
          rw [Nat.testBit_lt_two_pow (Nat.lt_of_lt_of_le hn' hle), Nat.testBit_lt_two_pow (Nat.lt_of_lt_of_le hn0' hle)]
  rw [Bool.eq_iff_iff, List.any_eq_true, Bool.not_eq_true', beq_eq_false_iff_ne]
  constructor
  · rintro ⟨p, hp, hq⟩ q
    rw [Bool.and_eq_true] at hq
    have := iff.mp q p (List.mem_range.mp hp) hq.1
    rw [this] at hq
    simp at hq
  · intro q
    false_or_by_contra
    rename_i hne
    apply q
    refine iff.mpr fun p hp hm => ?_
    false_or_by_contra
    rename_i hd
    exact hne ⟨p, List.mem_range.mpr hp, by rw [hm]; simpa using hd⟩
theorem mcol_false {mask want bits : Nat} (h : (mcol mask want bits).any (· == true) = false) : mcol mask want bits = List.replicate (2 ^ bits) false := by
  rw [List.eq_replicate_iff]
  refine ⟨mcol_len _ _ _, fun b hb => ?_⟩
  rw [List.any_eq_false] at h
  have := h b hb
  simpa using this
theorem bit_cond (mask k : Nat) : (Builtin.bitAnd (mask : Int) ((2 ^ k : Nat) : Int) ≠ 0) ↔ mask.testBit k = true := by
  rw [band_nat, and_bit]
  have hp : 0 < 2 ^ k := Nat.two_pow_pos k
  cases mask.testBit k
  · simp
  · simp only [if_true, ne_eq, iff_true]; omega
end
section
open PySem PySem.W PySem.Spec PySem.Calls PyProof.Rows PyProof.Rows.LCg
noncomputable def TellsA {D : Type} (prog : Program) (w : World) (K : Frag) (p : Program) (loose : List Str) (mean : ExcName → Option Value) (mg mb : Str → Option Value) (f : Addr) (c : ToldN D) (d : D) : Prop :=
  ∀ (dp un : Nat) (gd : Option (List Code)) (cn : Str) (cs : Scope) (a : Addr) (ccd : Value) (cl : List (Str × Addr)) (outer : List Env) (A₀ : Around) (base h₀ : Heap) (L : Addr) (m : Str → Option Value) (news : List (Addr × Obj)) (s : Shared) (vs : List Value)
    (Q E : Value → Shared → Prop),
    Below A₀ base outer h₀ → Fr h₀ L s.heap m → K.In h₀ → News h₀ L s.heap news → Top p loose mean mg mb h₀ → cs.kind = .function → c.Rel news vs d → c.Ok d → dp + c.size d < recursionLimit → un + 8 * c.size d < cLine →
    (∀ r tl h' tk', Fr h₀ L h' m → News h₀ L h' (news ++ tl) → (∀ q ∈ news, ∀ p ∈ tl, q.1 ≠ p.1) → c.Tl tl → c.Out (news ++ tl) r d → Q r { s with heap := h', toks := tk' }) →
    wpAny (model prog w) (ktrTop dp un gd cn cs L a ccd cl outer) (call (.ref f) vs) Q E s
section
variable {D : Type} {prog : Program} {w : World} {K : Frag} {p : Program} {loose : List Str} {mean : ExcName → Option Value} {mg mb : Str → Option Value} {f : Addr} {c : ToldN D}
theorem tellsA_use {d : D} {dp un : Nat} {gd : Option (List Code)} {cn : Str} {cs : Scope} {a : Addr} {ccd : Value} {cl : List (Str × Addr)} {outer : List Env} {A₀ : Around} {base h₀ : Heap} {L : Addr} {m : Str → Option Value} {news : List (Addr × Obj)} {s : Shared} {vs : List Value}
    {Q E : Value → Shared → Prop} (B : Below A₀ base outer h₀) (F : Fr h₀ L s.heap m) (X : K.In h₀) (N : News h₀ L s.heap news) (T : Top p loose mean mg mb h₀) (hk : cs.kind = .function) (R : c.Rel news vs d) (C : TellsA prog w K p loose mean mg mb f c d) (ok : c.Ok d)
    (hd : dp + c.size d < recursionLimit) (hu : un + 8 * c.size d < cLine)
    {sv : Shared} (hs : s = { sv with heap := s.heap, toks := s.toks })
    (ret : ∀ r tl h' tk', Fr h₀ L h' m → News h₀ L h' (news ++ tl) → (∀ q ∈ news, ∀ p ∈ tl, q.1 ≠ p.1) → c.Tl tl → c.Out (news ++ tl) r d → Q r { sv with heap := h', toks := tk' }) :
    wpAny (model prog w) (ktrTop dp un gd cn cs L a ccd cl outer) (call (.ref f) vs) Q E s := C _ _ _ _ _ _ _ _ _ _ _ _ _ _ _ _ _ _ _ B F X N T hk R ok hd hu fun r tl h' tk' F' N' ho ht hq => by
    have e := ret r tl h' tk' F' N' ho ht hq
    rw [hs]; exact e
end
noncomputable def TellsAF {D : Type} (prog : Program) (w : World) (K : Frag) (p : Program) (loose : List Str) (mean : ExcName → Option Value) (mg mb : Str → Option Value) (f : Addr) (c : ToldN D) (d : D) : Prop :=
  ∀ (dp un : Nat) (gd : Option (List Code)) (cn : Str) (cs : Scope) (a : Addr) (ccd : Value) (cl : List (Str × Addr)) (outer : List Env) (A₀ : Around) (base h₀ : Heap) (L : Addr) (m : Str → Option Value) (news : List (Addr × Obj)) (s : Shared) (vs : List Value)
    (Q E : Value → Shared → Prop),
    Below A₀ base outer h₀ → Fr h₀ L s.heap m → K.In h₀ → News h₀ L s.heap news → Top p loose mean mg mb h₀ → cs.kind = .function → c.Rel news vs d → c.Ok d → dp + c.size d < recursionLimit → un + 8 * c.size d < cLine →
    (∀ r tl h' tk', Fr h₀ L h' m → News h₀ L h' (news ++ tl) → (∀ q ∈ news, ∀ p ∈ tl, q.1 ≠ p.1) → c.Tl tl → c.Out tl r d → Q r { s with heap := h', toks := tk' }) →
    wpAny (model prog w) (ktrTop dp un gd cn cs L a ccd cl outer) (call (.ref f) vs) Q E s
section
variable {D : Type} {prog : Program} {w : World} {K : Frag} {p : Program} {loose : List Str} {mean : ExcName → Option Value} {mg mb : Str → Option Value} {f : Addr} {c : ToldN D}
theorem tellsAF_use {d : D} {dp un : Nat} {gd : Option (List Code)} {cn : Str} {cs : Scope} {a : Addr} {ccd : Value} {cl : List (Str × Addr)} {outer : List Env} {A₀ : Around} {base h₀ : Heap} {L : Addr} {m : Str → Option Value} {news : List (Addr × Obj)} {s : Shared} {vs : List Value}
    {Q E : Value → Shared → Prop} (B : Below A₀ base outer h₀) (F : Fr h₀ L s.heap m) (X : K.In h₀) (N : News h₀ L s.heap news) (T : Top p loose mean mg mb h₀) (hk : cs.kind = .function) (R : c.Rel news vs d) (C : TellsAF prog w K p loose mean mg mb f c d) (ok : c.Ok d)
    (hd : dp + c.size d < recursionLimit) (hu : un + 8 * c.size d < cLine)
    {sv : Shared} (hs : s = { sv with heap := s.heap, toks := s.toks })
    (ret : ∀ r tl h' tk', Fr h₀ L h' m → News h₀ L h' (news ++ tl) → (∀ q ∈ news, ∀ p ∈ tl, q.1 ≠ p.1) → c.Tl tl → c.Out tl r d → Q r { sv with heap := h', toks := tk' }) :
    wpAny (model prog w) (ktrTop dp un gd cn cs L a ccd cl outer) (call (.ref f) vs) Q E s := C _ _ _ _ _ _ _ _ _ _ _ _ _ _ _ _ _ _ _ B F X N T hk R ok hd hu fun r tl h' tk' F' N' ho ht hq => by
    have e := ret r tl h' tk' F' N' ho ht hq
    rw [hs]; exact e
end
theorem ap_app {n a b : List (Addr × Obj)} (h1 : ∀ q ∈ n, ∀ p ∈ a, q.1 ≠ p.1) (h2 : ∀ q ∈ n, ∀ p ∈ b, q.1 ≠ p.1) : ∀ q ∈ n, ∀ p ∈ a ++ b, q.1 ≠ p.1 :=
  fun q hq p hp => (List.mem_append.mp hp).elim (h1 q hq p) (h2 q hq p)
theorem ap_lt {n N b : List (Addr × Obj)} (h : ∀ q ∈ N, ∀ p ∈ b, q.1 < p.1) (hs : ∀ q ∈ n, q ∈ N) : ∀ q ∈ n, ∀ p ∈ b, q.1 ≠ p.1 := fun q hq p hp => Nat.ne_of_lt (h q (hs q hq) p hp)
theorem ap_cons {n b : List (Addr × Obj)} {D : Addr} {o : Obj} (h1 : ∀ q ∈ n, q.1 ≠ D) (h2 : ∀ q ∈ n, ∀ p ∈ b, q.1 ≠ p.1) : ∀ q ∈ n, ∀ p ∈ (D, o) :: b, q.1 ≠ p.1 := fun q hq p hp => by
  rcases List.mem_cons.mp hp with rfl | hp
  · exact h1 q hq
  · exact h2 q hq p hp
theorem ap_nil {n : List (Addr × Obj)} : ∀ q ∈ n, ∀ p ∈ ([] : List (Addr × Obj)), q.1 ≠ p.1 := fun _ _ _ h => nomatch h
theorem ap_sub {n N b : List (Addr × Obj)} (h : ∀ q ∈ N, ∀ p ∈ b, q.1 ≠ p.1) (hs : ∀ q ∈ n, q ∈ N) : ∀ q ∈ n, ∀ p ∈ b, q.1 ≠ p.1 := fun q hq p hp => h q (hs q hq) p hp
section
variable {prog : Program} {w : World} {A : Around} {E : Value → Shared → Prop} {s : Shared} {h₀ : Heap} {L l : Addr}
theorem col_notIn {news : List (Addr × Obj)} {c : List Bool} {n : Nat} {b : Bool} {Q : Value → Shared → Prop} (N : News h₀ L s.heap news) (hm : (l, listOf (c.map Value.bool).toArray n) ∈ news) (hb : c.any (· == true) = b) (hu : A.units + 64 < cLine)
    (h : Q (.bool (!b)) s) : wpAny (model prog w) A (compareOp .NotIn (.bool true) (.ref l)) Q E s := by
  obtain ⟨as, ra⟩ := bools_reads (h := s.heap) c
  have hlay : ∀ c : List Bool, PyData.canLayAll0 (c.map PyData.bool) = true ∧ PyData.depthAll (c.map PyData.bool) ≤ 1 := by
    intro c
    induction c with
    | nil => simp [PyData.canLayAll0, PyData.depthAll]
    | cons a c ih =>
      rw [List.map_cons]
      simp only [PyData.canLayAll0, PyData.depthAll, PyData.canLay0, PyData.depth, Bool.and_eq_true]
      exact ⟨⟨by first | rfl | trivial, ih.1⟩, by have := ih.2; omega⟩
  refine SeqAt.notIn_list_reads (reads_list_at (N.get hm) rfl rfl (by simpa using ra)) (Reads.bool true) (hlay c).1 (by first | rfl | decide) ?_ (by rw [bools_any, hb]; exact h)
  have h1 := (hlay c).2
  have h2 : (PyData.bool true).depth ≤ 1 := by decide
  omega
end
end
section
open PySem PySem.W PyProof.Rows
theorem allLt_mem {d : Addr} : ∀ {l : List (Addr × Obj)}, AllLt d l → ∀ p ∈ l, @LT.lt Nat _ p.1 d
  | [], _, _, h => nomatch h
  | q :: l, x, p, h => by
    rcases List.mem_cons.mp h with rfl | h
    · exact x.1
    · exact allLt_mem x.2 p h
mutual
theorem DatIn.drop {I : Addr} {o : Obj} {N : List (Addr × Obj)} (hs : NotSeq o) : ∀ {v : Value} {d : Dat}, DatIn ((I, o) :: N) v d → DatIn N v d
  | _, _, .none => .none
  | _, _, .bool b => .bool b
  | _, _, .int i t => .int i t
  | _, _, .str x t => .str x t
  | _, _, .bytes b t => .bytes b t
  | _, _, .tuple h r => .tuple ((List.mem_cons.mp h).elim (fun e => by cases e; exact hs.elim) id) (DatAll.drop hs r)
  | _, _, .list h r => .list ((List.mem_cons.mp h).elim (fun e => by cases e; exact hs.elim) id) (DatAll.drop hs r)
theorem DatAll.drop {I : Addr} {o : Obj} {N : List (Addr × Obj)} (hs : NotSeq o) : ∀ {vs : List Value} {ds : List Dat}, DatAll ((I, o) :: N) vs ds → DatAll N vs ds
  | _, _, .nil => .nil
  | _, _, .cons h r => .cons (DatIn.drop hs h) (DatAll.drop hs r)
end
end
section
open PySem PySem.W PyProof.Rows PyProof.Rows.LCg
set_option maxRecDepth 100000
set_option maxHeartbeats 8000000
theorem freshTerm1 : True := by
  k_with_none
  trivial
structure AS where
  av : Value
  tl : List (Addr × Obj)
noncomputable def termD (c : List Bool) : Dat := .tuple [spD (runsF c), spD (runsF (notC c)), colD c]
noncomputable abbrev termT : ToldN MD where
  Rel := fun _ vs d => ∃ t1 t2 t3, vs = [Value.int (d.mask : Int) t1, Value.int (d.want : Int) t2, Value.int (d.bits : Int) t3]
  Ok := fun d => (2 ≤ d.bits ∧ d.bits ≤ 5) ∧ d.mask < 64 ∧ d.want < 64
  size := fun _ => 16
  Tl := fun _ => True
  Out := fun news r d => DatIn news r (termD (mcol d.mask d.want d.bits))

theorem mask_rel {a b c d a' b' c' d' : Int} {t1 t2 t3 t4 : Tok} (h1 : a = a') (h2 : b = b') (h3 : c = c') (h4 : d = d') : ∃ u1 u2 u3 u4, [Value.int a t1, Value.int b t2, Value.int c t3, Value.int d t4] = [Value.int a' u1, Value.int b' u2, Value.int c' u3, Value.int d' u4] := by
  subst h1 h2 h3 h4
  exact ⟨_, _, _, _, rfl⟩
theorem less_and (want p : Nat) : (p : Int) - Builtin.bitAnd (want : Int) (p : Int) = ((p - (want &&& p) : Nat) : Int) := by
  rw [band_nat]
  have : want &&& p ≤ p := Nat.and_le_right
  omega
theorem flip_rel {N : List (Addr × Obj)} {va : Value} {x y : Int} {t0 : Tok} {d : Dat} (h : x = y) (hd : DatIn N va d) : ∃ v t, [va, Value.int x t0] = [v, Value.int y t] ∧ DatIn N v d := ⟨_, _, by rw [h], hd⟩
theorem bools_all {N : List (Addr × Obj)} : ∀ c : List Bool, DatAll N (c.map Value.bool) (c.map Dat.bool)
  | [] => .nil
  | b :: c => .cons (.bool b) (bools_all c)
theorem ap_one {n N : List (Addr × Obj)} {D : Addr} (h : ∀ p ∈ N, p.1 < D) (hs : ∀ q ∈ n, q ∈ N) : ∀ q ∈ n, q.1 ≠ D := fun q hq => Nat.ne_of_lt (h q (hs q hq))
theorem cell_eq (i mask want : Nat) : (Builtin.bitAnd (i : Int) mask == (want : Int)) = (i &&& mask == want) := by
  rw [band_nat, Bool.eq_iff_iff, beq_iff_eq, beq_iff_eq]
  exact Int.ofNat_inj
theorem term_fresh (w : World) (s₀ : Shared) (mg mb : Str → Option Value) (d : MD) :
    TellsAF Challenge.rw_pq1070_01.row.prog w (hd.heap_39 w.params) hd.view_39 (looseW hd.view_39 []) (ExcName.means s₀.heap) mg mb 107 termT d := by
  unfold TellsAF
  k_fill
  intro dp un gd cn cs a ccd cl outer A₀ base h₀ L m news s vs Q E B F X N T hk hR hok hd hu hret
  obtain ⟨mask, want, bits, most⟩ := d
  obtain ⟨t1, t2, t3, hvs⟩ := hR
  dsimp only at hvs
  subst hvs
  obtain ⟨⟨hb2, hb5⟩, hm64, hw64⟩ := hok
  dsimp only at hb2 hb5 hm64 hw64
  have hd' : dp + 16 < recursionLimit := hd
  have hu' : un + 128 < cLine := hu
  have hpow : 2 ^ bits ≤ 32 := Nat.le_trans (Nat.pow_le_pow_right (by decide) hb5) (by decide)
  have kdM : KdMark := kdMark
  refine wpAny_call ?_
  k_dflt (refine' code_defC ?k1 ?k2 ?k3 ?k4 ?k5 ?kA ?kF ?kK ?k6 ?k7 ?k8 ?k9 ?kB ?kD ?_ ?c2 ?c3 ?c4; (case kA => exact rfl); (case kF => exact rfl); (case kK => assumption); (case k1 => k_asm); (case k2 => k_asm); (case k3 => k_asm); (case k4 => k_asm); (case k5 => k_asm); (case k6 => k_is); (case k7 => k_is); (case k8 => (show dp < recursionLimit; omega)); (case k9 => exact BindsTo.of_eq rfl); (case kB => exact rfl); (case kD => decide +kernel); (case c2 => exact rfl); (case c3 => exact rfl); (case c4 => exact rfl); k_whole)
  intro g' L' h' tk' cells' FG' F' N' Y' B' X' T' l1
  (try dsimp only)
  (try k_fold)
  k_cells Y'
  (try simp only [List.cons_append, List.nil_append] at N')
  (k_with "exec Assign cons ListComp" => (k_dflt (refine Assign_ListComp_U (F₀ := by k_asm) (by rfl) (by with_unfolding_all rfl) (by with_unfolding_all rfl) (by decide) (by rfl) (by decide) (by rfl) (by rfl) (by rfl) ?_)))
  (k_with "CompSrc" => refine of_stop ?_)
  rename_i oW oM dW dM
  have dW' : oW.data = Data.cell (some (Value.int (want : Int) t2)) := dW
  have dM' : oM.data = Data.cell (some (Value.int (mask : Int) t1)) := dM
  clear dW dM
  k_steps
  refine to_stop ?_
  (rename IsRange _ _ _ _ _ _ _ _ => R1); (rename Fr _ _ _ _ => F1); (rename News _ _ _ _ => N1)
  have ebits : ((bits : Int)).toNat = bits := by omega
  have e2 : (2 : Int) ^ ((bits : Int)).toNat = ((2 ^ bits : Nat) : Int) := by rw [ebits, kbt_cast]
  rw [e2] at R1
  clear e2
  obtain ⟨M, eM⟩ : ∃ M, M = 2 ^ bits := ⟨_, rfl⟩
  rw [← eM] at R1 hpow
  refine CompSrc.range (n := M) (by rfl) F1 N1 R1 (small_one (by omega) (by omega) (by omega) (by omega)) (by first | exact rangeSize_nat _ _ | rfl) (by rw [sizeLine_eq]; omega) fun g => comp_pure trivial (fun i => Value.bool (i &&& mask == want)) ?g1 ?g2
  case g1 =>
    rintro i v I oI C oC D oD m₂ h tk Q' E' hi ⟨t, rfl⟩ hC hx F2 N2 hQ
    clear F1 N1 R1
    simp only [Int.zero_add] at hx
    iterate 7 walk1
    rw [cell_eq]
    exact hQ _
  case g2 =>
    clear F1 N1 R1
    unfold FinA
    intro D h tk F2 N2 ho
    (k_with "exec For Name Call cons nil" => (rename Fr _ _ _ _ => lF'); (with_unfolding_all refine' For_turns lF' ?_))
    (k_with "pyIter ref" => refine of_stop ?_)
    (k_with "call ref" => refine of_stop ?_)
    k_steps
    refine to_stop ?_
    (rename IsRange _ _ _ _ _ _ _ _ => R1); (rename Fr _ _ _ _ => F1); (rename News _ _ _ _ => N1)
    have ecol : (List.range M).map (fun i => Value.bool (i &&& mask == want)) = (mcol mask want bits).map Value.bool := by
      unfold mcol
      rw [List.map_map, eM]
      rfl
    rw [ecol] at N1
    clear ecol
    rename_i lf _ _ _ _ _ _ _ _ _ _ _
    have hlfs : D < lf ∧ L' + 1 + 1 < lf ∧ L' + 1 < lf ∧ AllLt lf news := by assumption
    refine for_range2 (sv0 := s) (σ := AS) (n := bits) (fun c => (D, lst ((mcol mask want bits).map Value.bool)) :: (L' + 1 + 1, oW) :: (L' + 1, oM) :: (news ++ c.tl))
      (fun c => [(Str.ofString "bits", Value.int (bits : Int) t3), (Str.ofString "column", Value.ref D), (Str.ofString "against", c.av)])
      (fun i c => DatIn c.tl c.av (spD (runsF (acol mask want bits i))) ∧ (∀ q ∈ news, ∀ p ∈ c.tl, q.1 ≠ p.1))
      ⟨.ref lf, [(lf, W.listOf #[] 0)]⟩ R1 (small_one (by omega) (by omega) (by omega) (by omega)) (by first | exact rangeSize_nat _ _ | rfl) F1 ?kn ?kk ?kp ?turn ?done
    case kn => exact news_sub N1 (by bits_by_make)
    case kk => kst_all
    case kp =>
      rw [acol_zero]
      exact ⟨DatIn.list (vs := []) (.head _) .nil, ap_cons (fun q hq => Nat.ne_of_lt (allLt_mem hlfs.2.2.2 q hq)) ap_nil⟩
    case turn =>
      rintro i t ⟨av, tl⟩ u1 sv I oI PQ hi ⟨hDa, hap⟩ hns hoff F3 N3 hPQ
      dsimp only at hDa hap hoff F3 N3
      clear F1 N1
      have ei : (2 : Int) ^ (0 + (i : Int)).toNat = ((2 ^ i : Nat) : Int) := by rw [show (0 + (i : Int)).toNat = i by omega, kbt_cast]
      have eb : (2 : Int) ^ ((bits : Int)).toNat = ((2 ^ bits : Nat) : Int) := by rw [ebits, kbt_cast]
      have ip : 2 ^ i ≤ 2 ^ bits := Nat.pow_le_pow_right (by decide) (Nat.le_of_lt hi)
      rw [← eM] at ip
      k_steps
      · refine to_stop ?_
        (rename Fr _ _ _ _ => F4); (rename News _ _ _ _ => N4)
        (rename Builtin.bitAnd _ _ ≠ _ => hne)
        rw [ei] at hne
        have hbit := (bit_cond mask i).mp hne
        k_dflt (refine tellsF_use (sv := sv) (C := mask_fresh w s₀ mg mb ⟨2 ^ i, 2 ^ i - (want &&& 2 ^ i), bits, 2 ^ bits⟩) (by assumption) F4 (by assumption) N4 (by assumption) rfl ?_ ?_ ?_ ?_ rfl ?_)
        · exact mask_rel ei (by rw [ei]; exact less_and want (2 ^ i)) rfl eb
        · exact ⟨⟨hb2, hb5⟩, by dsimp only; omega, by dsimp only; omega, .inl rfl⟩
        · exact room hd' (Nat.le_of_ble_eq_true rfl)
        · exact roomU hu' (Nat.le_of_ble_eq_true rfl)
        rintro r1 tl1 hA tkA FA NA hordA _ hDA
        have hDA' : DatIn _ _ (spD (runsF (mcol (2 ^ i) (2 ^ i - (want &&& 2 ^ i)) bits))) := hDA
        clear F4 N4
        k_steps
        refine to_stop ?_
        (rename Fr _ _ _ _ => F4); (rename News _ _ _ _ => N4)
        k_dflt (refine tellsF_use (sv := sv) (C := join_fresh w s₀ mg mb (acol mask want bits i, mcol (2 ^ i) (2 ^ i - (want &&& 2 ^ i)) bits)) (by assumption) F4 (by assumption) N4 (by assumption) rfl ?_ ?_ ?_ ?_ rfl ?_)
        · exact ⟨_, _, rfl, DatIn.mono (by bits_by_make) hDa, DatIn.mono (by bits_by_make) hDA'⟩
        · exact ⟨by dsimp only; rw [acol_len, mcol_len], by dsimp only; rw [acol_len, ← eM]; exact hpow⟩
        · exact room hd' (Nat.le_of_ble_eq_true rfl)
        · exact roomU hu' (Nat.le_of_ble_eq_true rfl)
        rintro r2 tl2 hB tkB FB NB hordB _ hDB
        have hDB' : DatIn _ _ (spD (runsF (orC (acol mask want bits i) (mcol (2 ^ i) (2 ^ i - (want &&& 2 ^ i)) bits)))) := hDB
        unfold orC at hDB'
        rw [acol_step hbit] at hDB'
        clear F4 N4
        k_steps
        (rename Fr _ _ _ _ => F9); (rename News _ _ _ _ => N9)
        refine hPQ _ _ ⟨⟨r2, tl ++ (tl1 ++ tl2)⟩, _, _, _, _, rfl, F9, N9, by bits_by_make, List.mem_append_left _ (List.mem_append_left _ (.head _)), ?_, by kst_all, ⟨DatIn.mono (by bits_by_make) hDB', ap_app hap (ap_app (ap_lt hordA (by bits_by_make)) (ap_lt hordB (by bits_by_make)))⟩⟩
        exact off_c (hoff _ (.head _)) (off_c (hoff _ (.tail _ (.head _))) (off_c (hoff _ (.tail _ (.tail _ (.head _)))) (all_app (fun p h => hoff p (.tail _ (.tail _ (.tail _ (List.mem_append_left _ h))))) (all_app (fun p h => hoff p (.tail _ (.tail _ (.tail _ (List.mem_append_right _ h))))) (all_app (fun p h => Nat.ne_of_gt (hordA (I, oI) (.head _) p h)) (fun p h => Nat.ne_of_gt (hordB (I, oI) (List.mem_append_left _ (.head _)) p h)))))))
      · (rename Fr _ _ _ _ => F9); (rename News _ _ _ _ => N9)
        (rename Builtin.bitAnd _ _ = _ => heq)
        rw [ei] at heq
        have hbit : mask.testBit i = false := by
          cases hq : mask.testBit i with
          | false => rfl
          | true => exact absurd heq ((bit_cond mask i).mpr hq)
        refine hPQ _ _ ⟨⟨av, tl⟩, _, _, _, _, rfl, F9, N9, by bits_by_make, .head _, hoff, by kst_all, ⟨?_, hap⟩⟩
        rw [acol_skip hbit]
        exact hDa
    case done =>
      rintro ⟨av, tl⟩ u1 h1 tk1 ⟨hDa, hap⟩ F3 N3
      dsimp only at hDa hap F3 N3
      clear F1 N1
      have eb : (2 : Int) ^ ((bits : Int)).toNat = ((2 ^ bits : Nat) : Int) := by rw [ebits, kbt_cast]
      (k_with "compareOp NotIn bool ref" => refine of_stop ?_)
      k_steps
      refine to_stop ?_
      obtain ⟨anyb, eany⟩ : ∃ b, (mcol mask want bits).any (· == true) = b := ⟨_, rfl⟩
      refine col_notIn (l := D) (c := mcol mask want bits) (b := anyb) N3 (.head _) eany (by show un + 3 + 64 < cLine; omega) ?_
      cases anyb with
      | true =>
        have ea := acol_all eany
        rw [ea] at hDa
        k_steps
        refine to_stop ?_
        (rename Fr _ _ _ _ => F4); (rename News _ _ _ _ => N4)
        k_dflt (refine tellsF_use (sv := s) (C := mask_fresh w s₀ mg mb ⟨mask, want, bits, 2 ^ bits⟩) (by assumption) F4 (by assumption) N4 (by assumption) rfl ?_ ?_ ?_ ?_ rfl ?_)
        · exact mask_rel rfl rfl rfl eb
        · exact ⟨⟨hb2, hb5⟩, hm64, hw64, .inl rfl⟩
        · exact room hd' (Nat.le_of_ble_eq_true rfl)
        · exact roomU hu' (Nat.le_of_ble_eq_true rfl)
        rintro r1 tl1 hA tkA FA NA hordA _ hDA
        have hDA' : DatIn _ _ (spD (runsF (mcol mask want bits))) := hDA
        clear F4 N4
        k_steps
        (rename Fr _ _ _ _ => F9); (rename News _ _ _ _ => N9)
        (rename (∀ p : Addr × Obj, p ∈ (_ : List (Addr × Obj)) → p.1 < _) => hTl)
        refine hret _ ((_, ({ cls := .type "tuple", data := .seq #[r1, av, Value.ref D] } : Obj)) :: (D, lst ((mcol mask want bits).map Value.bool)) :: (L' + 1 + 1, oW) :: (L' + 1, oM) :: (tl ++ tl1)) _ _ F9 (news_sub N9 (by bits_by_make)) (ap_cons (ap_one hTl (by bits_by_make)) (ap_cons (fun q hq => off1_lt ho q (.tail _ (.tail _ hq))) (ap_cons (fun q hq => Nat.ne_of_lt (Nat.lt_succ_of_lt (Nat.lt_succ_of_lt (l1 q hq)))) (ap_cons (fun q hq => Nat.ne_of_lt (Nat.lt_succ_of_lt (l1 q hq))) (ap_app hap (ap_lt hordA (by bits_by_make))))))) trivial ?_
        show DatIn _ _ (termD (mcol mask want bits))
        refine DatIn.tuple (vs := [r1, av, Value.ref D]) (.head _) (.cons (DatIn.mono (by bits_by_make) hDA') (.cons (DatIn.mono (by bits_by_make) hDa) (.cons (DatIn.list (vs := (mcol mask want bits).map Value.bool) (.tail _ (.head _)) (bools_all _)) .nil)))
      | false =>
        have ea := mcol_false eany
        k_steps
        refine to_stop ?_
        (rename Fr _ _ _ _ => F4); (rename News _ _ _ _ => N4)
        obtain ⟨G, eG⟩ := hd_ex N4
        subst eG
        have hGs : D < G ∧ L' + 1 + 1 < G ∧ L' + 1 < G ∧ AllLt G (news ++ tl) := by assumption
        k_dflt (refine tellsF_use (sv := s) (C := flip_fresh w s₀ mg mb (List.replicate (2 ^ bits) false)) (by assumption) F4 (by assumption) N4 (by assumption) rfl ?_ ?_ ?_ ?_ rfl ?_)
        · exact flip_rel (by rw [eb, List.length_replicate]) (by rw [rep_runs]; exact DatIn.list (vs := []) (.head _) .nil)
        · refine ⟨?_, ?_⟩
          · rw [List.length_replicate]; exact Nat.two_pow_pos bits
          · rw [List.length_replicate, ← eM]; exact hpow
        · exact room hd' (Nat.le_of_ble_eq_true rfl)
        · exact roomU hu' (Nat.le_of_ble_eq_true rfl)
        rintro r0 tl0 hB tkB FB NB hordB _ hDB
        have hDB' : DatIn _ _ (spD (runsF (notC (List.replicate (2 ^ bits) false)))) := hDB
        rw [← ea] at hDB'
        clear F4 N4
        k_steps
        refine to_stop ?_
        (rename Fr _ _ _ _ => F4); (rename News _ _ _ _ => N4)
        k_dflt (refine tellsF_use (sv := s) (C := mask_fresh w s₀ mg mb ⟨mask, want, bits, 2 ^ bits⟩) (by assumption) F4 (by assumption) N4 (by assumption) rfl ?_ ?_ ?_ ?_ rfl ?_)
        · exact mask_rel rfl rfl rfl eb
        · exact ⟨⟨hb2, hb5⟩, hm64, hw64, .inl rfl⟩
        · exact room hd' (Nat.le_of_ble_eq_true rfl)
        · exact roomU hu' (Nat.le_of_ble_eq_true rfl)
        rintro r1 tl1 hA tkA FA NA hordA _ hDA
        have hDA' : DatIn _ _ (spD (runsF (mcol mask want bits))) := hDA
        clear F4 N4
        k_steps
        (rename Fr _ _ _ _ => F9); (rename News _ _ _ _ => N9)
        (rename (∀ p : Addr × Obj, p ∈ (_ : List (Addr × Obj)) → p.1 < _) => hTl)
        refine hret _ ((_, ({ cls := .type "tuple", data := .seq #[r1, r0, Value.ref D] } : Obj)) :: (D, lst ((mcol mask want bits).map Value.bool)) :: (L' + 1 + 1, oW) :: (L' + 1, oM) :: (G, W.listOf #[] 0) :: (tl ++ (tl0 ++ tl1))) _ _ F9 (news_sub N9 (by bits_by_make)) (ap_cons (ap_one hTl (by bits_by_make)) (ap_cons (fun q hq => off1_lt ho q (.tail _ (.tail _ hq))) (ap_cons (fun q hq => Nat.ne_of_lt (Nat.lt_succ_of_lt (Nat.lt_succ_of_lt (l1 q hq)))) (ap_cons (fun q hq => Nat.ne_of_lt (Nat.lt_succ_of_lt (l1 q hq))) (ap_cons (fun q hq => Nat.ne_of_lt (allLt_mem hGs.2.2.2 q (List.mem_append_left _ hq))) (ap_app hap (ap_app (ap_lt hordB (by bits_by_make)) (ap_lt hordA (by bits_by_make))))))))) trivial ?_
        show DatIn _ _ (termD (mcol mask want bits))
        refine DatIn.tuple (vs := [r1, r0, Value.ref D]) (.head _) (.cons (DatIn.mono (by bits_by_make) hDA') (.cons (DatIn.mono (by bits_by_make) hDB') (.cons (DatIn.list (vs := (mcol mask want bits).map Value.bool) (.tail _ (.head _)) (bools_all _)) .nil)))
end
section
open PySem PySem.W PySem.Calls PyProof.Rows
set_option maxRecDepth 100000
noncomputable abbrev ZipF (h : Heap) (z TI TO : Addr) (f0 : Value) (f : Bool) : Prop :=
  h.get? z = some { cls := .type "zip", dict := none, data := .fields #[f0, .bool f, .bool false, .ref TI, .ref TO], slots := #[] }
section
variable {prog : Program} {w : World} {A : Around} {E : Value → Shared → Prop} {s : Shared}
theorem zz_free {z TI TO a : Addr} {f : Bool} {oa : Obj} {Q : Bool → Shared → Prop} (hz : ZipF s.heap z TI TO (rawInt a) f) (ha : s.heap.get? a = some oa)
    (h : ∀ h', ZipF h' z TI TO (rawInt a) true → Heap.SameBut z s.heap h' → Q false { s with heap := h' }) : wpAny (model prog w) A (Builtin.SmallTypes.ownedTupleIsFree (.ref z)) Q E s := by
  unfold Builtin.SmallTypes.ownedTupleIsFree
  refine wpAny_bind (wpAny_field hz rfl (x := rawInt a) rfl ?_)
  show wpAny _ _ (loadIfAlive ((a : Int).toNat) >>= _) _ _ _
  rw [Int.toNat_natCast]
  refine wpAny_bind (kdx_alive ha ?_)
  simp only [Option.isNone_some, Bool.false_eq_true, if_false]
  refine wpAny_bind (wpAny_field hz rfl (x := .bool f) rfl ?_)
  cases f with
  | true =>
    rw [if_neg (show ¬ ((Value.bool true != Value.bool true) = true) from Bool.false_ne_true)]
    exact wpAny_pure (h _ hz (Heap.SameBut.refl _ _))
  | false =>
    rw [if_pos (show (Value.bool false != Value.bool true) = true from rfl)]
    refine wpAny_bind (wpAny_setField_rec hz (by simp) fun h₃ he₃ hs₃ => ?_)
    exact wpAny_pure (h h₃ he₃ hs₃)
theorem zz_item_out {z TI TO i1 i2 l1 l2 a : Addr} {f : Bool} {oa : Obj} {k1 k2 : Nat} {xs ys : Array Value} {x y : Value} {Q : Value → Shared → Prop} (D : ZipApart z TI TO i1 i2 l1 l2)
    (hz : ZipF s.heap z TI TO (rawInt a) f) (ha : s.heap.get? a = some oa) (hTI : IsPair s.heap TI (.ref i1) (.ref i2))
    (h1 : s.heap.IsListIter i1 l1 k1) (h2 : s.heap.IsListIter i2 l2 k2) (hl1 : s.heap.IsList l1 xs) (hl2 : s.heap.IsList l2 ys) (hx : xs[k1]? = some x) (hy : ys[k2]? = some y)
    (hQ : ∀ h', ZipF h' z TI TO (rawInt a) true → h'.IsListIter i1 l1 (k1 + 1) → h'.IsListIter i2 l2 (k2 + 1) → IsPair h' s.heap.objs.size x y → h'.objs.size = s.heap.objs.size + 1 →
      (∀ c o, c ≠ z → c ≠ i1 → c ≠ i2 → s.heap.get? c = some o → h'.get? c = some o) → Q (.ref s.heap.objs.size) { s with heap := h' }) :
    wpAny (model prog w) A (Builtin.«zip.__next__» ⟨[.ref z], []⟩) (fun fin s' => ∃ v, fin = .done (.ret v) ∧ Q v s') E s := by
  show wpAny _ _ (field (.ref z) 2 >>= _) _ _ _
  refine wpAny_bind (wpAny_field hz rfl (x := .bool false) rfl ?_)
  show wpAny _ _ (field (.ref z) 3 >>= _) _ _ _
  refine wpAny_bind (wpAny_field hz rfl (x := .ref TI) rfl ?_)
  refine wpAny_bind (wpAny_seqItems hTI rfl ?_)
  show wpAny _ _ (Builtin.SmallTypes.ownedTupleIsFree (.ref z) >>= _) _ _ _
  refine wpAny_bind (zz_free hz ha fun h₁ hz₁ hs₁ => ?_)
  simp only [Bool.false_eq_true, if_false]
  refine wpAny_bind ?_
  simp only [List.forIn_toArray, List.forIn_cons, List.forIn_nil]
  refine wpAny_bind (wpAny_bind (wpAny_holding ?_))
  show wpAny _ _ (Builtin.SmallTypes.nextOf (.ref i1) >>= _) _ _ _
  refine wpAny_bind (wpAny_nextOf_list_item (h1.extBut hs₁.extBut D.i1z) (hl1.extBut hs₁.extBut D.l1z) hx fun h₂ h1₂ hs₂ => wpAny_pure ?_)
  refine wpAny_pure ?_
  refine wpAny_bind (wpAny_bind (wpAny_holding ?_))
  show wpAny _ _ (Builtin.SmallTypes.nextOf (.ref i2) >>= _) _ _ _
  refine wpAny_bind (wpAny_nextOf_list_item ((h2.extBut hs₁.extBut D.i2z).extBut hs₂.extBut D.i12.symm)
    ((hl2.extBut hs₁.extBut D.l2z).extBut hs₂.extBut D.l2i1) hy fun h₄ h2₄ hs₄ => wpAny_pure ?_)
  refine wpAny_pure (wpAny_pure ?_)
  refine wpAny_bind (wpAny_newTuple ?_ (by show 2 ≤ sizeLine; rw [sizeLine_eq]; omega))
  have hsz : h₄.objs.size = s.heap.objs.size := by rw [hs₄.1, hs₂.1, hs₁.1]
  have hz₄ : ZipF h₄ z TI TO (rawInt a) true := hs₄.extBut _ _ D.i2z.symm (hs₂.extBut _ _ D.i1z.symm hz₁)
  have h1₄ : h₄.IsListIter i1 l1 (k1 + 1) := h1₂.extBut hs₄.extBut D.i12
  have hk₄ : ∀ c o, c ≠ z → c ≠ i1 → c ≠ i2 → s.heap.get? c = some o → h₄.get? c = some o := fun c o c1 c3 c4 e => hs₄.extBut _ _ c4 (hs₂.extBut _ _ c3 (hs₁.extBut _ _ c1 e))
  refine wpAny_pure ⟨_, rfl, ?_⟩
  show Q (.ref h₄.objs.size) _
  have hT : (h₄.push { cls := .type "tuple", data := .seq #[x, y] }).get? h₄.objs.size = _ := Heap.get?_push_size _ rfl
  have hp : (h₄.push { cls := .type "tuple", data := .seq #[x, y] }).objs.size = h₄.objs.size + 1 := Heap.size_push ..
  rw [hsz] at hT hp
  rw [hsz]
  exact hQ _ (Heap.get?_push_of_some _ hz₄) (h1₄.at fun o e => Heap.get?_push_of_some _ e) (h2₄.at fun o e => Heap.get?_push_of_some _ e) hT hp fun c o c1 c3 c4 e => Heap.get?_push_of_some _ (hk₄ c o c1 c3 c4 e)
theorem zz_end_out {z TI TO i1 i2 l1 l2 a : Addr} {f : Bool} {oa : Obj} {k1 : Nat} {xs : Array Value} {Q : Fin → Shared → Prop} (hh : A.handled = none) (D : ZipApart z TI TO i1 i2 l1 l2)
    (hz : ZipF s.heap z TI TO (rawInt a) f) (ha : s.heap.get? a = some oa) (hTI : IsPair s.heap TI (.ref i1) (.ref i2))
    (h1 : s.heap.IsListIter i1 l1 k1) (hl1 : s.heap.IsList l1 xs) (hx : xs[k1]? = none)
    (hE : ∀ h' e, (∀ c o, c ≠ z → c ≠ i1 → s.heap.get? c = some o → h'.get? c = some o) → (∃ o, h'.get? e = some o ∧ o.cls = .type "StopIteration") → E (.ref e) { s with heap := h' }) :
    wpAny (model prog w) A (Builtin.«zip.__next__» ⟨[.ref z], []⟩) Q E s := by
  show wpAny _ _ (field (.ref z) 2 >>= _) _ _ _
  refine wpAny_bind (wpAny_field hz rfl (x := .bool false) rfl ?_)
  show wpAny _ _ (field (.ref z) 3 >>= _) _ _ _
  refine wpAny_bind (wpAny_field hz rfl (x := .ref TI) rfl ?_)
  refine wpAny_bind (wpAny_seqItems hTI rfl ?_)
  show wpAny _ _ (Builtin.SmallTypes.ownedTupleIsFree (.ref z) >>= _) _ _ _
  refine wpAny_bind (zz_free hz ha fun h₁ hz₁ hs₁ => ?_)
  simp only [Bool.false_eq_true, if_false]
  refine wpAny_bind ?_
  simp only [List.forIn_toArray, List.forIn_cons, List.forIn_nil]
  refine wpAny_bind (wpAny_bind (wpAny_holding ?_))
  show wpAny _ _ (Builtin.SmallTypes.nextOf (.ref i1) >>= _) _ _ _
  exact wpAny_bind (wpAny_nextOf_list_end hh (h1.extBut hs₁.extBut D.i1z) (hl1.extBut hs₁.extBut D.l1z) hx fun h₂ e hs₂ he => hE h₂ e (fun c o c1 c3 x => hs₂ _ _ c3 (hs₁.extBut _ _ c1 x)) he)
theorem zz_next_out {z TI TO i1 i2 l1 l2 a : Addr} {f : Bool} {oa : Obj} {k1 k2 : Nat} {xs ys : Array Value} {x y : Value} {Q : Option Value → Shared → Prop} (D : ZipApart z TI TO i1 i2 l1 l2)
    (hz : ZipF s.heap z TI TO (rawInt a) f) (ha : s.heap.get? a = some oa) (hTI : IsPair s.heap TI (.ref i1) (.ref i2))
    (h1 : s.heap.IsListIter i1 l1 k1) (h2 : s.heap.IsListIter i2 l2 k2) (hl1 : s.heap.IsList l1 xs) (hl2 : s.heap.IsList l2 ys) (hx : xs[k1]? = some x) (hy : ys[k2]? = some y)
    (hQ : ∀ h', ZipF h' z TI TO (rawInt a) true → h'.IsListIter i1 l1 (k1 + 1) → h'.IsListIter i2 l2 (k2 + 1) → IsPair h' s.heap.objs.size x y → h'.objs.size = s.heap.objs.size + 1 →
      (∀ c o, c ≠ z → c ≠ i1 → c ≠ i2 → s.heap.get? c = some o → h'.get? c = some o) → Q (some (.ref s.heap.objs.size)) { s with heap := h' }) :
    wpAny (model prog w) A (pyNext (.ref z)) Q E s := by
  have hT : s.TypeIs (.ref z) "zip" := ⟨_, hz, rfl⟩
  unfold pyNext
  exact wpAny_bind (wpAny_attempt (wpAny_callSpecial?_slot (name := Str.ofString "__next__") hT PySem.F.slot_zip_next
    (wpAny_call_entry PySem.F.slot_zip_next hT PySem.F.entry_zip_next
      (zz_item_out D hz ha hTI h1 h2 hl1 hl2 hx hy fun h' a1 a3 a4 a5 a6 a7 => wpAny_pure (hQ h' a1 a3 a4 a5 a6 a7)) (PySem.F.args_zip_next_1 _))))
theorem zz_stop_out {z TI TO i1 i2 l1 l2 a : Addr} {f : Bool} {oa : Obj} {k1 : Nat} {xs : Array Value} {Q : Option Value → Shared → Prop} (hh : A.handled = none) (D : ZipApart z TI TO i1 i2 l1 l2)
    (hz : ZipF s.heap z TI TO (rawInt a) f) (ha : s.heap.get? a = some oa) (hTI : IsPair s.heap TI (.ref i1) (.ref i2))
    (h1 : s.heap.IsListIter i1 l1 k1) (hl1 : s.heap.IsList l1 xs) (hx : xs[k1]? = none)
    (hQ : ∀ h', (∀ c o, c ≠ z → c ≠ i1 → s.heap.get? c = some o → h'.get? c = some o) → Q none { s with heap := h' }) : wpAny (model prog w) A (pyNext (.ref z)) Q E s := by
  have hT : s.TypeIs (.ref z) "zip" := ⟨_, hz, rfl⟩
  unfold pyNext
  refine wpAny_bind (wpAny_attempt (wpAny_callSpecial?_slot (name := Str.ofString "__next__") hT PySem.F.slot_zip_next
    (wpAny_call_entry PySem.F.slot_zip_next hT PySem.F.entry_zip_next (zz_end_out hh D hz ha hTI h1 hl1 hx fun h' e hk he => ?_) (PySem.F.args_zip_next_1 _))))
  obtain ⟨o, ho, hc⟩ := he
  refine wpAny_bind (wpAny_isInstance (T := "StopIteration") (b := true) ⟨o, ho, hc⟩ isSubtype_stop ?_)
  exact wpAny_pure (hQ _ hk)
end
structure ZipSt (h : Heap) (z TI TO i1 i2 l1 l2 S : Addr) (xs ys : Array Value) (i : Nat) : Prop where
  TIp : IsPair h TI (.ref i1) (.ref i2)
  I1 : h.IsListIter i1 l1 i
  I2 : h.IsListIter i2 l2 i
  L1 : h.IsList l1 xs
  L2 : h.IsList l2 ys
  st : (i = 0 ∧ IsZip h z TI TO .none ∧ IsPair h TO .none .none) ∨ ∃ (a : Addr) (f : Bool) (oa : Obj), ZipF h z TI TO (rawInt a) f ∧ h.get? a = some oa ∧ a ≠ z ∧ a ≠ i1 ∧ a ≠ i2 ∧ a ≠ S
structure ZipLow (z TI TO i1 i2 l1 l2 S : Addr) : Prop where
  a1 : z < S
  a2 : TI < S
  a3 : TO < S
  a4 : i1 < S
  a5 : i2 < S
  a6 : l1 < S
  a7 : l2 < S
theorem ZipSt.keep {h h' : Heap} {z TI TO i1 i2 l1 l2 S : Addr} {xs ys : Array Value} {i : Nat} (x : ZipSt h z TI TO i1 i2 l1 l2 S xs ys i) (U : ZipLow z TI TO i1 i2 l1 l2 S) (hk : ∀ b o, b ≠ S → h.get? b = some o → h'.get? b = some o) :
    ZipSt h' z TI TO i1 i2 l1 l2 S xs ys i := by
  refine ⟨hk _ _ (Nat.ne_of_lt U.a2) x.TIp, x.I1.at fun o e => hk _ o (Nat.ne_of_lt U.a4) e, x.I2.at fun o e => hk _ o (Nat.ne_of_lt U.a5) e, x.L1.at fun o e => hk _ o (Nat.ne_of_lt U.a6) e, x.L2.at fun o e => hk _ o (Nat.ne_of_lt U.a7) e, ?_⟩
  rcases x.st with ⟨e, h1, h2⟩ | ⟨a, f, oa, h1, h2, h3, h4, h5, h6⟩
  · exact .inl ⟨e, hk _ _ (Nat.ne_of_lt U.a1) h1, hk _ _ (Nat.ne_of_lt U.a3) h2⟩
  · exact .inr ⟨a, f, oa, hk _ _ (Nat.ne_of_lt U.a1) h1, hk _ _ h6 h2, h3, h4, h5, h6⟩
structure ZipG (xs ys : Array Value) (lo : Addr) (h : Heap) (as : List Addr) : Prop where
  rise : as.Pairwise (· < ·)
  above : ∀ a ∈ as, lo < a
  pairs : ∀ (j : Nat) (a : Addr), as[j]? = some a → ∃ x y, xs[j]? = some x ∧ ys[j]? = some y ∧ IsPair h a x y
theorem ZipG.there {xs ys : Array Value} {lo : Addr} {h : Heap} {as : List Addr} (g : ZipG xs ys lo h as) {a : Addr} (ha : a ∈ as) : a < h.objs.size := by
  obtain ⟨j, hj⟩ := List.mem_iff_getElem?.mp ha
  obtain ⟨_, _, _, _, e⟩ := g.pairs j a hj
  exact Heap.lt_size e
section
variable {prog : Program} {w : World} {A : Around} {E : Value → Shared → Prop} {s : Shared} {z TI TO i1 i2 l1 l2 S : Addr} {xs ys : Array Value}
theorem zz_next {i : Nat} {x y : Value} {Q : Option Value → Shared → Prop} (D : ZipApart z TI TO i1 i2 l1 l2) (U : ZipLow z TI TO i1 i2 l1 l2 S) (hS : S < s.heap.objs.size) (x0 : ZipSt s.heap z TI TO i1 i2 l1 l2 S xs ys i) (hx : xs[i]? = some x) (hy : ys[i]? = some y)
    (hQ : ∀ h', ZipSt h' z TI TO i1 i2 l1 l2 S xs ys (i + 1) → IsPair h' s.heap.objs.size x y → (∀ c o, c ≠ z → c ≠ TO → c ≠ i1 → c ≠ i2 → s.heap.get? c = some o → h'.get? c = some o) → Q (some (.ref s.heap.objs.size)) { s with heap := h' }) :
    wpAny (model prog w) A (pyNext (.ref z)) Q E s := by
  have big : ∀ {b : Addr}, b < S → s.heap.objs.size ≠ b := fun h => Nat.ne_of_gt (Nat.lt_trans h hS)
  have lists : ∀ h' : Heap, (∀ c o, c ≠ z → c ≠ TO → c ≠ i1 → c ≠ i2 → s.heap.get? c = some o → h'.get? c = some o) → h'.IsList l1 xs ∧ h'.IsList l2 ys ∧ IsPair h' TI (.ref i1) (.ref i2) := fun h' hk =>
    ⟨x0.L1.at fun o e => hk _ o D.l1z D.l1TO D.l1i1 D.l1i2 e, x0.L2.at fun o e => hk _ o D.l2z D.l2TO D.l2i1 D.l2i2 e, hk _ _ D.TIz D.TITO D.TIi1 D.TIi2 x0.TIp⟩
  rcases x0.st with ⟨rfl, hz, hTO⟩ | ⟨a, f, oa, hz, ha, h3, h4, h5, h6⟩
  · refine wpAny_pyNext_zip_item D hz x0.TIp hTO x0.I1 x0.I2 x0.L1 x0.L2 hx hy fun h' b1 b2 b3 b4 b5 b6 b7 => ?_
    obtain ⟨c1, c2, c3⟩ := lists h' b7
    exact hQ h' ⟨c3, b3, b4, c1, c2, .inr ⟨_, false, _, b1, b5, big U.a1, big U.a4, big U.a5, Nat.ne_of_gt hS⟩⟩ b5 b7
  · refine zz_next_out D hz ha x0.TIp x0.I1 x0.I2 x0.L1 x0.L2 hx hy fun h' b1 b3 b4 b5 b6 b7 => ?_
    obtain ⟨c1, c2, c3⟩ := lists h' fun c o e1 _ e3 e4 e => b7 c o e1 e3 e4 e
    exact hQ h' ⟨c3, b3, b4, c1, c2, .inr ⟨a, true, oa, b1, b7 _ _ h3 h4 h5 ha, h3, h4, h5, h6⟩⟩ b5 fun c o e1 _ e3 e4 e => b7 c o e1 e3 e4 e
theorem zz_stop {i : Nat} {Q : Option Value → Shared → Prop} (hh : A.handled = none) (D : ZipApart z TI TO i1 i2 l1 l2) (x0 : ZipSt s.heap z TI TO i1 i2 l1 l2 S xs ys i) (hi : i ≠ 0) (hx : xs[i]? = none)
    (hQ : ∀ h', (∀ c o, c ≠ z → c ≠ i1 → s.heap.get? c = some o → h'.get? c = some o) → Q none { s with heap := h' }) : wpAny (model prog w) A (pyNext (.ref z)) Q E s := by
  rcases x0.st with ⟨e, _⟩ | ⟨a, f, oa, hz, ha, _⟩
  · exact absurd e hi
  · exact zz_stop_out hh D hz ha x0.TIp x0.I1 x0.L1 hx hQ
end
section
variable {prog : Program} {w : World} {A : Around} {s : Shared} {R : Result → Shared → Prop} {z TI TO i1 i2 l1 l2 S : Addr} {xs ys : Array Value}
theorem zz_loop (hh : A.handled = none) (D : ZipApart z TI TO i1 i2 l1 l2) (U : ZipLow z TI TO i1 i2 l1 l2 S) (hlen : ys.size = xs.size) (hpos : 1 ≤ xs.size) (hn : xs.size ≤ sizeLine) (res : Value) {h₁ : Heap}
    (hR : ∀ h' tk acc c as, (∀ b o, b ≠ S → b ≠ z → b ≠ TO → b ≠ i1 → b ≠ i2 → h₁.get? b = some o → h'.get? b = some o) → h'.get? S = some { cls := .type "list", dict := none, data := .seq acc c, slots := #[] } → as.length = xs.size → ZipG xs ys S h' as →
      acc.toList = as.map Value.ref → R (.ok (.ret res)) { s with heap := h', toks := tk }) :
    ∀ (k i : Nat) (h : Heap) (tk c : Nat) (acc : Array Value) (as : List Addr), xs.size - i = k → i ≤ xs.size → ZipSt h z TI TO i1 i2 l1 l2 S xs ys i → (∀ b o, b ≠ S → b ≠ z → b ≠ TO → b ≠ i1 → b ≠ i2 → h₁.get? b = some o → h.get? b = some o) →
      h.get? S = some { cls := .type "list", dict := none, data := .seq acc c, slots := #[] } → acc.toList = as.map Value.ref → as.length = i → ZipG xs ys S h as →
      codeAny (model prog w) A (.builtin "list.extend.loop" ⟨[.ref S, .ref z, res], []⟩) R { s with heap := h, toks := tk } := by
  intro k
  induction k with
  | zero =>
    intro i h tk c acc as hk hi hst hkeep hS hacc hal hG
    refine codeAny_builtin PySem.F.entry_extend_loop ?_
    rw [Around.under_plainId PySem.F.plain_extend_loop _]
    show wpAny _ A.in1 (pyNext (.ref z) >>= _) _ _ _
    refine wpAny_bind (zz_stop (s := { s with heap := h, toks := tk }) (A := A.in1) hh D hst (by omega) (Array.getElem?_eq_none (by omega)) fun h' he => ?_)
    refine wpAny_pure (hR h' tk acc c as (fun b o c1 c2 c3 c4 c5 e => he b o c2 c4 (hkeep b o c1 c2 c3 c4 c5 e)) (he S _ (Nat.ne_of_gt U.a1) (Nat.ne_of_gt U.a4) hS) (by omega) ⟨hG.rise, hG.above, fun j a hj => ?_⟩ hacc)
    obtain ⟨x, y, e1, e2, e3⟩ := hG.pairs j a hj
    have hb := hG.above a (List.mem_of_getElem? hj)
    exact ⟨x, y, e1, e2, he a _ (Nat.ne_of_gt (Nat.lt_trans U.a1 hb)) (Nat.ne_of_gt (Nat.lt_trans U.a4 hb)) e3⟩
  | succ k ih =>
    intro i h tk c acc as hk hi hst hkeep hS hacc hal hG
    have hlt : i < xs.size := by omega
    have hlt2 : i < ys.size := by omega
    have hsz : acc.size = i := by rw [← Array.length_toList, hacc, List.length_map, hal]
    have hSl : S < h.objs.size := Heap.lt_size hS
    refine codeAny_builtin PySem.F.entry_extend_loop ?_
    rw [Around.under_plainId PySem.F.plain_extend_loop _]
    show wpAny _ A.in1 (pyNext (.ref z) >>= _) _ _ _
    refine wpAny_bind (zz_next (s := { s with heap := h, toks := tk }) D U hSl hst (Array.getElem?_eq_getElem hlt) (Array.getElem?_eq_getElem hlt2) fun h' hst' ht hkp => ?_)
    dsimp only at ht hkp ⊢
    have hS' := hkp S _ (Nat.ne_of_gt U.a1) (Nat.ne_of_gt U.a3) (Nat.ne_of_gt U.a4) (Nat.ne_of_gt U.a5) hS
    have up : ∀ b o, b ≠ S → h'.get? b = some o → (h'.update S (Obj.mapSeq (·.push (Value.ref h.objs.size)))).get? b = some o := fun b o hb e => (Heap.get?_update_other _ _ (Ne.symm hb)).trans e
    show wpAny _ A.in1 (updateSeq S (·.push (Value.ref h.objs.size)) >>= _) _ _ _
    refine wpAny_bind ?_
    refine wpAny_updateSeq hS' rfl (wpAny_pure ⟨plainId_quiet PySem.F.plain_extend_loop _, ih (i + 1) _ tk _ (acc.push (Value.ref h.objs.size)) (as ++ [h.objs.size]) (by omega) hlt (hst'.keep U up)
      (fun b o c1 c2 c3 c4 c5 e => up b o c1 (hkp b o c2 c3 c4 c5 (hkeep b o c1 c2 c3 c4 c5 e))) (Heap.get?_update_self _ hS' rfl) (by rw [Array.toList_push, hacc, List.map_append]; rfl) (by rw [List.length_append, hal]; rfl) ⟨?_, ?_, ?_⟩⟩) (by rw [hsz]; omega) (by show (acc.push (Value.ref h.objs.size)).size ≤ sizeLine + 1; rw [Array.size_push, hsz]; omega)
    · refine List.pairwise_append.mpr ⟨hG.rise, List.pairwise_singleton _ _, fun a ha b hb => ?_⟩
      rw [List.mem_singleton.mp hb]
      exact hG.there ha
    · intro a ha
      rcases List.mem_append.mp ha with ha | ha
      · exact hG.above a ha
      · rw [List.mem_singleton.mp ha]; exact hSl
    · intro j b hj
      rcases Nat.lt_trichotomy j as.length with q | q | q
      · rw [List.getElem?_append_left q] at hj
        obtain ⟨x, y, e1, e2, e3⟩ := hG.pairs j b hj
        have hb := hG.above b (List.mem_of_getElem? hj)
        exact ⟨x, y, e1, e2, up b _ (Nat.ne_of_gt hb) (hkp b _ (Nat.ne_of_gt (Nat.lt_trans U.a1 hb)) (Nat.ne_of_gt (Nat.lt_trans U.a3 hb)) (Nat.ne_of_gt (Nat.lt_trans U.a4 hb)) (Nat.ne_of_gt (Nat.lt_trans U.a5 hb)) e3)⟩
      · subst q
        have hb : h.objs.size = b := by simpa using hj
        subst hb
        exact ⟨_, _, by rw [hal]; exact Array.getElem?_eq_getElem hlt, by rw [hal]; exact Array.getElem?_eq_getElem hlt2, up _ _ (Nat.ne_of_gt hSl) ht⟩
      · have hnone : (as ++ [h.objs.size])[j]? = none := List.getElem?_eq_none (by rw [List.length_append, List.length_singleton]; omega)
        rw [hnone] at hj; cases hj
end
theorem zip_no_len : typeLookup (.type "zip") "__len__" = pure none := by rw [typeLookup_type, builtinLookup_eq_fast]; kernel_rfl
theorem zip_no_hint : typeLookup (.type "zip") "__length_hint__" = pure none := by rw [typeLookup_type, builtinLookup_eq_fast]; kernel_rfl
section
variable {prog : Program} {w : World} {A : Around} {E : Value → Shared → Prop} {s : Shared} {R : Result → Shared → Prop} {z TI TO i1 i2 l1 l2 : Addr} {xs ys : Array Value}
theorem zz_extend (hh : A.handled = none) (D : ZipApart z TI TO i1 i2 l1 l2) (S : Addr) (U : ZipLow z TI TO i1 i2 l1 l2 S) (hlen : ys.size = xs.size) (hpos : 1 ≤ xs.size) (hn : xs.size ≤ sizeLine) (res : Value) (c₀ : Nat) (hS : s.heap.get? S = some { cls := .type "list", data := .seq #[] c₀ }) (hz : IsZip s.heap z TI TO .none) (hTI : IsPair s.heap TI (.ref i1) (.ref i2)) (hTO : IsPair s.heap TO .none .none) (q1 : s.heap.IsListIter i1 l1 0) (q2 : s.heap.IsListIter i2 l2 0) (hl1 : s.heap.IsList l1 xs) (hl2 : s.heap.IsList l2 ys)
    (hR : ∀ h' tk acc c as, (∀ b o, b ≠ S → b ≠ z → b ≠ TO → b ≠ i1 → b ≠ i2 → s.heap.get? b = some o → h'.get? b = some o) → h'.get? S = some { cls := .type "list", dict := none, data := .seq acc c, slots := #[] } → as.length = xs.size → ZipG xs ys S h' as →
      acc.toList = as.map Value.ref → R (.ok (.ret res)) { s with heap := h', toks := tk }) :
    wpAny (model prog w) A.in1 (Builtin.List.listExtendWith (.ref S) (.ref z) res)
      (fun fin s' => match fin with | .done f => R (.ok f) s' | .again c' => c'.quiet = true ∧ codeAny (model prog w) A c' R s') (fun e s' => R (.error e) s') s := by
  have hSz : S ≠ z := Nat.ne_of_gt U.a1
  have x0 : ZipSt s.heap z TI TO i1 i2 l1 l2 S xs ys 0 := ⟨hTI, q1, q2, hl1, hl2, .inl ⟨rfl, hz, hTO⟩⟩
  have hT : s.TypeIs (.ref z) "zip" := ⟨_, hz, rfl⟩
  unfold Builtin.List.listExtendWith
  refine wpAny_bind (wpAny_typeOf hT ?_)
  have h1 : Builtin.List.listSameRef (.ref S) (.ref z) = false := by simp [Builtin.List.listSameRef, hSz]
  have h2 : (Value.type "zip" == Value.type "list") = false := by decide
  have h3 : (Value.type "zip" == Value.type "tuple") = false := by decide
  simp only [h1, h2, h3, Bool.or_false, Bool.false_eq_true, if_false]
  refine wpAny_bind (wpAny_pyIter_zip hz ?_)
  refine wpAny_bind (wpAny_holding ?_)
  unfold Builtin.List.listLengthHint
  refine wpAny_bind (wpAny_specialOf hT zip_no_len ?_)
  show wpAny _ A.in1 (specialOf (Value.ref z) (Str.ofString "__length_hint__") >>= _) _ _ _
  refine wpAny_bind (wpAny_specialOf hT zip_no_hint ?_)
  refine wpAny_pure ?_
  show wpAny _ A.in1 (rule "list.extend.makes-room" >>= fun _ => Builtin.List.listTouch (.ref S) >>= fun _ =>
    again (.builtin "list.extend.loop" ⟨[.ref S, .ref z, res], []⟩)) _ _ _
  refine wpAny_bind (wpAny_rule ?_)
  refine wpAny_bind ?_
  show wpAny _ A.in1 (updateSeq S (·.push .none) >>= fun _ => updateSeq S (·.pop)) _ _ _
  refine wpAny_bind (wpAny_updateSeq hS rfl ?_)
  have hS₂ := Heap.get?_update_self (Obj.mapSeq (·.push Value.none)) hS rfl
  refine wpAny_updateSeq (hz := by seq_fits) hS₂ rfl ?_
  have hS₃ := Heap.get?_update_self (Obj.mapSeq (·.pop)) hS₂ rfl
  have oth : ∀ b o, b ≠ S → s.heap.get? b = some o → ((s.heap.update S (Obj.mapSeq (·.push Value.none))).update S (Obj.mapSeq (·.pop))).get? b = some o :=
    fun b o hb e => (Heap.get?_update_other _ _ (Ne.symm hb)).trans ((Heap.get?_update_other _ _ (Ne.symm hb)).trans e)
  refine wpAny_pure ⟨plainId_quiet PySem.F.plain_extend_loop _, zz_loop (s := s) (h₁ := s.heap) hh D U hlen hpos hn res hR _ 0 _ _ _ _ [] (Nat.sub_zero _) (Nat.zero_le _) (x0.keep U oth) (fun b o c1 _ _ _ _ e => oth b o c1 e) hS₃ rfl rfl
    ⟨List.Pairwise.nil, (fun _ ha => nomatch ha), (fun j a hj => by simp at hj)⟩⟩
theorem zz_init (hh : A.handled = none) (D : ZipApart z TI TO i1 i2 l1 l2) (S : Addr) (U : ZipLow z TI TO i1 i2 l1 l2 S) (hlen : ys.size = xs.size) (hpos : 1 ≤ xs.size) (hn : xs.size ≤ sizeLine) (hS : s.heap.get? S = some { cls := .type "list", data := .seq #[] })
    (hz : IsZip s.heap z TI TO .none) (hTI : IsPair s.heap TI (.ref i1) (.ref i2)) (hTO : IsPair s.heap TO .none .none) (q1 : s.heap.IsListIter i1 l1 0) (q2 : s.heap.IsListIter i2 l2 0) (hl1 : s.heap.IsList l1 xs) (hl2 : s.heap.IsList l2 ys)
    (hR : ∀ h' tk acc c as, (∀ b o, b ≠ S → b ≠ z → b ≠ TO → b ≠ i1 → b ≠ i2 → s.heap.get? b = some o → h'.get? b = some o) → h'.get? S = some { cls := .type "list", dict := none, data := .seq acc c, slots := #[] } → as.length = xs.size → ZipG xs ys S h' as →
      acc.toList = as.map Value.ref → R (.ok (.ret .none)) { s with heap := h', toks := tk }) :
    wpAny (model prog w) A.in1 (Builtin.«list.__init__» ⟨[.ref S, .ref z], []⟩)
      (fun fin s' => match fin with | .done f => R (.ok f) s' | .again c' => c'.quiet = true ∧ codeAny (model prog w) A c' R s') (fun e s' => R (.error e) s') s := by
  show wpAny _ _ (do let old ← Builtin.List.listItems (.ref S); Builtin.List.listUpdate (.ref S) (fun _ => #[]); letGo old.toList.reverse; Builtin.List.listExtendWith (.ref S) (.ref z) .none) _ _ s
  refine wpAny_bind ?_
  unfold Builtin.List.listItems
  refine wpAny_bind (wpAny_seqItems hS rfl (wpAny_pure ?_))
  show wpAny _ _ (updateSeq S (fun _ => #[]) >>= fun _ => letGo (#[] : Array Value).toList.reverse >>= fun _ => Builtin.List.listExtendWith (.ref S) (.ref z) .none) _ _ s
  refine wpAny_bind (wpAny_updateSeq hS rfl ?_)
  have hS₂ := Heap.get?_update_self (Obj.mapSeq (fun _ => (#[] : Array Value))) hS rfl
  have oth : ∀ b o, b ≠ S → s.heap.get? b = some o → (s.heap.update S (Obj.mapSeq (fun _ => (#[] : Array Value)))).get? b = some o :=
    fun b o hb e => (Heap.get?_update_other _ _ (Ne.symm hb)).trans e
  refine wpAny_bind (wpAny_letGo ?_)
  refine zz_extend hh D S U hlen hpos hn .none _ hS₂ (oth _ _ (Nat.ne_of_lt U.a1) hz) (oth _ _ (Nat.ne_of_lt U.a2) hTI) (oth _ _ (Nat.ne_of_lt U.a3) hTO) (q1.at fun o e => oth _ o (Nat.ne_of_lt U.a4) e) (q2.at fun o e => oth _ o (Nat.ne_of_lt U.a5) e)
    (hl1.at fun o e => oth _ o (Nat.ne_of_lt U.a6) e) (hl2.at fun o e => oth _ o (Nat.ne_of_lt U.a7) e) (fun h' tk acc c as hk hS' hl hG hacc => ?_)
  exact hR h' tk acc c as (fun b o c1 c2 c3 c4 c5 e => hk b o c1 c2 c3 c4 c5 (oth b o c1 e)) hS' hl hG hacc
theorem zz_call {Q : Value → Shared → Prop} (hh : A.handled = none) (D : ZipApart z TI TO i1 i2 l1 l2) (U : ZipLow z TI TO i1 i2 l1 l2 s.heap.objs.size) (hlen : ys.size = xs.size) (hpos : 1 ≤ xs.size) (hn : xs.size ≤ sizeLine)
    (hz : IsZip s.heap z TI TO .none) (hTI : IsPair s.heap TI (.ref i1) (.ref i2)) (hTO : IsPair s.heap TO .none .none) (q1 : s.heap.IsListIter i1 l1 0) (q2 : s.heap.IsListIter i2 l2 0) (hl1 : s.heap.IsList l1 xs) (hl2 : s.heap.IsList l2 ys)
    (hQ : ∀ h' tk acc c as, (∀ b o, b ≠ z → b ≠ TO → b ≠ i1 → b ≠ i2 → s.heap.get? b = some o → h'.get? b = some o) → h'.get? s.heap.objs.size = some { cls := .type "list", dict := none, data := .seq acc c, slots := #[] } → as.length = xs.size → ZipG xs ys s.heap.objs.size h' as →
      acc.toList = as.map Value.ref → Q (.ref s.heap.objs.size) { s with heap := h', toks := tk }) :
    wpAny (model prog w) A (call (.type "list") [.ref z]) Q E s := by
  refine callType_codes (Q₁ := fun obj s₁ => obj = .ref s.heap.objs.size ∧ s₁ = { s with heap := s.heap.push { cls := .type "list", data := .seq #[] } }) PySem.F.called_list (PySem.F.typeCall_list_1 _) PySem.F.entry_list_init
    (code_list_new _ ⟨rfl, rfl⟩) fun obj s₁ h₁ => ?_
  obtain ⟨rfl, rfl⟩ := h₁
  have hS : (s.heap.push { cls := .type "list", data := .seq #[] }).get? s.heap.objs.size = some { cls := .type "list", data := .seq #[] } := Heap.get?_push_size _ rfl
  refine ⟨⟨_, hS, rfl⟩, PySem.F.args_list_init_2 _ _, zz_init (A := A.in1) hh D _ U hlen hpos hn hS (Heap.get?_push_of_some _ hz) (Heap.get?_push_of_some _ hTI) (Heap.get?_push_of_some _ hTO) (q1.at fun o e => Heap.get?_push_of_some _ e) (q2.at fun o e => Heap.get?_push_of_some _ e) (hl1.push _) (hl2.push _) (fun h' tk acc c as hk hS' hl hG hacc => ?_)⟩
  exact ⟨rfl, hQ h' tk acc c as (fun b o c2 c3 c4 c5 e => hk b o (Nat.ne_of_lt (Heap.lt_size e)) c2 c3 c4 c5 (Heap.get?_push_of_some _ e)) hS' hl hG hacc⟩
end
noncomputable def pairsOf (as : List Addr) (xs ys : List Value) : List (Addr × Obj) := List.zipWith (fun a p => (a, ({ cls := .type "tuple", data := .seq #[p.1, p.2] } : Obj))) as (xs.zip ys)
theorem mem_pairsOf {as : List Addr} {xs ys : List Value} {p : Addr × Obj} (h : p ∈ pairsOf as xs ys) : ∃ (j : Nat) (a : Addr) (x y : Value), as[j]? = some a ∧ xs[j]? = some x ∧ ys[j]? = some y ∧ p = (a, { cls := .type "tuple", data := .seq #[x, y] }) := by
  obtain ⟨j, hj⟩ := List.mem_iff_getElem?.mp h
  unfold pairsOf at hj
  rw [List.getElem?_zipWith] at hj
  cases ha : as[j]? with
  | none => rw [ha] at hj; cases hj
  | some a =>
    cases hp : (xs.zip ys)[j]? with
    | none => rw [ha, hp] at hj; cases hj
    | some q =>
      rw [ha, hp] at hj
      obtain ⟨x, y⟩ := q
      have h2 := List.getElem?_zip_eq_some.mp hp
      exact ⟨j, a, x, y, ha, h2.1, h2.2, (Option.some.inj hj).symm⟩
theorem get_pairsOf {as : List Addr} {xs ys : List Value} {j : Nat} {a : Addr} {x y : Value} (h1 : as[j]? = some a) (h2 : xs[j]? = some x) (h3 : ys[j]? = some y) : (a, ({ cls := .type "tuple", data := .seq #[x, y] } : Obj)) ∈ pairsOf as xs ys := by
  refine List.mem_iff_getElem?.mpr ⟨j, ?_⟩
  unfold pairsOf
  have h4 : (xs.zip ys)[j]? = some (x, y) := List.getElem?_zip_eq_some.mpr ⟨h2, h3⟩
  rw [List.getElem?_zipWith, h1, h4]
section
variable {prog : Program} {w : World} {A : Around} {E : Value → Shared → Prop} {s : Shared} {h₀ : Heap} {L : Addr} {m : Str → Option Value} {z TI TO i1 i2 l1 l2 : Addr} {xs ys : List Value}
theorem zz_list {news : List (Addr × Obj)} {Q : Value → Shared → Prop} (hh : A.handled = none) (D : ZipApart z TI TO i1 i2 l1 l2) (U : ZipLow z TI TO i1 i2 l1 l2 s.heap.objs.size) (hlen : ys.length = xs.length) (hpos : 1 ≤ xs.length) (hn : xs.length ≤ 64)
    (hz : IsZip s.heap z TI TO .none) (hTI : IsPair s.heap TI (.ref i1) (.ref i2)) (hTO : IsPair s.heap TO .none .none) (q1 : s.heap.IsListIter i1 l1 0) (q2 : s.heap.IsListIter i2 l2 0) (hl1 : s.heap.IsList l1 xs.toArray) (hl2 : s.heap.IsList l2 ys.toArray)
    (F : Fr h₀ L s.heap m) (N : News h₀ L s.heap news) (hnew : ∀ b, b = z ∨ b = TO ∨ b = i1 ∨ b = i2 → (∀ p ∈ news, p.1 ≠ b) ∧ b ≠ L ∧ h₀.get? b = none)
    (hQ : ∀ h' tk c S as, as.length = xs.length → Fr h₀ L h' m → News h₀ L h' ((S, listOf (as.map Value.ref).toArray c) :: (pairsOf as xs ys ++ news)) → (∀ p ∈ news, p.1 < S) → (∀ a ∈ as, S < a) → Q (.ref S) { s with heap := h', toks := tk }) :
    wpAny (model prog w) A (call (.type "list") [.ref z]) Q E s := by
  refine zz_call (xs := xs.toArray) (ys := ys.toArray) hh D U (by simpa using hlen) (by simpa using hpos) (by rw [sizeLine_eq]; simp; omega) hz hTI hTO q1 q2 hl1 hl2 fun h' tk acc c as hk hS hl hG hacc => ?_
  have ea : acc = (as.map Value.ref).toArray := by rw [← hacc, Array.toArray_toList]
  subst ea
  have nz := hnew z (.inl rfl)
  have nO := hnew TO (.inr (.inl rfl))
  have n1 := hnew i1 (.inr (.inr (.inl rfl)))
  have n2 := hnew i2 (.inr (.inr (.inr rfl)))
  have base : ∀ b o, h₀.get? b = some o → b ≠ z ∧ b ≠ TO ∧ b ≠ i1 ∧ b ≠ i2 := fun b o e =>
    ⟨fun q => (by rw [q, nz.2.2] at e; cases e), fun q => (by rw [q, nO.2.2] at e; cases e), fun q => (by rw [q, n1.2.2] at e; cases e), fun q => (by rw [q, n2.2.2] at e; cases e)⟩
  have F' : Fr h₀ L h' m := ⟨F.ns.at' fun o e => hk _ o (Ne.symm nz.2.1) (Ne.symm nO.2.1) (Ne.symm n1.2.1) (Ne.symm n2.2.1) e, fun b o e => (let q := base b o e; hk b o q.1 q.2.1 q.2.2.1 q.2.2.2 (F.keep b o e)), F.above⟩
  refine hQ h' tk c s.heap.objs.size as (by simpa using hl) F' (fun p hp => ?_) (fun p hp => Heap.lt_size (N p hp).1) hG.above
  rcases List.mem_cons.mp hp with rfl | hp
  · exact ⟨hS, kdx_fresh F (Nat.le_refl _)⟩
  · rcases List.mem_append.mp hp with hp | hp
    · obtain ⟨j, a, x, y, e1, e2, e3, rfl⟩ := mem_pairsOf hp
      obtain ⟨x', y', g2, g3, g4⟩ := hG.pairs j a e1
      have g2' : xs[j]? = some x' := by simpa using g2
      have g3' : ys[j]? = some y' := by simpa using g3
      rw [e2] at g2'; cases g2'
      rw [e3] at g3'; cases g3'
      exact ⟨g4, kdx_fresh F (Nat.le_of_lt (hG.above a (List.mem_of_getElem? e1)))⟩
    · exact ⟨hk _ _ (nz.1 p hp) (nO.1 p hp) (n1.1 p hp) (n2.1 p hp) (N p hp).1, (N p hp).2⟩
end
noncomputable def ZipNow (h₀ h : Heap) (L : Addr) (news : List (Addr × Obj)) (z : Addr) (xs ys : List Value) : Prop :=
  ∃ TI TO i1 i2 l1 l2, ZipApart z TI TO i1 i2 l1 l2 ∧ ZipLow z TI TO i1 i2 l1 l2 h.objs.size ∧ IsZip h z TI TO .none ∧ IsPair h TI (.ref i1) (.ref i2) ∧ IsPair h TO .none .none ∧ h.IsListIter i1 l1 0 ∧ h.IsListIter i2 l2 0 ∧ h.IsList l1 xs.toArray ∧ h.IsList l2 ys.toArray ∧
    ∀ b, b = z ∨ b = TO ∨ b = i1 ∨ b = i2 → (∀ p ∈ news, p.1 ≠ b) ∧ b ≠ L ∧ h₀.get? b = none
section
variable {prog : Program} {w : World} {A : Around} {E : Value → Shared → Prop} {s : Shared} {h₀ : Heap} {L : Addr} {m : Str → Option Value} {l1 l2 z : Addr} {xs ys : List Value} {news : List (Addr × Obj)} {Q : Value → Shared → Prop}
theorem zz_zip {n1 n2 : Nat} (F : Fr h₀ L s.heap m) (N : News h₀ L s.heap news) (hm1 : (l1, listOf xs.toArray n1) ∈ news) (hm2 : (l2, listOf ys.toArray n2) ∈ news)
    (h : ∀ z h', ZipNow h₀ h' L news z xs ys → Fr h₀ L h' m → News h₀ L h' news → Q (.ref z) { s with heap := h' }) : wpAny (model prog w) A (call (.type "zip") [.ref l1, .ref l2]) Q E s := by
  have hax1 := N _ hm1
  have hax2 := N _ hm2
  have hl1 : s.heap.IsList l1 xs.toArray := ⟨_, hax1.1, rfl, n1, rfl⟩
  have hl2 : s.heap.IsList l2 ys.toArray := ⟨_, hax2.1, rfl, n2, rfl⟩
  have hlt1 : @LT.lt Nat _ l1 s.heap.objs.size := Heap.lt_size hax1.1
  have hlt2 : @LT.lt Nat _ l2 s.heap.objs.size := Heap.lt_size hax2.1
  refine call_zip_2 hl1 hl2 fun h' hz hTI hTO hi1 hi2 hsz hk => h _ h' ⟨_, _, _, _, _, _, ktu_apart _ _ _ hlt1 hlt2, ?_, hz, hTI, hTO, hi1, hi2, hl1.at fun o e => hk _ o e, hl2.at fun o e => hk _ o e, ?_⟩ (F.keeps hk) (N.grown hk)
  · rw [hsz]
    constructor
    · show @LT.lt Nat _ (s.heap.objs.size + 4) (s.heap.objs.size + 5); omega
    · show @LT.lt Nat _ (s.heap.objs.size + 2) (s.heap.objs.size + 5); omega
    · show @LT.lt Nat _ (s.heap.objs.size + 3) (s.heap.objs.size + 5); omega
    · show @LT.lt Nat _ s.heap.objs.size (s.heap.objs.size + 5); omega
    · show @LT.lt Nat _ (s.heap.objs.size + 1) (s.heap.objs.size + 5); omega
    · show @LT.lt Nat _ l1 (s.heap.objs.size + 5); omega
    · show @LT.lt Nat _ l2 (s.heap.objs.size + 5); omega
  · intro b hb
    have hge : s.heap.objs.size ≤ b := by
      rcases hb with rfl | rfl | rfl | rfl
      · exact Nat.le_add_right _ _
      · exact Nat.le_add_right _ _
      · exact Nat.le_refl _
      · exact Nat.le_add_right _ _
    exact ⟨fun p hp => Nat.ne_of_lt (Nat.lt_of_lt_of_le (Heap.lt_size (N p hp).1) hge), kdx_fresh F hge⟩
theorem zz_make (hh : A.handled = none) (hlen : ys.length = xs.length) (hpos : 1 ≤ xs.length) (hn : xs.length ≤ 64) (Z : ZipNow h₀ s.heap L news z xs ys) (F : Fr h₀ L s.heap m) (N : News h₀ L s.heap news)
    (hQ : ∀ h' tk c S as, as.length = xs.length → Fr h₀ L h' m → News h₀ L h' ((S, listOf (as.map Value.ref).toArray c) :: (pairsOf as xs ys ++ news)) → (∀ p ∈ news, p.1 < S) → (∀ a ∈ as, S < a) → Q (.ref S) { s with heap := h', toks := tk }) :
    wpAny (model prog w) A (call (.type "list") [.ref z]) Q E s := by
  obtain ⟨TI, TO, i1, i2, l1, l2, D, U, hz, hTI, hTO, q1, q2, hl1, hl2, hnew⟩ := Z
  exact zz_list hh D U hlen hpos hn hz hTI hTO q1 q2 hl1 hl2 F N hnew hQ
end
end
section
open PySem PySem.W PySem.Spec PySem.Calls PyProof.Rows PyProof.Rows.LCg
set_option maxRecDepth 100000
set_option maxHeartbeats 8000000
theorem tellsF_conv {D D' : Type} {prog : Program} {w : World} {K : Frag} {p : Program} {loose : List Str} {mean : ExcName → Option Value} {mg mb : Str → Option Value} {f : Addr} {c : ToldN D} {c' : ToldN D'} {d : D} {d' : D'}
    (h : TellsF prog w K p loose mean mg mb f c d) (hs : c.size d = c'.size d') (hR : ∀ news vs, c'.Rel news vs d' → c.Rel news vs d) (hok : c'.Ok d' → c.Ok d) (hT : ∀ tl, c.Tl tl → c'.Tl tl) (hO : ∀ news r, c'.Ok d' → c.Out news r d → c'.Out news r d') :
    TellsF prog w K p loose mean mg mb f c' d' := by
  intro dp un gd cn cs a ccd cl outer A₀ base h₀ L m news s vs Q E B F X N T hk hR' hok' hd hu hret
  exact h dp un gd cn cs a ccd cl outer A₀ base h₀ L m news s vs Q E B F X N T hk (hR _ _ hR') (hok hok') (by rw [hs]; exact hd) (by rw [hs]; exact hu) fun r tl h' tk' F' N' ho ht hq => hret r tl h' tk' F' N' ho (hT _ ht) (hO _ _ hok' hq)
theorem meetc_fresh (w : World) (s₀ : Shared) (mg mb : Str → Option Value) (d : List Bool × List Bool) :
    TellsF Challenge.rw_pq1070_01.row.prog w (hd.heap_39 w.params) hd.view_39 (looseW hd.view_39 []) (ExcName.means s₀.heap) mg mb 60 (colT andC 1) d := by
  obtain ⟨c1, c2⟩ := d
  have l1 := runs_len c1
  have l2 := runs_len c2
  refine tellsF_conv (meet_fresh w s₀ mg mb (runsF c1, runsF c2)) rfl (fun _ _ h => h) (fun h => ?_) (fun _ _ => trivial) fun news r h q => ?_
  · obtain ⟨h1, h2⟩ := h
    dsimp only at h1 h2
    exact ⟨by dsimp only; omega, by dsimp only; omega⟩
  · show DatIn news r (spD (runsF (andC c1 c2)))
    rw [← meet_col h.1]
    exact q
theorem minusc_fresh (w : World) (s₀ : Shared) (mg mb : Str → Option Value) (d : List Bool × List Bool) :
    TellsF Challenge.rw_pq1070_01.row.prog w (hd.heap_39 w.params) hd.view_39 (looseW hd.view_39 []) (ExcName.means s₀.heap) mg mb 74 (colT lessC 1) d := by
  obtain ⟨c1, c2⟩ := d
  have l1 := runs_len c1
  have l2 := runs_len c2
  refine tellsF_conv (minus_fresh w s₀ mg mb (runsF c1, runsF c2)) rfl (fun _ _ h => h) (fun h => ?_) (fun _ _ => trivial) fun news r h q => ?_
  · obtain ⟨h1, h2⟩ := h
    dsimp only at h1 h2
    exact ⟨by dsimp only; omega, by dsimp only; omega⟩
  · show DatIn news r (spD (runsF (lessC c1 c2)))
    rw [← minus_col h.1]
    exact q
theorem meetc_tells (w : World) (s₀ : Shared) (mg mb : Str → Option Value) (d : List Bool × List Bool) :
    TellsN Challenge.rw_pq1070_01.row.prog w (hd.heap_39 w.params) hd.view_39 (looseW hd.view_39 []) (ExcName.means s₀.heap) mg mb 60 (colT andC 1) d := tellsF_N (meetc_fresh w s₀ mg mb d) fun _ _ _ hs h => DatIn.mono hs h
noncomputable def xorC (a b : List Bool) : List Bool := List.zipWith (· != ·) a b
theorem dm_and : ∀ (a b : List Bool), orC (notC a) (notC b) = notC (andC a b)
  | [], _ => rfl
  | _ :: _, [] => rfl
  | x :: a, y :: b => by
    have e := dm_and a b
    simp only [orC, notC, andC, List.map_cons, List.zipWith_cons_cons] at e ⊢
    rw [e]; cases x <;> cases y <;> rfl
theorem dm_or : ∀ (a b : List Bool), andC (notC a) (notC b) = notC (orC a b)
  | [], _ => rfl
  | _ :: _, [] => rfl
  | x :: a, y :: b => by
    have e := dm_or a b
    simp only [orC, notC, andC, List.map_cons, List.zipWith_cons_cons] at e ⊢
    rw [e]; cases x <;> cases y <;> rfl
theorem dm_less : ∀ (a b : List Bool), orC (notC a) b = notC (lessC a b)
  | [], _ => rfl
  | _ :: _, [] => rfl
  | x :: a, y :: b => by
    have e := dm_less a b
    simp only [orC, notC, lessC, List.map_cons, List.zipWith_cons_cons] at e ⊢
    rw [e]; cases x <;> cases y <;> rfl
theorem dm_xor : ∀ (a b : List Bool), orC (lessC a b) (lessC b a) = xorC a b
  | [], _ => by simp [orC, lessC, xorC]
  | _ :: _, [] => rfl
  | x :: a, y :: b => by
    have e := dm_xor a b
    simp only [orC, xorC, lessC, List.zipWith_cons_cons] at e ⊢
    rw [e]; cases x <;> cases y <;> rfl
theorem dm_alike : ∀ (a b : List Bool), andC (orC (notC a) b) (orC a (notC b)) = notC (xorC a b)
  | [], _ => by simp [andC, orC, notC, xorC]
  | _ :: _, [] => by simp [andC, orC, notC, xorC]
  | x :: a, y :: b => by
    have e := dm_alike a b
    simp only [orC, notC, andC, xorC, List.map_cons, List.zipWith_cons_cons] at e ⊢
    rw [e]; cases x <;> cases y <;> rfl
theorem ap_off {n N : List (Addr × Obj)} {D : Addr} (h : Off1 D N) (hs : ∀ q ∈ n, q ∈ N) : ∀ q ∈ n, q.1 ≠ D := fun q hq => off1_lt h q (hs q hq)
theorem zw_len {f : Bool → Bool → Bool} {a b : List Bool} (h : a.length = b.length) : (List.zipWith f a b).length = a.length := by
  rw [List.length_zipWith, h, Nat.min_self]
theorem ap_pairs {n : List (Addr × Obj)} {S : Addr} {as : List Addr} {xs ys : List Value} (h1 : ∀ p ∈ n, p.1 < S) (h2 : ∀ a ∈ as, S < a) : ∀ q ∈ n, ∀ p ∈ pairsOf as xs ys, q.1 ≠ p.1 := by
  intro q hq p hp
  obtain ⟨j, a, x, y, e1, _, _, rfl⟩ := mem_pairsOf hp
  exact Nat.ne_of_lt (Nat.lt_trans (h1 q hq) (h2 a (List.mem_of_getElem? e1)))
section
variable {prog : Program} {w : World} {A : Around} {E : Value → Shared → Prop} {s : Shared} {h₀ : Heap} {L : Addr} {m : Str → Option Value} {env : Env}
theorem comp_pairs {elt : PySem.Expr} {x x₂ : Str} {scope : Scope} {cl : List (Str × Addr)} {S : List (Addr × Obj) → Prop} {Fin : List Value → List (Addr × Obj) → Prop} {news : List (Addr × Obj)} {as : List Addr} {a b : List Bool} (hS : S news)
    (hal : as.length = a.length) (hbl : b.length = a.length) (hin : ∀ p ∈ pairsOf as (a.map Value.bool) (b.map Value.bool), p ∈ news) (g : Bool → Bool → Bool)
    (step : ∀ (p q : Bool) (I : Addr) (oI : Obj) (C : Addr) (oC : Obj) (D : Addr) (oD : Obj) (m₂ : Str → Option Value) (h : Heap) (tk : Nat) (Q' E' : Value → Shared → Prop), NsObj oC m₂ → m₂ x = some (.bool p) → m₂ x₂ = some (.bool q) → Fr h₀ L h m → News h₀ L h ((I, oI) :: (C, oC) :: (D, oD) :: news) →
        (∀ tk', Q' (.bool (g p q)) { s with heap := h, toks := tk' }) → wpAny (model prog w) A (eval elt (compEnvC scope cl C env)) Q' E' { s with heap := h, toks := tk })
    (fin : Fin ((List.zipWith g a b).map Value.bool) news) : LCp.CompRestP prog w A h₀ L m env elt x x₂ scope cl s S (fun i v => (as.map Value.ref).toArray[i]? = some v) Fin (as.map Value.ref).toArray.size 0 [] news := by
  have hsz : (as.map Value.ref).toArray.size = a.length := by simpa using hal
  rw [hsz]
  refine comp_pureP hS (fun i => Value.bool (g (a.getD i false) (b.getD i false))) (fun i v hi hP => ?_) ?_
  · have hP' : (as.map Value.ref)[i]? = some v := by simpa using hP
    rw [List.getElem?_map] at hP'
    have hia : i < as.length := by omega
    rw [List.getElem?_eq_getElem hia] at hP'
    have hv : v = .ref as[i] := (Option.some.inj hP').symm
    have h2 : (a.map Value.bool)[i]? = some (.bool (a.getD i false)) := by simp [List.getD_eq_getElem?_getD, hi]
    have hib : i < b.length := by omega
    have h3 : (b.map Value.bool)[i]? = some (.bool (b.getD i false)) := by simp [List.getD_eq_getElem?_getD, hib]
    exact ⟨as[i], _, _, _, _, hv, hin _ (get_pairsOf (List.getElem?_eq_getElem hia) h2 h3), rfl, rfl, fun I oI C oC D oD m₂ h tk Q' E' hC hx hx₂ F N hQ => step _ _ I oI C oC D oD m₂ h tk Q' E' hC hx hx₂ F N hQ⟩
  · have e : (List.range a.length).map (fun i => Value.bool (g (a.getD i false) (b.getD i false))) = (List.zipWith g a b).map Value.bool := by
      refine List.ext_getElem (by simp [hbl]) fun i h1 h2 => ?_
      have hi : i < a.length := by simpa using h1
      have hib : i < b.length := by omega
      simp [List.getD_eq_getElem?_getD, hi, hib]
    rw [e]
    exact fin
theorem comp_bools {elt : PySem.Expr} {x : Str} {scope : Scope} {cl : List (Str × Addr)} {S : List (Addr × Obj) → Prop} {Fin : List Value → List (Addr × Obj) → Prop} {news : List (Addr × Obj)} {a : List Bool} (hS : S news) (g : Bool → Bool)
    (step : ∀ (p : Bool) (I : Addr) (oI : Obj) (C : Addr) (oC : Obj) (D : Addr) (oD : Obj) (m₂ : Str → Option Value) (h : Heap) (tk : Nat) (Q' E' : Value → Shared → Prop), NsObj oC m₂ → m₂ x = some (.bool p) → Fr h₀ L h m → News h₀ L h ((I, oI) :: (C, oC) :: (D, oD) :: news) →
        (∀ tk', Q' (.bool (g p)) { s with heap := h, toks := tk' }) → wpAny (model prog w) A (eval elt (compEnvC scope cl C env)) Q' E' { s with heap := h, toks := tk })
    (fin : Fin ((a.map g).map Value.bool) news) : CompRest prog w A h₀ L m env elt x scope cl s S (fun i v => (a.map Value.bool).toArray[i]? = some v) Fin (a.map Value.bool).toArray.size 0 [] news := by
  have hsz : (a.map Value.bool).toArray.size = a.length := by simp
  rw [hsz]
  refine comp_pure hS (fun i => Value.bool (g (a.getD i false))) (fun i v I oI C oC D oD m₂ h tk Q' E' hi hP hC hx F N hQ => ?_) ?_
  · have hP' : (a.map Value.bool)[i]? = some v := by simpa using hP
    have h2 : (a.map Value.bool)[i]? = some (.bool (a.getD i false)) := by simp [List.getD_eq_getElem?_getD, hi]
    rw [h2] at hP'
    have hv := (Option.some.inj hP').symm
    subst hv
    exact step _ I oI C oC D oD m₂ h tk Q' E' hC hx F N hQ
  · have e : (List.range a.length).map (fun i => Value.bool (g (a.getD i false))) = (a.map g).map Value.bool := by
      refine List.ext_getElem (by simp) fun i h1 h2 => ?_
      have hi : i < a.length := by simpa using h1
      simp [List.getD_eq_getElem?_getD, hi]
    rw [e]
    exact fin
end
end
section
open PySem PySem.W PyProof.Rows
theorem odd_sq (y : Int) : ∃ t, (2 * y + 1) * (2 * y + 1) = 8 * t + 1 := by
  have h : y % 2 = 0 ∨ y % 2 = 1 := by omega
  rcases h with h | h
  · obtain ⟨z, rfl⟩ : ∃ z, y = 2 * z := ⟨y / 2, by omega⟩
    exact ⟨2 * (z * z) + z, by grind⟩
  · obtain ⟨z, rfl⟩ : ∃ z, y = 2 * z + 1 := ⟨y / 2, by omega⟩
    exact ⟨2 * (z * z) + 3 * z + 1, by grind⟩
theorem odd_inv (y : Int) : ∃ v q, (2 * y + 1) * v = 32 * q + 1 := by
  obtain ⟨t, ht⟩ := odd_sq y
  obtain ⟨s, hs⟩ : ∃ s, (8 * t + 1) * (8 * t + 1) = 16 * s + 1 := ⟨4 * (t * t) + t, by grind⟩
  obtain ⟨q, hq⟩ : ∃ q, (16 * s + 1) * (16 * s + 1) = 32 * q + 1 := ⟨8 * (s * s) + s, by grind⟩
  refine ⟨(2 * y + 1) * (8 * t + 1) * (16 * s + 1), q, ?_⟩
  rw [← hq, ← Int.mul_assoc, ← Int.mul_assoc, ht, hs]
noncomputable def permI (M : Nat) (first by9 : Int) (k : Nat) : Nat := ((first + (2 * by9 + 1) * (k : Int)) % (M : Int)).toNat
theorem perm_lt {M : Nat} (first by9 : Int) (k : Nat) (hM : 0 < M) : permI M first by9 k < M := by
  unfold permI
  have h1 := Int.emod_nonneg (first + (2 * by9 + 1) * (k : Int)) (show (M : Int) ≠ 0 by omega)
  have h2 := Int.emod_lt_of_pos (first + (2 * by9 + 1) * (k : Int)) (show (0 : Int) < M by omega)
  omega
theorem perm_onto {M : Nat} (first by9 : Int) (hM : ∃ c : Nat, M * c = 32) (n : Nat) (hn : n < M) : ∃ k, k < M ∧ permI M first by9 k = n := by
  obtain ⟨v, q, hv⟩ := odd_inv by9
  obtain ⟨c, hc⟩ := hM
  have hpos : (0 : Int) < M := by omega
  have g1 := Int.emod_nonneg (((n : Int) - first) * v) (show (M : Int) ≠ 0 by omega)
  have g2 := Int.emod_lt_of_pos (((n : Int) - first) * v) hpos
  have g3 := Int.emod_add_mul_ediv (((n : Int) - first) * v) M
  generalize hk : ((n : Int) - first) * v % (M : Int) = k at g1 g2 g3
  generalize ((n : Int) - first) * v / (M : Int) = e at g3
  refine ⟨k.toNat, by omega, ?_⟩
  unfold permI
  have ek : ((k.toNat : Nat) : Int) = k := by omega
  rw [ek]
  have hc' : (M : Int) * (c : Int) = 32 := by
    have := congrArg (fun x : Nat => (x : Int)) hc
    simpa using this
  have e1 : first + (2 * by9 + 1) * k = (n : Int) + (M : Int) * (c * q * ((n : Int) - first) - (2 * by9 + 1) * e) := by
    have hk2 : k = ((n : Int) - first) * v - M * e := by omega
    rw [hk2]
    have h3 : (2 * by9 + 1) * (((n : Int) - first) * v - M * e) = ((n : Int) - first) * ((2 * by9 + 1) * v) - (2 * by9 + 1) * (M * e) := by grind
    rw [h3, hv, ← hc']
    grind
  rw [e1, Int.add_mul_emod_self_left, Int.emod_eq_of_lt (by omega) (by omega)]
  omega
theorem zw_map (f : Bool → Bool → Bool) (a b : Nat → Bool) : ∀ l : List Nat, List.zipWith f (l.map a) (l.map b) = l.map fun n => f (a n) (b n)
  | [] => rfl
  | x :: l => by rw [List.map_cons, List.map_cons, List.zipWith_cons_cons, zw_map f a b l]; rfl
theorem col_map {c : List Bool} {M : Nat} (h : c.length = M) : (List.range M).map (fun n => c.getD n false) = c := by
  refine List.ext_getElem (by simp [h]) fun i h1 h2 => ?_
  simp [List.getD_eq_getElem?_getD, h2]
noncomputable def hitF (M : Nat) (first by9 : Int) (i n : Nat) : Bool := (List.range i).any fun k => permI M first by9 k == n
theorem hit_succ (M : Nat) (first by9 : Int) (i n : Nat) : hitF M first by9 (i + 1) n = (hitF M first by9 i n || (permI M first by9 i == n)) := by
  unfold hitF
  rw [List.range_succ, List.any_append]
  simp
theorem hit_all {M : Nat} (first by9 : Int) (hM : ∃ c : Nat, M * c = 32) {n : Nat} (hn : n < M) : hitF M first by9 M n = true := by
  obtain ⟨k, hk, e⟩ := perm_onto first by9 hM n hn
  unfold hitF
  rw [List.any_eq_true]
  exact ⟨k, List.mem_range.mpr hk, by rw [e]; simp⟩
noncomputable def totC (c : List Bool) (M : Nat) (first by9 : Int) (i : Nat) : List Bool := (List.range M).map fun n => hitF M first by9 i n && c.getD n false
noncomputable def proC (c : List Bool) (M : Nat) (first by9 : Int) (i : Nat) : List Bool := (List.range M).map fun n => !(hitF M first by9 i n && !(c.getD n false))
theorem tot_len (c : List Bool) (M : Nat) (first by9 : Int) (i : Nat) : (totC c M first by9 i).length = M := by unfold totC; simp
theorem pro_len (c : List Bool) (M : Nat) (first by9 : Int) (i : Nat) : (proC c M first by9 i).length = M := by unfold proC; simp
theorem tot_zero (c : List Bool) (M : Nat) (first by9 : Int) : runsF (totC c M first by9 0) = [] := by
  refine none_runs fun b hb => ?_
  unfold totC at hb
  obtain ⟨n, _, rfl⟩ := List.mem_map.mp hb
  rfl
theorem pro_zero (c : List Bool) (M : Nat) (first by9 : Int) : proC c M first by9 0 = List.replicate M true := by
  rw [List.eq_replicate_iff]
  refine ⟨pro_len _ _ _ _ _, fun b hb => ?_⟩
  unfold proC at hb
  obtain ⟨n, _, rfl⟩ := List.mem_map.mp hb
  rfl
theorem tot_all {c : List Bool} {M : Nat} (first by9 : Int) (hM : ∃ c : Nat, M * c = 32) (h : c.length = M) : totC c M first by9 M = c := by
  refine Eq.trans ?_ (col_map h)
  unfold totC
  refine List.map_congr_left fun n hn => ?_
  rw [hit_all first by9 hM (List.mem_range.mp hn), Bool.true_and]
theorem pro_all {c : List Bool} {M : Nat} (first by9 : Int) (hM : ∃ c : Nat, M * c = 32) (h : c.length = M) : proC c M first by9 M = c := by
  refine Eq.trans ?_ (col_map h)
  unfold proC
  refine List.map_congr_left fun n hn => ?_
  rw [hit_all first by9 hM (List.mem_range.mp hn), Bool.true_and, Bool.not_not]
theorem row_col (bits n0 : Nat) : mcol (2 ^ bits - 1) n0 bits = (List.range (2 ^ bits)).map fun n => n0 == n := by
  unfold mcol
  refine List.map_congr_left fun n hn => ?_
  rw [Nat.and_two_pow_sub_one_eq_mod, Nat.mod_eq_of_lt (List.mem_range.mp hn), Bool.beq_comm]
theorem tot_step {c : List Bool} {bits : Nat} {first by9 : Int} {i : Nat} (h : c.getD (permI (2 ^ bits) first by9 i) false = true) :
    orC (totC c (2 ^ bits) first by9 i) (mcol (2 ^ bits - 1) (permI (2 ^ bits) first by9 i) bits) = totC c (2 ^ bits) first by9 (i + 1) := by
  rw [row_col]
  unfold totC orC
  rw [zw_map]
  refine List.map_congr_left fun n hn => ?_
  rw [hit_succ]
  cases e : (permI (2 ^ bits) first by9 i == n) with
  | false => simp
  | true =>
    have e' := eq_of_beq e
    rw [← e', h]; simp
theorem tot_skip {c : List Bool} {bits : Nat} {first by9 : Int} {i : Nat} (h : c.getD (permI (2 ^ bits) first by9 i) false = false) : totC c (2 ^ bits) first by9 (i + 1) = totC c (2 ^ bits) first by9 i := by
  unfold totC
  refine List.map_congr_left fun n hn => ?_
  rw [hit_succ]
  cases e : (permI (2 ^ bits) first by9 i == n) with
  | false => simp
  | true =>
    have e' := eq_of_beq e
    rw [← e', h]; simp
theorem pro_step {c : List Bool} {bits : Nat} {first by9 : Int} {i : Nat} (h : c.getD (permI (2 ^ bits) first by9 i) false = false) :
    andC (proC c (2 ^ bits) first by9 i) (notC (mcol (2 ^ bits - 1) (permI (2 ^ bits) first by9 i) bits)) = proC c (2 ^ bits) first by9 (i + 1) := by
  rw [row_col]
  unfold proC andC notC
  rw [List.map_map, zw_map]
  refine List.map_congr_left fun n hn => ?_
  rw [hit_succ]
  show (_ && !(permI (2 ^ bits) first by9 i == n)) = _
  cases e : (permI (2 ^ bits) first by9 i == n) with
  | false => simp
  | true =>
    have e' := eq_of_beq e
    rw [← e', h]; simp
theorem pro_skip {c : List Bool} {bits : Nat} {first by9 : Int} {i : Nat} (h : c.getD (permI (2 ^ bits) first by9 i) false = true) : proC c (2 ^ bits) first by9 (i + 1) = proC c (2 ^ bits) first by9 i := by
  unfold proC
  refine List.map_congr_left fun n hn => ?_
  rw [hit_succ]
  cases e : (permI (2 ^ bits) first by9 i == n) with
  | false => simp
  | true =>
    have e' := eq_of_beq e
    rw [← e', h]; simp
theorem pow_div {bits : Nat} (h : bits ≤ 5) : ∃ c : Nat, 2 ^ bits * c = 32 := ⟨2 ^ (5 - bits), by rw [← Nat.pow_add, show bits + (5 - bits) = 5 by omega]⟩
theorem perm_int {M : Nat} (first by9 : Int) (i : Nat) (hM : 1 ≤ M) : (first + (2 * by9 + 1) * (0 + (i : Int))).fmod ((M : Int) - 1 + 1) = ((permI M first by9 i : Nat) : Int) := by
  have e : (M : Int) - 1 + 1 = (M : Int) := by omega
  have h1 := Int.emod_nonneg (first + (2 * by9 + 1) * (i : Int)) (show (M : Int) ≠ 0 by omega)
  rw [e, Int.fmod_eq_emod_of_nonneg _ (by omega), Int.zero_add]
  unfold permI
  omega
end
section
open PySem PySem.W PyProof.Rows PyProof.Rows.LCg
set_option maxRecDepth 100000
set_option maxHeartbeats 8000000
theorem freshStep1 : True := by
  k_with_none
  trivial
theorem ok_i {a b : List Bool} {n : Nat} (ha : a.length = n) (hb : b.length = n) (hn : n ≤ 32) : a.length = b.length ∧ a.length ≤ 32 := ⟨ha.trans hb.symm, ha ▸ hn⟩
theorem len_n {a : List Bool} {n : Nat} (ha : a.length = n) : (notC a).length = n := (List.length_map _).trans ha
theorem len_z {f : Bool → Bool → Bool} {a b : List Bool} {n : Nat} (ha : a.length = n) (hb : b.length = n) : (List.zipWith f a b).length = n := (zw_len (ha.trans hb.symm)).trans ha

structure SD where
  kind : Nat
  one : List Bool
  two : List Bool
noncomputable def stepC (k : Nat) (a b : List Bool) : List Bool :=
  if k = 0 then andC a b else if k = 1 then orC a b else if k = 2 then lessC a b else if k = 3 then xorC a b else notC a
noncomputable abbrev stepT : ToldN SD where
  Rel := fun news vs d => ∃ v1 v2 t1 t2, vs = [Value.int (d.kind : Int) t1, v1, v2, Value.int ((d.one.length : Int) - 1) t2] ∧ DatIn news v1 (termD d.one) ∧ DatIn news v2 (termD d.two)
  Ok := fun d => d.kind < 5 ∧ d.one.length = d.two.length ∧ 1 ≤ d.one.length ∧ d.one.length ≤ 32
  size := fun _ => 16
  Tl := fun _ => True
  Out := fun news r d => DatIn news r (termD (stepC d.kind d.one d.two))
theorem term_cases {N : List (Addr × Obj)} {v : Value} {c : List Bool} (h : DatIn N v (termD c)) :
    ∃ T va vb lc n m, v = .ref T ∧ (T, ({ cls := .type "tuple", data := .seq #[va, vb, .ref lc] n } : Obj)) ∈ N ∧ DatIn N va (spD (runsF c)) ∧ DatIn N vb (spD (runsF (notC c))) ∧ (lc, listOf (c.map Value.bool).toArray m) ∈ N := by
  obtain ⟨T, _, q, e, hm, h1⟩ := tup_inv h
  obtain ⟨va, _, rfl, k1, h2⟩ := all_inv h1
  obtain ⟨vb, _, rfl, k2, h3⟩ := all_inv h2
  obtain ⟨vc, _, rfl, k3, h4⟩ := all_inv h3
  cases nil_inv h4
  obtain ⟨l, us, n, rfl, hl, hu⟩ := col_cases k3
  rw [bools_eq hu] at hl
  exact ⟨T, va, vb, l, q, n, e, hm, k1, k2, hl⟩
theorem step_fresh (w : World) (s₀ : Shared) (mg mb : Str → Option Value) (d : SD) :
    TellsAF Challenge.rw_pq1070_01.row.prog w (hd.heap_39 w.params) hd.view_39 (looseW hd.view_39 []) (ExcName.means s₀.heap) mg mb 112 stepT d := by
  unfold TellsAF
  k_fill
  intro dp un gd cn cs a ccd cl outer A₀ base h₀ L m news s vs Q E B F X N T hk hR hok hd hu hret
  obtain ⟨kind, one, two⟩ := d
  obtain ⟨v1, v2, t1, t2, hvs, hD1, hD2⟩ := hR
  dsimp only at hvs hD1 hD2
  subst hvs
  obtain ⟨T1, va1, vb1, l1, n1, m1, rfl, hT1, hA1, hB1, hC1⟩ := term_cases hD1
  obtain ⟨T2, va2, vb2, l2, n2, m2, rfl, hT2, hA2, hB2, hC2⟩ := term_cases hD2
  obtain ⟨hk5, hlen, hge, hle⟩ := hok
  dsimp only at hk5 hlen hge hle
  have hd' : dp + 16 < recursionLimit := hd
  have hu' : un + 128 < cLine := hu
  have kdM : KdMark := kdMark
  refine wpAny_call ?_
  k_dflt ktr_enter
  (k_with "call ref" => refine of_stop ?_)
  (k_with "eval ListComp" => refine of_stop ?_)
  (k_with "call type:zip" => refine of_stop ?_)
  (k_with "call type:list" => refine of_stop ?_)
  k_steps
  refine to_stop ?_
  (rename Fr _ _ _ _ => F1); (rename News _ _ _ _ => N1)
  refine zz_zip (xs := one.map Value.bool) (ys := two.map Value.bool) F1 N1 (by assumption) (by assumption) ?_
  intro z hz ZN F2 N2
  clear F1 N1
  k_steps
  refine to_stop ?_
  (rename Fr _ _ _ _ => F1); (rename News _ _ _ _ => N1)
  refine zz_make (xs := one.map Value.bool) (ys := two.map Value.bool) (by rfl) (by simp; omega) (by simp; omega) (by simp; omega) ZN F1 N1 ?_
  intro h3 tk3 c3 S as hal F3 N3 hSn hSa
  clear F1 N1 ZN
  obtain ⟨PO, ePO⟩ : ∃ PO, PO = pairsOf as (one.map Value.bool) (two.map Value.bool) := ⟨_, rfl⟩
  have apPO : ∀ q ∈ news, ∀ p ∈ PO, q.1 ≠ p.1 := by rw [ePO]; exact ap_pairs hSn hSa
  rw [← ePO] at N3
  have hal2 : as.length = one.length := by rw [hal, List.length_map]
  k_steps
  · refine to_stop ?_
    (rename Fr _ _ _ _ => F4); (rename News _ _ _ _ => N4)
    k_dflt (refine tellsF_use (sv := s) (C := meetc_fresh w s₀ mg mb (one, two)) (by assumption) F4 (by assumption) N4 (by assumption) rfl ?_ ?_ ?_ ?_ rfl ?_)
    · exact ⟨_, _, rfl, DatIn.mono (by bits_by_make) hA1, DatIn.mono (by bits_by_make) hA2⟩
    · exact ok_i rfl hlen.symm hle
    · exact room hd' (Nat.le_of_ble_eq_true rfl)
    · exact roomU hu' (Nat.le_of_ble_eq_true rfl)
    rintro r1 tl1 hp1 tkA1 FA1 NA1 hord1 _ hD1
    replace hD1 : DatIn _ _ (spD (runsF (andC one two))) := hD1
    clear F4 N4
    k_steps
    refine to_stop ?_
    (rename Fr _ _ _ _ => F4); (rename News _ _ _ _ => N4)
    k_dflt (refine tellsF_use (sv := s) (C := join_fresh w s₀ mg mb (notC one, notC two)) (by assumption) F4 (by assumption) N4 (by assumption) rfl ?_ ?_ ?_ ?_ rfl ?_)
    · exact ⟨_, _, rfl, DatIn.mono (by bits_by_make) hB1, DatIn.mono (by bits_by_make) hB2⟩
    · exact ok_i (len_n rfl) (len_n hlen.symm) hle
    · exact room hd' (Nat.le_of_ble_eq_true rfl)
    · exact roomU hu' (Nat.le_of_ble_eq_true rfl)
    rintro r2 tl2 hp2 tkA2 FA2 NA2 hord2 _ hD2
    replace hD2 : DatIn _ _ (spD (runsF (orC (notC one) (notC two)))) := hD2
    clear F4 N4
    k_steps
    rw [dm_and] at hD2
    refine to_stop ?_
    (rename Fr _ _ _ _ => F4); (rename News _ _ _ _ => N4)
    k_dflt (refine LCp.ListComp_P (F₀ := F4) (by with_unfolding_all rfl) (by decide) (by rfl) (by decide) (by rfl) (by rfl) (by decide) ?_)
    k_steps
    refine to_stop ?_
    (rename Fr _ _ _ _ => F5); (rename News _ _ _ _ => N5)
    refine LCp.SrcLP.ledger (its := (as.map Value.ref).toArray) (k := c3) (by rfl) F5 N5 (by k_memK) (by rw [sizeLine_eq]; simp only [List.size_toArray, List.length_map]; omega) fun g9 => comp_pairs (a := one) (b := two) (.inr ⟨_, by k_memK, rfl, _, rfl⟩) hal2 hlen.symm (by rw [← ePO]; bits_by_make) (fun p q => p && q) ?g1 ?g2
    case g1 =>
      intro p q I oI C oC D oD m₂ h tk Q' E' hC hx hx₂ F6 N6 hQ
      clear F5 N5
      cases p <;> cases q <;> repeat (first | exact hQ _ | walk1)
    case g2 =>
      unfold FinE
      intro D h9 tk9 F6 N6 ho6
      clear F5 N5
      k_steps
      (rename Fr _ _ _ _ => F9); (rename News _ _ _ _ => N9)
      have ek : kind = 0 := by omega
      subst ek
      (rename (_ ∧ AllLt _ _) => hTl)
      refine hret _ ((_, ({ cls := .type "tuple", data := .seq #[r1, r2, Value.ref D] } : Obj)) :: (D, lst ((List.zipWith (fun p q => p && q) one two).map Value.bool)) :: (S, listOf (as.map Value.ref).toArray c3) :: (PO ++ (tl1 ++ (tl2)))) _ _ F9 (news_sub N9 (by bits_by_make)) (ap_cons (ap_one (allLt_mem hTl.2) (by bits_by_make)) (ap_cons (ap_off ho6 (by bits_by_make)) (ap_cons (fun q hq => Nat.ne_of_lt (hSn q hq)) (ap_app apPO (ap_app (ap_lt hord1 (by bits_by_make)) (ap_lt hord2 (by bits_by_make))))))) trivial ?_
      show DatIn _ _ (termD (andC one two))
      exact DatIn.tuple (vs := [r1, r2, Value.ref D]) (.head _) (.cons (DatIn.mono (by bits_by_make) hD1) (.cons (DatIn.mono (by bits_by_make) hD2) (.cons (DatIn.list (vs := (List.zipWith (fun p q => p && q) one two).map Value.bool) (.tail _ (.head _)) (bools_all _)) .nil)))
  · refine to_stop ?_
    (rename Fr _ _ _ _ => F4); (rename News _ _ _ _ => N4)
    k_dflt (refine tellsF_use (sv := s) (C := join_fresh w s₀ mg mb (one, two)) (by assumption) F4 (by assumption) N4 (by assumption) rfl ?_ ?_ ?_ ?_ rfl ?_)
    · exact ⟨_, _, rfl, DatIn.mono (by bits_by_make) hA1, DatIn.mono (by bits_by_make) hA2⟩
    · exact ok_i rfl hlen.symm hle
    · exact room hd' (Nat.le_of_ble_eq_true rfl)
    · exact roomU hu' (Nat.le_of_ble_eq_true rfl)
    rintro r1 tl1 hp1 tkA1 FA1 NA1 hord1 _ hD1
    replace hD1 : DatIn _ _ (spD (runsF (orC one two))) := hD1
    clear F4 N4
    k_steps
    refine to_stop ?_
    (rename Fr _ _ _ _ => F4); (rename News _ _ _ _ => N4)
    k_dflt (refine tellsF_use (sv := s) (C := meetc_fresh w s₀ mg mb (notC one, notC two)) (by assumption) F4 (by assumption) N4 (by assumption) rfl ?_ ?_ ?_ ?_ rfl ?_)
    · exact ⟨_, _, rfl, DatIn.mono (by bits_by_make) hB1, DatIn.mono (by bits_by_make) hB2⟩
    · exact ok_i (len_n rfl) (len_n hlen.symm) hle
    · exact room hd' (Nat.le_of_ble_eq_true rfl)
    · exact roomU hu' (Nat.le_of_ble_eq_true rfl)
    rintro r2 tl2 hp2 tkA2 FA2 NA2 hord2 _ hD2
    replace hD2 : DatIn _ _ (spD (runsF (andC (notC one) (notC two)))) := hD2
    clear F4 N4
    k_steps
    rw [dm_or] at hD2
    refine to_stop ?_
    (rename Fr _ _ _ _ => F4); (rename News _ _ _ _ => N4)
    k_dflt (refine LCp.ListComp_P (F₀ := F4) (by with_unfolding_all rfl) (by decide) (by rfl) (by decide) (by rfl) (by rfl) (by decide) ?_)
    k_steps
    refine to_stop ?_
    (rename Fr _ _ _ _ => F5); (rename News _ _ _ _ => N5)
    refine LCp.SrcLP.ledger (its := (as.map Value.ref).toArray) (k := c3) (by rfl) F5 N5 (by k_memK) (by rw [sizeLine_eq]; simp only [List.size_toArray, List.length_map]; omega) fun g9 => comp_pairs (a := one) (b := two) (.inr ⟨_, by k_memK, rfl, _, rfl⟩) hal2 hlen.symm (by rw [← ePO]; bits_by_make) (fun p q => p || q) ?g1 ?g2
    case g1 =>
      intro p q I oI C oC D oD m₂ h tk Q' E' hC hx hx₂ F6 N6 hQ
      clear F5 N5
      cases p <;> cases q <;> repeat (first | exact hQ _ | walk1)
    case g2 =>
      unfold FinE
      intro D h9 tk9 F6 N6 ho6
      clear F5 N5
      k_steps
      (rename Fr _ _ _ _ => F9); (rename News _ _ _ _ => N9)
      have ek : kind = 1 := by omega
      subst ek
      (rename (_ ∧ AllLt _ _) => hTl)
      refine hret _ ((_, ({ cls := .type "tuple", data := .seq #[r1, r2, Value.ref D] } : Obj)) :: (D, lst ((List.zipWith (fun p q => p || q) one two).map Value.bool)) :: (S, listOf (as.map Value.ref).toArray c3) :: (PO ++ (tl1 ++ (tl2)))) _ _ F9 (news_sub N9 (by bits_by_make)) (ap_cons (ap_one (allLt_mem hTl.2) (by bits_by_make)) (ap_cons (ap_off ho6 (by bits_by_make)) (ap_cons (fun q hq => Nat.ne_of_lt (hSn q hq)) (ap_app apPO (ap_app (ap_lt hord1 (by bits_by_make)) (ap_lt hord2 (by bits_by_make))))))) trivial ?_
      show DatIn _ _ (termD (orC one two))
      exact DatIn.tuple (vs := [r1, r2, Value.ref D]) (.head _) (.cons (DatIn.mono (by bits_by_make) hD1) (.cons (DatIn.mono (by bits_by_make) hD2) (.cons (DatIn.list (vs := (List.zipWith (fun p q => p || q) one two).map Value.bool) (.tail _ (.head _)) (bools_all _)) .nil)))
  · refine to_stop ?_
    (rename Fr _ _ _ _ => F4); (rename News _ _ _ _ => N4)
    k_dflt (refine tellsF_use (sv := s) (C := minusc_fresh w s₀ mg mb (one, two)) (by assumption) F4 (by assumption) N4 (by assumption) rfl ?_ ?_ ?_ ?_ rfl ?_)
    · exact ⟨_, _, rfl, DatIn.mono (by bits_by_make) hA1, DatIn.mono (by bits_by_make) hA2⟩
    · exact ok_i rfl hlen.symm hle
    · exact room hd' (Nat.le_of_ble_eq_true rfl)
    · exact roomU hu' (Nat.le_of_ble_eq_true rfl)
    rintro r1 tl1 hp1 tkA1 FA1 NA1 hord1 _ hD1
    replace hD1 : DatIn _ _ (spD (runsF (lessC one two))) := hD1
    clear F4 N4
    k_steps
    refine to_stop ?_
    (rename Fr _ _ _ _ => F4); (rename News _ _ _ _ => N4)
    k_dflt (refine tellsF_use (sv := s) (C := join_fresh w s₀ mg mb (notC one, two)) (by assumption) F4 (by assumption) N4 (by assumption) rfl ?_ ?_ ?_ ?_ rfl ?_)
    · exact ⟨_, _, rfl, DatIn.mono (by bits_by_make) hB1, DatIn.mono (by bits_by_make) hA2⟩
    · exact ok_i (len_n rfl) hlen.symm hle
    · exact room hd' (Nat.le_of_ble_eq_true rfl)
    · exact roomU hu' (Nat.le_of_ble_eq_true rfl)
    rintro r2 tl2 hp2 tkA2 FA2 NA2 hord2 _ hD2
    replace hD2 : DatIn _ _ (spD (runsF (orC (notC one) two))) := hD2
    clear F4 N4
    k_steps
    rw [dm_less] at hD2
    refine to_stop ?_
    (rename Fr _ _ _ _ => F4); (rename News _ _ _ _ => N4)
    k_dflt (refine LCp.ListComp_P (F₀ := F4) (by with_unfolding_all rfl) (by decide) (by rfl) (by decide) (by rfl) (by rfl) (by decide) ?_)
    k_steps
    refine to_stop ?_
    (rename Fr _ _ _ _ => F5); (rename News _ _ _ _ => N5)
    refine LCp.SrcLP.ledger (its := (as.map Value.ref).toArray) (k := c3) (by rfl) F5 N5 (by k_memK) (by rw [sizeLine_eq]; simp only [List.size_toArray, List.length_map]; omega) fun g9 => comp_pairs (a := one) (b := two) (.inr ⟨_, by k_memK, rfl, _, rfl⟩) hal2 hlen.symm (by rw [← ePO]; bits_by_make) (fun p q => p && !q) ?g1 ?g2
    case g1 =>
      intro p q I oI C oC D oD m₂ h tk Q' E' hC hx hx₂ F6 N6 hQ
      clear F5 N5
      cases p <;> cases q <;> repeat (first | exact hQ _ | walk1)
    case g2 =>
      unfold FinE
      intro D h9 tk9 F6 N6 ho6
      clear F5 N5
      k_steps
      (rename Fr _ _ _ _ => F9); (rename News _ _ _ _ => N9)
      have ek : kind = 2 := by omega
      subst ek
      (rename (_ ∧ AllLt _ _) => hTl)
      refine hret _ ((_, ({ cls := .type "tuple", data := .seq #[r1, r2, Value.ref D] } : Obj)) :: (D, lst ((List.zipWith (fun p q => p && !q) one two).map Value.bool)) :: (S, listOf (as.map Value.ref).toArray c3) :: (PO ++ (tl1 ++ (tl2)))) _ _ F9 (news_sub N9 (by bits_by_make)) (ap_cons (ap_one (allLt_mem hTl.2) (by bits_by_make)) (ap_cons (ap_off ho6 (by bits_by_make)) (ap_cons (fun q hq => Nat.ne_of_lt (hSn q hq)) (ap_app apPO (ap_app (ap_lt hord1 (by bits_by_make)) (ap_lt hord2 (by bits_by_make))))))) trivial ?_
      show DatIn _ _ (termD (lessC one two))
      exact DatIn.tuple (vs := [r1, r2, Value.ref D]) (.head _) (.cons (DatIn.mono (by bits_by_make) hD1) (.cons (DatIn.mono (by bits_by_make) hD2) (.cons (DatIn.list (vs := (List.zipWith (fun p q => p && !q) one two).map Value.bool) (.tail _ (.head _)) (bools_all _)) .nil)))
  · refine to_stop ?_
    (rename Fr _ _ _ _ => F4); (rename News _ _ _ _ => N4)
    k_dflt (refine tellsF_use (sv := s) (C := minusc_fresh w s₀ mg mb (one, two)) (by assumption) F4 (by assumption) N4 (by assumption) rfl ?_ ?_ ?_ ?_ rfl ?_)
    · exact ⟨_, _, rfl, DatIn.mono (by bits_by_make) hA1, DatIn.mono (by bits_by_make) hA2⟩
    · exact ok_i rfl hlen.symm hle
    · exact room hd' (Nat.le_of_ble_eq_true rfl)
    · exact roomU hu' (Nat.le_of_ble_eq_true rfl)
    rintro r1 tl1 hp1 tkA1 FA1 NA1 hord1 _ hD1
    replace hD1 : DatIn _ _ (spD (runsF (lessC one two))) := hD1
    clear F4 N4
    k_steps
    refine to_stop ?_
    (rename Fr _ _ _ _ => F4); (rename News _ _ _ _ => N4)
    k_dflt (refine tellsF_use (sv := s) (C := minusc_fresh w s₀ mg mb (two, one)) (by assumption) F4 (by assumption) N4 (by assumption) rfl ?_ ?_ ?_ ?_ rfl ?_)
    · exact ⟨_, _, rfl, DatIn.mono (by bits_by_make) hA2, DatIn.mono (by bits_by_make) hA1⟩
    · exact ok_i hlen.symm rfl hle
    · exact room hd' (Nat.le_of_ble_eq_true rfl)
    · exact roomU hu' (Nat.le_of_ble_eq_true rfl)
    rintro r2 tl2 hp2 tkA2 FA2 NA2 hord2 _ hD2
    replace hD2 : DatIn _ _ (spD (runsF (lessC two one))) := hD2
    clear F4 N4
    k_steps
    refine to_stop ?_
    (rename Fr _ _ _ _ => F4); (rename News _ _ _ _ => N4)
    k_dflt (refine tellsF_use (sv := s) (C := join_fresh w s₀ mg mb (lessC one two, lessC two one)) (by assumption) F4 (by assumption) N4 (by assumption) rfl ?_ ?_ ?_ ?_ rfl ?_)
    · exact ⟨_, _, rfl, DatIn.mono (by bits_by_make) hD1, DatIn.mono (by bits_by_make) hD2⟩
    · exact ok_i (len_z rfl hlen.symm) (len_z hlen.symm rfl) hle
    · exact room hd' (Nat.le_of_ble_eq_true rfl)
    · exact roomU hu' (Nat.le_of_ble_eq_true rfl)
    rintro r3 tl3 hp3 tkA3 FA3 NA3 hord3 _ hD3
    replace hD3 : DatIn _ _ (spD (runsF (orC (lessC one two) (lessC two one)))) := hD3
    clear F4 N4
    k_steps
    refine to_stop ?_
    (rename Fr _ _ _ _ => F4); (rename News _ _ _ _ => N4)
    k_dflt (refine tellsF_use (sv := s) (C := join_fresh w s₀ mg mb (notC one, two)) (by assumption) F4 (by assumption) N4 (by assumption) rfl ?_ ?_ ?_ ?_ rfl ?_)
    · exact ⟨_, _, rfl, DatIn.mono (by bits_by_make) hB1, DatIn.mono (by bits_by_make) hA2⟩
    · exact ok_i (len_n rfl) hlen.symm hle
    · exact room hd' (Nat.le_of_ble_eq_true rfl)
    · exact roomU hu' (Nat.le_of_ble_eq_true rfl)
    rintro r4 tl4 hp4 tkA4 FA4 NA4 hord4 _ hD4
    replace hD4 : DatIn _ _ (spD (runsF (orC (notC one) two))) := hD4
    clear F4 N4
    k_steps
    refine to_stop ?_
    (rename Fr _ _ _ _ => F4); (rename News _ _ _ _ => N4)
    k_dflt (refine tellsF_use (sv := s) (C := join_fresh w s₀ mg mb (one, notC two)) (by assumption) F4 (by assumption) N4 (by assumption) rfl ?_ ?_ ?_ ?_ rfl ?_)
    · exact ⟨_, _, rfl, DatIn.mono (by bits_by_make) hA1, DatIn.mono (by bits_by_make) hB2⟩
    · exact ok_i rfl (len_n hlen.symm) hle
    · exact room hd' (Nat.le_of_ble_eq_true rfl)
    · exact roomU hu' (Nat.le_of_ble_eq_true rfl)
    rintro r5 tl5 hp5 tkA5 FA5 NA5 hord5 _ hD5
    replace hD5 : DatIn _ _ (spD (runsF (orC one (notC two)))) := hD5
    clear F4 N4
    k_steps
    refine to_stop ?_
    (rename Fr _ _ _ _ => F4); (rename News _ _ _ _ => N4)
    k_dflt (refine tellsF_use (sv := s) (C := meetc_fresh w s₀ mg mb (orC (notC one) two, orC one (notC two))) (by assumption) F4 (by assumption) N4 (by assumption) rfl ?_ ?_ ?_ ?_ rfl ?_)
    · exact ⟨_, _, rfl, DatIn.mono (by bits_by_make) hD4, DatIn.mono (by bits_by_make) hD5⟩
    · exact ok_i (len_z (len_n rfl) hlen.symm) (len_z rfl (len_n hlen.symm)) hle
    · exact room hd' (Nat.le_of_ble_eq_true rfl)
    · exact roomU hu' (Nat.le_of_ble_eq_true rfl)
    rintro r6 tl6 hp6 tkA6 FA6 NA6 hord6 _ hD6
    replace hD6 : DatIn _ _ (spD (runsF (andC (orC (notC one) two) (orC one (notC two))))) := hD6
    clear F4 N4
    k_steps
    rw [dm_xor] at hD3
    rw [dm_alike] at hD6
    refine to_stop ?_
    (rename Fr _ _ _ _ => F4); (rename News _ _ _ _ => N4)
    k_dflt (refine LCp.ListComp_P (F₀ := F4) (by with_unfolding_all rfl) (by decide) (by rfl) (by decide) (by rfl) (by rfl) (by decide) ?_)
    k_steps
    refine to_stop ?_
    (rename Fr _ _ _ _ => F5); (rename News _ _ _ _ => N5)
    refine LCp.SrcLP.ledger (its := (as.map Value.ref).toArray) (k := c3) (by rfl) F5 N5 (by k_memK) (by rw [sizeLine_eq]; simp only [List.size_toArray, List.length_map]; omega) fun g9 => comp_pairs (a := one) (b := two) (.inr ⟨_, by k_memK, rfl, _, rfl⟩) hal2 hlen.symm (by rw [← ePO]; bits_by_make) (fun p q => p != q) ?g1 ?g2
    case g1 =>
      intro p q I oI C oC D oD m₂ h tk Q' E' hC hx hx₂ F6 N6 hQ
      clear F5 N5
      cases p <;> cases q <;> repeat (first | exact hQ _ | walk1)
    case g2 =>
      unfold FinE
      intro D h9 tk9 F6 N6 ho6
      clear F5 N5
      k_steps
      (rename Fr _ _ _ _ => F9); (rename News _ _ _ _ => N9)
      have ek : kind = 3 := by omega
      subst ek
      (rename (_ ∧ AllLt _ _) => hTl)
      refine hret _ ((_, ({ cls := .type "tuple", data := .seq #[r3, r6, Value.ref D] } : Obj)) :: (D, lst ((List.zipWith (fun p q => p != q) one two).map Value.bool)) :: (S, listOf (as.map Value.ref).toArray c3) :: (PO ++ (tl1 ++ (tl2 ++ (tl3 ++ (tl4 ++ (tl5 ++ (tl6)))))))) _ _ F9 (news_sub N9 (by bits_by_make)) (ap_cons (ap_one (allLt_mem hTl.2) (by bits_by_make)) (ap_cons (ap_off ho6 (by bits_by_make)) (ap_cons (fun q hq => Nat.ne_of_lt (hSn q hq)) (ap_app apPO (ap_app (ap_lt hord1 (by bits_by_make)) (ap_app (ap_lt hord2 (by bits_by_make)) (ap_app (ap_lt hord3 (by bits_by_make)) (ap_app (ap_lt hord4 (by bits_by_make)) (ap_app (ap_lt hord5 (by bits_by_make)) (ap_lt hord6 (by bits_by_make))))))))))) trivial ?_
      show DatIn _ _ (termD (xorC one two))
      exact DatIn.tuple (vs := [r3, r6, Value.ref D]) (.head _) (.cons (DatIn.mono (by bits_by_make) hD3) (.cons (DatIn.mono (by bits_by_make) hD6) (.cons (DatIn.list (vs := (List.zipWith (fun p q => p != q) one two).map Value.bool) (.tail _ (.head _)) (bools_all _)) .nil)))
  · refine to_stop ?_
    (rename Fr _ _ _ _ => F4); (rename News _ _ _ _ => N4)
    k_dflt (refine tellsF_use (sv := s) (C := flip_fresh w s₀ mg mb (one)) (by assumption) F4 (by assumption) N4 (by assumption) rfl ?_ ?_ ?_ ?_ rfl ?_)
    · exact flip_rel (by first | rfl | simp only [notC, List.length_map]) (DatIn.mono (by bits_by_make) hA1)
    · exact ⟨by (try simp only [notC, List.length_map]); omega, by (try simp only [notC, List.length_map]); omega⟩
    · exact room hd' (Nat.le_of_ble_eq_true rfl)
    · exact roomU hu' (Nat.le_of_ble_eq_true rfl)
    rintro r1 tl1 hp1 tkA1 FA1 NA1 hord1 _ hD1
    replace hD1 : DatIn _ _ (spD (runsF (notC (one)))) := hD1
    clear F4 N4
    k_steps
    refine to_stop ?_
    (rename Fr _ _ _ _ => F4); (rename News _ _ _ _ => N4)
    k_dflt (refine tellsF_use (sv := s) (C := flip_fresh w s₀ mg mb (notC one)) (by assumption) F4 (by assumption) N4 (by assumption) rfl ?_ ?_ ?_ ?_ rfl ?_)
    · exact flip_rel (by first | rfl | simp only [notC, List.length_map]) (DatIn.mono (by bits_by_make) hB1)
    · exact ⟨by (try simp only [notC, List.length_map]); omega, by (try simp only [notC, List.length_map]); omega⟩
    · exact room hd' (Nat.le_of_ble_eq_true rfl)
    · exact roomU hu' (Nat.le_of_ble_eq_true rfl)
    rintro r2 tl2 hp2 tkA2 FA2 NA2 hord2 _ hD2
    replace hD2 : DatIn _ _ (spD (runsF (notC (notC one)))) := hD2
    clear F4 N4
    k_steps
    refine to_stop ?_
    (rename Fr _ _ _ _ => F4); (rename News _ _ _ _ => N4)
    k_dflt (refine LCg.ListComp_U (F₀ := F4) (by with_unfolding_all rfl) (by decide) (by rfl) (by decide) (by rfl) ?_)
    k_steps
    refine to_stop ?_
    (rename Fr _ _ _ _ => F5); (rename News _ _ _ _ => N5)
    refine CompSrc.ledger (its := (one.map Value.bool).toArray) (k := m1) (by rfl) F5 N5 (by k_memK) (by rw [sizeLine_eq]; simp only [List.size_toArray, List.length_map]; omega) fun g9 => comp_bools (a := one) (.inr ⟨_, by k_memK, rfl, _, rfl⟩) (fun p => !p) ?g1 ?g2
    case g1 =>
      intro p I oI C oC D oD m₂ h tk Q' E' hC hx F6 N6 hQ
      clear F5 N5
      cases p <;> repeat (first | exact hQ _ | walk1)
    case g2 =>
      unfold FinE
      intro D h9 tk9 F6 N6 ho6
      clear F5 N5
      k_steps
      (rename Fr _ _ _ _ => F9); (rename News _ _ _ _ => N9)
      have ek : kind = 4 := by omega
      subst ek
      (rename (_ ∧ AllLt _ _) => hTl)
      refine hret _ ((_, ({ cls := .type "tuple", data := .seq #[r1, r2, Value.ref D] } : Obj)) :: (D, lst ((one.map (fun p => !p)).map Value.bool)) :: (S, listOf (as.map Value.ref).toArray c3) :: (PO ++ (tl1 ++ (tl2)))) _ _ F9 (news_sub N9 (by bits_by_make)) (ap_cons (ap_one (allLt_mem hTl.2) (by bits_by_make)) (ap_cons (ap_off ho6 (by bits_by_make)) (ap_cons (fun q hq => Nat.ne_of_lt (hSn q hq)) (ap_app apPO (ap_app (ap_lt hord1 (by bits_by_make)) (ap_lt hord2 (by bits_by_make))))))) trivial ?_
      show DatIn _ _ (termD (notC one))
      exact DatIn.tuple (vs := [r1, r2, Value.ref D]) (.head _) (.cons (DatIn.mono (by bits_by_make) hD1) (.cons (DatIn.mono (by bits_by_make) hD2) (.cons (DatIn.list (vs := (one.map (fun p => !p)).map Value.bool) (.tail _ (.head _)) (bools_all _)) .nil)))
end
section
open PySem PySem.W PyProof.Rows PyProof.Rows.LCg
set_option maxRecDepth 100000
set_option maxHeartbeats 8000000
theorem freshForms1 : True := by
  k_with_none
  trivial
structure FD where
  c : List Bool
  bits : Nat
  first : Int
  by9 : Int
noncomputable abbrev formT : ToldN FD where
  Rel := fun news vs d => ∃ vc t1 t2 t3, vs = [vc, Value.int (d.bits : Int) t1, Value.int d.first t2, Value.int d.by9 t3] ∧ DatIn news vc (colD d.c)
  Ok := fun d => (2 ≤ d.bits ∧ d.bits ≤ 5) ∧ d.c.length = 2 ^ d.bits
  size := fun _ => 16
  Tl := fun _ => True
  Out := fun news r d => DatIn news r (.tuple [spD (runsF d.c), spD (runsF d.c)])
theorem hd_ex3 {h₀ h : Heap} {L l k j : Addr} {o o' o'' : Obj} {news : List (Addr × Obj)} (_N : News h₀ L h ((l, o) :: (k, o') :: (j, o'') :: news)) : ∃ x, x = j := ⟨_, rfl⟩
theorem hd_ob2 {h₀ h : Heap} {L l k : Addr} {o o' : Obj} {news : List (Addr × Obj)} (_N : News h₀ L h ((l, o) :: (k, o') :: news)) : ∃ x, x = o' := ⟨_, rfl⟩
theorem apI {n a b c d : List (Addr × Obj)} {I : Addr} (h0 : ∀ p ∈ n ++ a, p.1 ≠ I) (h1 : ∀ p ∈ b, p.1 ≠ I) (h2 : ∀ p ∈ c, p.1 ≠ I) (h3 : ∀ p ∈ d, p.1 ≠ I) : ∀ p ∈ n ++ (a ++ (b ++ (c ++ d))), p.1 ≠ I := by
  intro p hp
  rcases List.mem_append.mp hp with h | h
  · exact h0 p (List.mem_append_left _ h)
  · rcases List.mem_append.mp h with h | h
    · exact h0 p (List.mem_append_right _ h)
    · rcases List.mem_append.mp h with h | h
      · exact h1 p h
      · exact (List.mem_append.mp h).elim (h2 p) (h3 p)
theorem nil_I {I : Addr} : ∀ p ∈ ([] : List (Addr × Obj)), p.1 ≠ I := fun _ h => nomatch h
theorem apI2 {n a b c : List (Addr × Obj)} {I : Addr} (h0 : ∀ p ∈ n ++ a, p.1 ≠ I) (h1 : ∀ p ∈ b, p.1 ≠ I) (h2 : ∀ p ∈ c, p.1 ≠ I) : ∀ p ∈ n ++ (a ++ (b ++ c)), p.1 ≠ I := by
  have := apI (d := []) h0 h1 h2 nil_I
  rw [List.append_nil] at this
  exact this
structure GS where
  tv : Value
  pv : Value
  tl : List (Addr × Obj)
  tt : Tok
theorem form_tells (w : World) (s₀ : Shared) (mg mb : Str → Option Value) (d : FD) :
    TellsA Challenge.rw_pq1070_01.row.prog w (hd.heap_39 w.params) hd.view_39 (looseW hd.view_39 []) (ExcName.means s₀.heap) mg mb 119 formT d := by
  unfold TellsA
  k_fill
  intro dp un gd cn cs a ccd cl outer A₀ base h₀ L m news s vs Q E B F X N T hk hR hok hd hu hret
  obtain ⟨c, bits, first, by9⟩ := d
  obtain ⟨vc, t1, t2, t3, hvs, hD⟩ := hR
  dsimp only at hvs hD
  subst hvs
  obtain ⟨lc, us, nc, rfl, hmc, hdc⟩ := col_cases hD
  have eus := bools_eq hdc
  subst eus
  obtain ⟨⟨hb2, hb5⟩, hlen⟩ := hok
  dsimp only at hb2 hb5 hlen
  have hd' : dp + 16 < recursionLimit := hd
  have hu' : un + 128 < cLine := hu
  have hpow : 2 ^ bits ≤ 32 := Nat.le_trans (Nat.pow_le_pow_right (by decide) hb5) (by decide)
  have kdM : KdMark := kdMark
  refine wpAny_call ?_
  k_dflt ktr_enter
  (k_with "exec For Name Call cons nil" => (rename Fr _ _ _ _ => lF'); (with_unfolding_all refine' For_turns lF' ?_))
  (k_with "pyIter ref" => refine of_stop ?_)
  (k_with "call ref" => refine of_stop ?_)
  (k_with "subscriptTail Name Name ref int" => refine of_stop ?_)
  k_steps
  refine to_stop ?_
  (rename IsRange _ _ _ _ _ _ _ _ => R1); (rename Fr _ _ _ _ => F1); (rename News _ _ _ _ => N1)
  have ebits : ((bits : Int)).toNat = bits := by omega
  obtain ⟨M, eM⟩ : ∃ M, M = 2 ^ bits := ⟨_, rfl⟩
  have e2 : (2 : Int) ^ ((bits : Int)).toNat = (M : Int) := by rw [ebits, eM, kbt_cast]
  have hM1 : 1 ≤ M := by rw [eM]; exact Nat.two_pow_pos bits
  have hM32 : M ≤ 32 := by rw [eM]; exact hpow
  rw [e2, show (M : Int) - 1 + 1 = (M : Int) by omega] at R1
  rw [e2] at F1 N1
  obtain ⟨lp, elp⟩ := hd_ex N1
  subst elp
  obtain ⟨Dp, eDp⟩ := hd_ex2 N1
  subst eDp
  obtain ⟨lt, elt⟩ := hd_ex3 N1
  subst elt
  have hlp : Dp < lp ∧ lt < lp ∧ AllLt lp news := by assumption
  have hDp : lt < Dp ∧ AllLt Dp news := by assumption
  have hlt : ∀ p ∈ news, p.1 < lt := by assumption
  obtain ⟨oD, eoD⟩ := hd_ob2 N1
  rw [← eoD] at N1
  with_unfolding_all
    refine' for_range2 (sv0 := s) (σ := GS) (n := M) (fun c => news ++ c.tl)
        (fun c => [(Str.ofString "bits", Value.int (bits : Int) t1), (Str.ofString "column", Value.ref lc), (Str.ofString "first", Value.int first t2), (Str.ofString "by", Value.int by9 t3), (Str.ofString "top", Value.int ((M : Int) - 1) c.tt), (Str.ofString "total", c.tv), (Str.ofString "product", c.pv)])
        (fun i st => DatIn (news ++ st.tl) st.tv (spD (runsF (totC c M first by9 i))) ∧ DatIn (news ++ st.tl) st.pv (spD (runsF (proC c M first by9 i))) ∧ (∀ q ∈ news, ∀ p ∈ st.tl, q.1 ≠ p.1))
        ⟨.ref lt, .ref lp, [(lp, W.listOf #[Value.ref Dp] 0), (Dp, oD), (lt, W.listOf #[] 0)], _⟩ R1 ?hsm ?hrs F1 ?kn ?kk ?kp ?turn ?done
  case hsm => exact small_one (by omega) (by omega) (by omega) (by omega)
  case hrs => first | exact rangeSize_nat _ _ | rfl
  case kk => kst_all
  case kn => exact news_sub N1 (by bits_by_make)
  case kp =>
    refine ⟨?_, ?_, ?_⟩
    · rw [tot_zero]
      exact DatIn.list (vs := []) (List.mem_append_right _ (.tail _ (.tail _ (.head _)))) .nil
    · obtain ⟨M', rfl⟩ : ∃ M', M = M' + 1 := ⟨M - 1, by omega⟩
      rw [pro_zero, rep_col]
      subst eoD
      refine DatIn.list (vs := [.ref Dp]) (List.mem_append_right _ (.head _)) (.cons (DatIn.tuple (vs := [.int 0 _, .int _ _]) (List.mem_append_right _ (.tail _ (.head _))) (.cons (.int _ _) (.cons ?_ .nil))) .nil)
      have e7 : ((M' + 1 : Nat) : Int) - 1 = (M' : Int) := by omega
      rw [e7]
      exact .int _ _
    · exact ap_cons (fun q hq => Nat.ne_of_lt (allLt_mem hlp.2.2 q hq)) (ap_cons (fun q hq => Nat.ne_of_lt (allLt_mem hDp.2 q hq)) (ap_cons (fun q hq => Nat.ne_of_lt (hlt q hq)) ap_nil))
  case turn =>
    rintro i t ⟨tv, pv, tl, tt⟩ u1 sv I oI PQ hi ⟨hDt, hDp, hap⟩ hns hoff F3 N3 hPQ
    dsimp only at hDt hDp hap hoff F3 N3
    clear F1 N1 R1
    have en := perm_int first by9 i hM1
    obtain ⟨n0, en0⟩ : ∃ n0, n0 = permI M first by9 i := ⟨_, rfl⟩
    have hn0 : n0 < M := by rw [en0]; exact perm_lt first by9 i hM1
    rw [← en0] at en
    have s1 : c.getD n0 false = true → orC (totC c M first by9 i) (mcol (2 ^ bits - 1) n0 bits) = totC c M first by9 (i + 1) := by rw [en0, eM]; exact tot_step
    have s2 : c.getD n0 false = true → proC c M first by9 (i + 1) = proC c M first by9 i := by rw [en0, eM]; exact pro_skip
    have s3 : c.getD n0 false = false → totC c M first by9 (i + 1) = totC c M first by9 i := by rw [en0, eM]; exact tot_skip
    have s4 : c.getD n0 false = false → andC (proC c M first by9 i) (notC (mcol (2 ^ bits - 1) n0 bits)) = proC c M first by9 (i + 1) := by rw [en0, eM]; exact pro_step
    have hrow : (mcol (2 ^ bits - 1) n0 bits).length = M := by rw [mcol_len, eM]
    have etop : (M : Int) - 1 = ((2 ^ bits - 1 : Nat) : Int) := by rw [← eM]; omega
    have hmk : 2 ^ bits - 1 < 64 := by rw [← eM]; omega
    k_steps
    refine to_stop ?_
    (rename Fr _ _ _ _ => F4); (rename News _ _ _ _ => N4)
    rw [en] at F4 ⊢
    k_dflt (refine tellsM_use (sv := sv) (C := mask_tells w s₀ mg mb ⟨2 ^ bits - 1, n0, bits, 1⟩) (by assumption) F4 (by assumption) N4 (by assumption) rfl ?_ ?_ ?_ ?_ rfl ?_)
    · exact mask_rel etop rfl rfl rfl
    · exact ⟨⟨hb2, hb5⟩, hmk, Nat.lt_of_lt_of_le hn0 (Nat.le_trans hM32 (by decide)), .inr ⟨rfl, rfl⟩⟩
    · exact room hd' (Nat.le_of_ble_eq_true rfl)
    · exact roomU hu' (Nat.le_of_ble_eq_true rfl)
    rintro r1 tl1 hp1 tkA FA NA hord1 _ hD1
    replace hD1 : DatIn _ _ (spD (runsF (mcol (2 ^ bits - 1) n0 bits))) := hD1
    clear F4 N4
    k_steps
    refine to_stop ?_
    (rename Fr _ _ _ _ => F4); (rename News _ _ _ _ => N4)
    refine col_item (c := c) (n := nc) N4 (by k_memK) (by omega) (by omega) (by omega) ?_
    rw [show ((n0 : Int)).toNat = n0 by omega]
    cases hb : c.getD n0 false with
    | true =>
      k_steps
      refine to_stop ?_
      (rename Fr _ _ _ _ => F4); (rename News _ _ _ _ => N4)
      k_dflt (refine tellsM_use (sv := sv) (C := join_tells w s₀ mg mb (totC c M first by9 i, mcol (2 ^ bits - 1) n0 bits)) (by assumption) F4 (by assumption) N4 (by assumption) rfl ?_ ?_ ?_ ?_ rfl ?_)
      · exact ⟨_, _, rfl, DatIn.mono (by bits_by_make) hDt, DatIn.mono (by bits_by_make) hD1⟩
      · exact ⟨by dsimp only; rw [tot_len, hrow], by dsimp only; rw [tot_len]; exact hM32⟩
      · exact room hd' (Nat.le_of_ble_eq_true rfl)
      · exact roomU hu' (Nat.le_of_ble_eq_true rfl)
      rintro r2 tl2 hp2 tkB FB NB hord2 _ hD2
      replace hD2 : DatIn _ _ (spD (runsF (orC (totC c M first by9 i) (mcol (2 ^ bits - 1) n0 bits)))) := hD2
      rw [s1 hb] at hD2
      clear F4 N4
      k_steps
      (rename Fr _ _ _ _ => F9); (rename News _ _ _ _ => N9)
      refine hPQ _ _ ⟨⟨r2, pv, tl ++ (tl1 ++ tl2), tt⟩, _, _, _, _, rfl, F9, N9, by bits_by_make, List.mem_append_left _ (List.mem_append_left _ (.head _)), ?_, by kst_all, ⟨DatIn.drop (I := I) hns (DatIn.mono (by bits_by_make) hD2), ?_, ap_app hap (ap_app (ap_lt hord1 (by bits_by_make)) (ap_lt hord2 (by bits_by_make)))⟩⟩
      · exact apI2 hoff (fun p h => Nat.ne_of_gt (hord1 (I, oI) (.head _) p h)) (fun p h => Nat.ne_of_gt (hord2 (I, oI) (List.mem_append_left _ (.head _)) p h))
      · rw [s2 hb]
        exact DatIn.mono (by bits_by_make) hDp
    | false =>
      k_steps
      refine to_stop ?_
      (rename Fr _ _ _ _ => F4); (rename News _ _ _ _ => N4)
      k_dflt (refine tellsM_use (sv := sv) (C := flip_tells w s₀ mg mb (mcol (2 ^ bits - 1) n0 bits)) (by assumption) F4 (by assumption) N4 (by assumption) rfl ?_ ?_ ?_ ?_ rfl ?_)
      · exact flip_rel (by rw [hrow]) (DatIn.mono (by bits_by_make) hD1)
      · exact ⟨by rw [hrow]; exact hM1, by rw [hrow]; exact hM32⟩
      · exact room hd' (Nat.le_of_ble_eq_true rfl)
      · exact roomU hu' (Nat.le_of_ble_eq_true rfl)
      rintro r2 tl2 hp2 tkB FB NB hord2 _ hD2
      replace hD2 : DatIn _ _ (spD (runsF (notC (mcol (2 ^ bits - 1) n0 bits)))) := hD2
      clear F4 N4
      k_steps
      refine to_stop ?_
      (rename Fr _ _ _ _ => F4); (rename News _ _ _ _ => N4)
      k_dflt (refine tellsM_use (sv := sv) (C := meetc_tells w s₀ mg mb (proC c M first by9 i, notC (mcol (2 ^ bits - 1) n0 bits))) (by assumption) F4 (by assumption) N4 (by assumption) rfl ?_ ?_ ?_ ?_ rfl ?_)
      · exact ⟨_, _, rfl, DatIn.mono (by bits_by_make) hDp, DatIn.mono (by bits_by_make) hD2⟩
      · exact ⟨by dsimp only; rw [pro_len, List.length_map, hrow], by dsimp only; rw [pro_len]; exact hM32⟩
      · exact room hd' (Nat.le_of_ble_eq_true rfl)
      · exact roomU hu' (Nat.le_of_ble_eq_true rfl)
      rintro r3 tl3 hp3 tkC FC NC hord3 _ hD3
      replace hD3 : DatIn _ _ (spD (runsF (andC (proC c M first by9 i) (notC (mcol (2 ^ bits - 1) n0 bits))))) := hD3
      rw [s4 hb] at hD3
      clear F4 N4
      k_steps
      (rename Fr _ _ _ _ => F9); (rename News _ _ _ _ => N9)
      refine hPQ _ _ ⟨⟨tv, r3, tl ++ (tl1 ++ (tl2 ++ tl3)), tt⟩, _, _, _, _, rfl, F9, N9, by bits_by_make, List.mem_append_left _ (List.mem_append_left _ (List.mem_append_left _ (.head _))), ?_, by kst_all, ⟨?_, DatIn.drop (I := I) hns (DatIn.mono (by bits_by_make) hD3), ap_app hap (ap_app (ap_lt hord1 (by bits_by_make)) (ap_app (ap_lt hord2 (by bits_by_make)) (ap_lt hord3 (by bits_by_make))))⟩⟩
      · exact apI hoff (fun p h => Nat.ne_of_gt (hord1 (I, oI) (.head _) p h)) (fun p h => Nat.ne_of_gt (hord2 (I, oI) (List.mem_append_left _ (.head _)) p h)) (fun p h => Nat.ne_of_gt (hord3 (I, oI) (List.mem_append_left _ (List.mem_append_left _ (.head _))) p h))
      · rw [s3 hb]
        exact DatIn.mono (by bits_by_make) hDt
  case done =>
    rintro ⟨tv, pv, tl, tt⟩ u1 h1 tk1 ⟨hDt, hDp, hap⟩ F3 N3
    dsimp only at hDt hDp hap F3 N3
    clear F1 N1 R1
    have q1 : totC c M first by9 M = c := tot_all first by9 (by rw [eM]; exact pow_div hb5) (by rw [hlen, eM])
    have q2 : proC c M first by9 M = c := pro_all first by9 (by rw [eM]; exact pow_div hb5) (by rw [hlen, eM])
    rw [q1] at hDt
    rw [q2] at hDp
    k_steps
    (rename Fr _ _ _ _ => F9); (rename News _ _ _ _ => N9)
    (rename (∀ p : Addr × Obj, p ∈ (_ : List (Addr × Obj)) → p.1 < _) => hTl)
    refine hret _ ((_, ({ cls := .type "tuple", data := .seq #[tv, pv] } : Obj)) :: tl) _ _ F9 (news_sub N9 (by bits_by_make)) (ap_cons (ap_one hTl (by bits_by_make)) hap) trivial ?_
    show DatIn _ _ (.tuple [spD (runsF c), spD (runsF c)])
    exact DatIn.tuple (vs := [tv, pv]) (List.mem_append_right _ (.head _)) (.cons (DatIn.mono (by bits_by_make) hDt) (.cons (DatIn.mono (by bits_by_make) hDp) .nil))
end
section
open PySem PySem.W PyProof.Rows PyProof.Rows.LCg
noncomputable abbrev P3 := Int × Int × Int
noncomputable def tD (p : P3) : Dat := .tuple [.int p.1, .int p.2.1, .int p.2.2]
theorem tri_inv {N : List (Addr × Obj)} {v : Value} {p : P3} (h : DatIn N v (tD p)) : ∃ T a b c t1 t2 t3 q, v = .ref T ∧ (T, ({ cls := .type "tuple", data := .seq #[.int a t1, .int b t2, .int c t3] q } : Obj)) ∈ N := by
  obtain ⟨T, _, q, e, hm, h1⟩ := tup_inv h
  obtain ⟨_, _, rfl, k1, h2⟩ := all_inv h1
  obtain ⟨_, _, rfl, k2, h3⟩ := all_inv h2
  obtain ⟨_, _, rfl, k3, h4⟩ := all_inv h3
  obtain ⟨t1, rfl⟩ := int_inv k1
  obtain ⟨t2, rfl⟩ := int_inv k2
  obtain ⟨t3, rfl⟩ := int_inv k3
  cases nil_inv h4
  exact ⟨T, _, _, _, t1, t2, t3, q, e, hm⟩
section
variable {prog : Program} {w : World} {A : Around} {E : Value → Shared → Prop} {s : Shared} {h₀ : Heap} {L l : Addr}
theorem tab_item {value slice : PySem.Expr} {news L9 : List (Addr × Obj)} {us : List Value} {xs : List P3} {n : Nat} {k : Int} {u : Tok} {Q : Value → Shared → Prop} (N : News h₀ L s.heap news) (hm : (l, listOf us.toArray n) ∈ news) (hd : DatAll L9 us (xs.map tD))
    (h0 : 0 ≤ k) (h1 : k < (xs.length : Int)) (hfit : k < 2 ^ 63) (h : ∀ T a b c t1 t2 t3 q, (T, ({ cls := .type "tuple", data := .seq #[.int a t1, .int b t2, .int c t3] q } : Obj)) ∈ L9 → Q (.ref T) s)
    (hs : subscripted slice false (.ref l) (.int k u) = operate [.ref l, .int k u] (getItem (.ref l) (.int k u)) := by with_unfolding_all rfl) :
    wpAny (model prog w) A (subscriptTail value slice (.ref l) (.int k u)) Q E s := by
  have hl : s.heap.IsList l us.toArray := ⟨_, (N _ hm).1, rfl, n, rfl⟩
  refine tail_any hl.typeIs slot_list_getitem.lookup (kd_getItem N hm hd h0 (by simpa using h1) hfit fun v d hk _ hD => ?_) hs
  have hk' : k.toNat < xs.length := by omega
  rw [List.getElem?_map, List.getElem?_eq_getElem hk'] at hk
  have e := (Option.some.inj hk).symm
  subst e
  obtain ⟨T, a, b, c, t1, t2, t3, q, rfl, hm⟩ := tri_inv hD
  exact h _ _ _ _ _ _ _ _ hm
theorem tm_item {value slice : PySem.Expr} {news L9 : List (Addr × Obj)} {us : List Value} {cs : List (List Bool)} {n : Nat} {k : Int} {u : Tok} {Q : Value → Shared → Prop} (N : News h₀ L s.heap news) (hm : (l, listOf us.toArray n) ∈ news) (hd : DatAll L9 us (cs.map termD))
    (h0 : 0 ≤ k) (h1 : k < (cs.length : Int)) (hfit : k < 2 ^ 63) (h : ∀ v c, c ∈ cs → DatIn L9 v (termD c) → Q v s)
    (hs : subscripted slice false (.ref l) (.int k u) = operate [.ref l, .int k u] (getItem (.ref l) (.int k u)) := by with_unfolding_all rfl) :
    wpAny (model prog w) A (subscriptTail value slice (.ref l) (.int k u)) Q E s := by
  have hl : s.heap.IsList l us.toArray := ⟨_, (N _ hm).1, rfl, n, rfl⟩
  refine tail_any hl.typeIs slot_list_getitem.lookup (kd_getItem N hm hd h0 (by simpa using h1) hfit fun v d hk _ hD => ?_) hs
  have hk' : k.toNat < cs.length := by omega
  rw [List.getElem?_map, List.getElem?_eq_getElem hk'] at hk
  have e := (Option.some.inj hk).symm
  subst e
  exact h _ _ (List.getElem_mem hk') hD
variable {m : Str → Option Value} {env : Env}
theorem comp_ints {elt : PySem.Expr} {x : Str} {scope : Scope} {cl : List (Str × Addr)} {S : List (Addr × Obj) → Prop} {P : Nat → Value → Prop} {Fin : List Value → List (Addr × Obj) → Prop} {n : Nat} {news : List (Addr × Obj)} (hS : S news)
    (step : ∀ (i : Nat) (v : Value) (I : Addr) (oI : Obj) (C : Addr) (oC : Obj) (D : Addr) (oD : Obj) (m₂ : Str → Option Value) (h : Heap) (tk : Nat) (Q' E' : Value → Shared → Prop), i < n → P i v → NsObj oC m₂ → m₂ x = some v → Fr h₀ L h m → News h₀ L h ((I, oI) :: (C, oC) :: (D, oD) :: news) →
      (∀ z t h' tk', Fr h₀ L h' m → News h₀ L h' ((I, oI) :: (C, oC) :: (D, oD) :: news) → Q' (.int z t) { s with heap := h', toks := tk' }) → wpAny (model prog w) A (eval elt (compEnvC scope cl C env)) Q' E' { s with heap := h, toks := tk })
    (fin : ∀ vs : List Value, vs.length = n → (∀ v ∈ vs, ∃ z t, v = .int z t) → Fin vs news) : CompRest prog w A h₀ L m env elt x scope cl s S P Fin n 0 [] news := by
  have all : ∀ k i (vs : List Value), i + k = n → vs.length = i → (∀ v ∈ vs, ∃ z t, v = .int z t) → CompRest prog w A h₀ L m env elt x scope cl s S P Fin k i vs news := by
    intro k
    induction k with
    | zero =>
      intro i vs hi hv ha
      exact .zero (fin vs (by omega) ha)
    | succ k ih =>
      intro i vs hi hv ha
      refine .succ fun v I oI C oC D m₂ h tk E' hP hC hx F N off ne => ?_
      refine step i v I oI C oC D _ m₂ h tk _ E' (by omega) hP hC hx F N fun z t h' tk' F' N' => ?_
      refine CompEnd.intro F' N' news (fun p hp => hp) off hS ?_
      refine ih (i + 1) (vs ++ [.int z t]) (by omega) (by simp [hv]) fun v hv => ?_
      rcases List.mem_append.mp hv with h | h
      · exact ha v h
      · exact ⟨z, t, List.mem_singleton.mp h⟩
  exact all n 0 [] (by omega) rfl (by simp)
end
theorem cons_len {vs : List Value} {n : Nat} (h : vs.length = n + 1) : ∃ v r, vs = v :: r ∧ r.length = n := by
  cases vs with
  | nil => simp at h
  | cons v r => exact ⟨v, r, rfl, by simpa using h⟩
theorem three_ints {vs : List Value} (h : vs.length = 3) (ha : ∀ v ∈ vs, ∃ z t, v = .int z t) : ∃ a b c t1 t2 t3, vs = [.int a t1, .int b t2, .int c t3] := by
  obtain ⟨x, r, rfl, h1⟩ := cons_len h
  obtain ⟨y, r, rfl, h2⟩ := cons_len h1
  obtain ⟨z, r, rfl, h3⟩ := cons_len h2
  cases List.eq_nil_of_length_eq_zero h3
  obtain ⟨a, t1, rfl⟩ := ha x (.head _)
  obtain ⟨b, t2, rfl⟩ := ha y (.tail _ (.head _))
  obtain ⟨c, t3, rfl⟩ := ha z (.tail _ (.tail _ (.head _)))
  exact ⟨_, _, _, _, _, _, rfl⟩
theorem tm_snoc {N N' : List (Addr × Obj)} {vs : List Value} {v : Value} {cs : List (List Bool)} {c : List Bool} (h : DatAll N vs (cs.map termD)) (hv : DatIn N' v (termD c)) (hs : ∀ p ∈ N, p ∈ N') : DatAll N' (vs ++ [v]) ((cs ++ [c]).map termD) := by
  rw [List.map_append]
  exact DatAll.append (DatAll.mono hs h) (DatAll.one hv)
theorem fmod_nat (x : Int) {M : Nat} (h : 4 ≤ M) (h' : M ≤ 32) : ∃ k : Nat, x.fmod (2 * ((M : Int) - 1) + 2) = (k : Int) ∧ k < 64 := by
  have e : 2 * ((M : Int) - 1) + 2 = 2 * (M : Int) := by omega
  have h1 := Int.emod_nonneg x (show (2 * (M : Int)) ≠ 0 by omega)
  have h2 := Int.emod_lt_of_pos x (show (0 : Int) < 2 * (M : Int) by omega)
  rw [e, Int.fmod_eq_emod_of_nonneg _ (by omega)]
  exact ⟨(x % (2 * (M : Int))).toNat, by omega, by omega⟩
theorem and_nat (a b : Nat) {M : Nat} (h : 4 ≤ M) (ha : a < 64) : ∃ k : Nat, Builtin.bitAnd (Builtin.bitAnd (a : Int) (b : Int)) ((M : Int) - 1) = (k : Int) ∧ k < 64 := by
  have e : (M : Int) - 1 = ((M - 1 : Nat) : Int) := by omega
  refine ⟨a &&& b &&& (M - 1), by rw [e, band_nat, band_nat], ?_⟩
  exact Nat.lt_of_le_of_lt (Nat.le_trans Nat.and_le_left Nat.and_le_left) ha
theorem col_snoc {cs : List (List Bool)} {c : List Bool} {M : Nat} (h : ∀ c ∈ cs, c.length = M) (hc : c.length = M) : ∀ x ∈ cs ++ [c], x.length = M := fun x hx => by
  rcases List.mem_append.mp hx with h' | h'
  · exact h x h'
  · rw [List.mem_singleton.mp h']; exact hc
theorem ap_right {tl tl1 : List (Addr × Obj)} : ∀ p ∈ tl1, p ∈ tl ++ tl1 := fun _ h => List.mem_append_right _ h
theorem ap_left {tl tl1 : List (Addr × Obj)} : ∀ p ∈ tl, p ∈ tl ++ tl1 := fun _ h => List.mem_append_left _ h
section
variable {prog : Program} {w : World} {A : Around} {E : Value → Shared → Prop} {s : Shared} {h₀ : Heap} {L l : Addr}
theorem tm_len {news L9 : List (Addr × Obj)} {us : List Value} {cs : List (List Bool)} {n : Nat} {Q : Value → Shared → Prop} (N : News h₀ L s.heap news) (hm : (l, listOf us.toArray n) ∈ news) (hd : DatAll L9 us (cs.map termD)) (hfit : (cs.length : Int) < 2 ^ 63)
    (h : Q (.int (cs.length : Int) (s.toks + 1)) { s with toks := s.toks + 1 + 1 }) : wpAny (model prog w) A (call (.builtin "len") [.ref l]) Q E s :=
  kd_len N hm hd (by simpa using hfit) (by simpa using h)
theorem tm_itemM {value slice : PySem.Expr} {news L9 : List (Addr × Obj)} {us : List Value} {cs : List (List Bool)} {n : Nat} {x : Int} {u : Tok} {Q : Value → Shared → Prop} (N : News h₀ L s.heap news) (hm : (l, listOf us.toArray n) ∈ news) (hd : DatAll L9 us (cs.map termD))
    (h0 : 0 < cs.length) (h1 : cs.length < 64) (h : ∀ v c, c ∈ cs → DatIn L9 v (termD c) → Q v s)
    (hs : subscripted slice false (.ref l) (.int (x.fmod (cs.length : Int)) u) = operate [.ref l, .int (x.fmod (cs.length : Int)) u] (getItem (.ref l) (.int (x.fmod (cs.length : Int)) u)) := by with_unfolding_all rfl) :
    wpAny (model prog w) A (subscriptTail value slice (.ref l) (.int (x.fmod (cs.length : Int)) u)) Q E s := by
  have e := Int.fmod_eq_emod_of_nonneg x (b := (cs.length : Int)) (by omega)
  have g1 := Int.emod_nonneg x (show (cs.length : Int) ≠ 0 by omega)
  have g2 := Int.emod_lt_of_pos x (show (0 : Int) < (cs.length : Int) by omega)
  exact tm_item N hm hd (by omega) (by omega) (by omega) h hs
theorem lst_item {value slice : PySem.Expr} {news : List (Addr × Obj)} {us : List Value} {v : Value} {n : Nat} {k : Int} {u : Tok} {Q : Value → Shared → Prop} (N : News h₀ L s.heap news) (hm : (l, listOf us.toArray n) ∈ news) (h0 : 0 ≤ k) (hfit : k < 2 ^ 63) (hv : us[k.toNat]? = some v)
    (h : Q v s)
    (hs : subscripted slice false (.ref l) (.int k u) = operate [.ref l, .int k u] (getItem (.ref l) (.int k u)) := by with_unfolding_all rfl) :
    wpAny (model prog w) A (subscriptTail value slice (.ref l) (.int k u)) Q E s := by
  have hl : s.heap.IsList l us.toArray := ⟨_, (N _ hm).1, rfl, n, rfl⟩
  exact tail_any hl.typeIs slot_list_getitem.lookup (wpAny_getItem_list hl h0 hfit (by simpa using hv) h) hs
theorem dat_both {N n1 n2 : List (Addr × Obj)} {va vb : Value} {d : Dat} (NN : News h₀ L s.heap N) (ha : DatIn n1 va d) (sa : ∀ p ∈ n1, p ∈ N) (hb : DatIn n2 vb d) (sb : ∀ p ∈ n2, p ∈ N) (hok : kqdOk 8 d = true) :
    ∃ as bs, Reads s.heap va (kqdP d) as ∧ Reads s.heap vb (kqdP d) bs ∧ SeqAt.shaped (kqdP d) = true ∧ PyData.eqv (kqdP d) (kqdP d) = true := by
  obtain ⟨as, ra⟩ := kqd_in NN 8 (ha.mono sa) hok
  obtain ⟨bs, rb⟩ := kqd_in NN 8 (hb.mono sb) hok
  have la := kqd_lay 8 d hok
  refine ⟨as, bs, ra, rb, ?_, (kqd_eqv 8 d d 8 hok hok).mpr rfl⟩
  unfold SeqAt.shaped
  rw [la.1, Bool.true_and]
  exact decide_eq_true (Nat.le_trans la.2 (by decide))
theorem dat_eq {N n1 n2 : List (Addr × Obj)} {va vb : Value} {d : Dat} {Q : Value → Shared → Prop} (NN : News h₀ L s.heap N) (ha : DatIn n1 va d) (sa : ∀ p ∈ n1, p ∈ N) (hb : DatIn n2 vb d) (sb : ∀ p ∈ n2, p ∈ N) (hok : kqdOk 8 d = true) (hu : A.units + 64 < cLine)
    (h : Q (.bool true) s) : wpAny (model prog w) A (compareOp .Eq va vb) Q E s := by
  obtain ⟨as, bs, ra, rb, hsh, he⟩ := dat_both NN ha sa hb sb hok
  exact eq_dataH ra rb hsh hsh hu (by rw [he]; exact h)
theorem dat_ne {N n1 n2 : List (Addr × Obj)} {va vb : Value} {d : Dat} {Q : Value → Shared → Prop} (NN : News h₀ L s.heap N) (ha : DatIn n1 va d) (sa : ∀ p ∈ n1, p ∈ N) (hb : DatIn n2 vb d) (sb : ∀ p ∈ n2, p ∈ N) (hok : kqdOk 8 d = true) (hu : A.units + 64 < cLine)
    (h : Q (.bool false) s) : wpAny (model prog w) A (compareOp .NotEq va vb) Q E s := by
  obtain ⟨as, bs, ra, rb, hsh, he⟩ := dat_both NN ha sa hb sb hok
  exact ne_dataH ra rb hsh hsh hu (by rw [he]; exact h)
end
theorem sp_ok (n : Nat) (xs : List P2) : kqdOk (n + 2) (spD xs) = true := by
  unfold spD
  simp only [kqdOk, List.all_eq_true]
  intro d hd
  obtain ⟨p, _, rfl⟩ := List.mem_map.mp hd
  unfold pD
  simp only [kqdOk, List.all_cons, List.all_nil, Bool.and_true]
theorem sp2_ok (xs ys : List P2) : kqdOk 8 (.tuple [spD xs, spD ys]) = true := by
  simp only [kqdOk, List.all_cons, List.all_nil, Bool.and_true, Bool.and_eq_true]
  exact ⟨sp_ok 5 xs, sp_ok 5 ys⟩
theorem step_rel {N : List (Addr × Obj)} {k kk m m' : Int} {v1 v2 : Value} {t t' : Tok} {x y : Dat} (h : k = kk) (h2 : m = m') (d1 : DatIn N v1 x) (d2 : DatIn N v2 y) :
    ∃ u1 u2 t1 t2, [Value.int k t, v1, v2, Value.int m t'] = [Value.int kk t1, u1, u2, Value.int m' t2] ∧ DatIn N u1 x ∧ DatIn N u2 y := by
  subst h h2
  exact ⟨_, _, _, _, rfl, d1, d2⟩
theorem stepC_len {k : Nat} {a b : List Bool} (h : a.length = b.length) : (stepC k a b).length = a.length := by
  unfold stepC xorC
  have e : ∀ f : Bool → Bool → Bool, (List.zipWith f a b).length = a.length := fun f => zw_len h
  (repeat' split) <;> first | exact e _ | exact List.length_map _
theorem kind_nat (x : Int) : ∃ k : Nat, x.fmod 5 = (k : Int) ∧ k < 5 := by
  have h1 := Int.emod_nonneg x (show (5 : Int) ≠ 0 by omega)
  have h2 := Int.emod_lt_of_pos x (show (0 : Int) < 5 by omega)
  rw [Int.fmod_eq_emod_of_nonneg _ (by omega)]
  exact ⟨(x % 5).toNat, by omega, by omega⟩
theorem tm_at {N : List (Addr × Obj)} {us : List Value} {cs : List (List Bool)} {i : Nat} {v : Value} (h : DatAll N us (cs.map termD)) (hv : us[i]? = some v) : ∃ c, cs[i]? = some c ∧ DatIn N v (termD c) := by
  have hl := h.length
  simp only [List.length_map] at hl
  have hi : i < us.length := by
    false_or_by_contra
    rename_i q
    rw [List.getElem?_eq_none (by omega)] at hv
    cases hv
  obtain ⟨v', h1, h2⟩ := h.get (k := i) (by simpa using (by omega : i < cs.length))
  rw [hv] at h1
  cases h1
  rw [List.getElem_map] at h2
  exact ⟨_, List.getElem?_eq_getElem (by omega), h2⟩
end
section
open PySem PySem.W PyProof.Rows PyProof.Rows.LCg
theorem bits_natk9 (x : Int) {G : Prop} (k : ∀ b : Nat, x.fmod 4 + 2 = (b : Int) → 2 ≤ b → b ≤ 5 → G) : G := by
  have e := Int.fmod_eq_emod_of_nonneg x (b := 4) (by decide)
  exact k (x.fmod 4 + 2).toNat (by omega) (by omega) (by omega)
theorem genk {α : Type} {G : Prop} (x : α) (k : ∀ y, y = x → G) : G := k x rfl
theorem cell_k {o : Obj} {x : Option Value} {G : Prop} (h : o.data = Data.cell x) (k : ∀ y, o.data = Data.cell y → G) : G := k x h
theorem fmod_natk (x : Int) {M : Nat} {G : Prop} (h : 4 ≤ M) (h' : M ≤ 32) (k : ∀ n : Nat, x.fmod (2 * ((M : Int) - 1) + 2) = (n : Int) → n < 64 → G) : G := by
  obtain ⟨n, e, hn⟩ := fmod_nat x h h'
  exact k n e hn
theorem and_natk (a b : Nat) {M : Nat} {G : Prop} (h : 4 ≤ M) (ha : a < 64) (k : ∀ n : Nat, Builtin.bitAnd (Builtin.bitAnd (a : Int) (b : Int)) ((M : Int) - 1) = (n : Int) → n < 64 → G) : G := by
  obtain ⟨n, e, hn⟩ := and_nat a b h ha
  exact k n e hn
theorem tm_room {N : List (Addr × Obj)} {vs : List Value} {cs : List (List Bool)} (h : DatAll N vs (cs.map termD)) (hc : cs.length < 64) : vs.toArray.size ≤ sizeLine := by
  have e9 := h.length
  simp only [List.length_map] at e9
  rw [sizeLine_eq, List.size_toArray]
  omega
theorem tm_atk {N : List (Addr × Obj)} {us : List Value} {cs : List (List Bool)} {i : Nat} {v : Value} {G : Prop} (h : DatAll N us (cs.map termD)) (hv : us[i]? = some v) (k : ∀ c, cs[i]? = some c → DatIn N v (termD c) → G) : G := by
  obtain ⟨c, h1, h2⟩ := tm_at h hv
  exact k c h1 h2
theorem term_casesk {N : List (Addr × Obj)} {v : Value} {c : List Bool} {G : Value → Prop} (h : DatIn N v (termD c))
    (k : ∀ T la lb lc n m, (T, ({ cls := .type "tuple", data := .seq #[.ref la, .ref lb, .ref lc] n } : Obj)) ∈ N → DatIn N (.ref la) (spD (runsF c)) → DatIn N (.ref lb) (spD (runsF (notC c))) → (lc, listOf (c.map Value.bool).toArray m) ∈ N → G (.ref T)) : G v := by
  obtain ⟨T, va, vb, lc, n, m, rfl, h1, h2, h3, h4⟩ := term_cases h
  obtain ⟨la, _, _, rfl, _⟩ := sp_cases h2
  obtain ⟨lb, _, _, rfl, _⟩ := sp_cases h3
  exact k T la lb lc n m h1 h2 h3 h4
theorem sp_ref {N : List (Addr × Obj)} {v : Value} {xs : List P2} {G : Value → Prop} (h : DatIn N v (spD xs)) (k : ∀ l, DatIn N (.ref l) (spD xs) → G (.ref l)) : G v := by
  have h' := h
  obtain ⟨l, _, _, rfl, _⟩ := sp_cases h
  exact k l h'
theorem nth_k {α : Type} {l : List α} {n i : Nat} {G : Prop} (h : l.length = n) (hi : i < n) (k : ∀ v, l[i]? = some v → G) : G := k _ (List.getElem?_eq_getElem (by omega))
theorem term_eqk {N : List (Addr × Obj)} {v : Value} {c : List Bool} {G : Prop} (h : DatIn N v (termD c))
    (k : ∀ T la lb lc n m, v = .ref T → (T, ({ cls := .type "tuple", data := .seq #[.ref la, .ref lb, .ref lc] n } : Obj)) ∈ N → DatIn N (.ref la) (spD (runsF c)) → DatIn N (.ref lb) (spD (runsF (notC c))) → (lc, listOf (c.map Value.bool).toArray m) ∈ N → G) : G := by
  obtain ⟨T, va, vb, lc, n, m, rfl, h1, h2, h3, h4⟩ := term_cases h
  obtain ⟨la, _, _, rfl, _⟩ := sp_cases h2
  obtain ⟨lb, _, _, rfl, _⟩ := sp_cases h3
  exact k T la lb lc n m rfl h1 h2 h3 h4
theorem kind_natk (x : Int) {G : Prop} (k : ∀ n : Nat, x.fmod 5 = (n : Int) → n < 5 → G) : G := by
  obtain ⟨n, e, hn⟩ := kind_nat x
  exact k n e hn
theorem three_intsk {vs : List Value} {G : List Value → Prop} (h : vs.length = 3) (ha : ∀ v ∈ vs, ∃ z t, v = .int z t) (k : ∀ a b c t1 t2 t3, G [.int a t1, .int b t2, .int c t3]) : G vs := by
  obtain ⟨a, b, c, t1, t2, t3, rfl⟩ := three_ints h ha
  exact k a b c t1 t2 t3
structure LT where
  vs : List Value
  n : Nat
  ok : Obj
  x : Option Value
  tl : List (Addr × Obj)
  cs : List (List Bool)
  tb : Tok
  tt : Tok
structure LInv (a3 a4 lt : Addr) (Ds : List Value) (xs : List P3) (M N : Nat) (st : LT) : Prop where
  dv : DatAll st.tl st.vs (st.cs.map termD)
  cl : st.cs.length = N
  cM : ∀ c ∈ st.cs, c.length = M
  ok : st.ok.data = Data.cell st.x
  xs : DatAll st.tl Ds (xs.map tD)
  ol : ∀ p ∈ st.tl, p.1 ≠ lt
  o3 : ∀ p ∈ st.tl, p.1 ≠ a3
  o4 : ∀ p ∈ st.tl, p.1 ≠ a4
theorem LInv.next {a3 a4 lt : Addr} {Ds : List Value} {xs : List P3} {M N : Nat} {st : LT} {r : Value} {c : List Bool} {tl1 : List (Addr × Obj)} {ok : Obj} {x : Option Value} {n : Nat} (h : LInv a3 a4 lt Ds xs M N st)
    (hok : ok.data = Data.cell x) (hD : DatIn tl1 r (termD c)) (hc : c.length = M) (h1 : ∀ p ∈ tl1, p.1 ≠ lt) (h2 : ∀ p ∈ tl1, p.1 ≠ a3) (h3 : ∀ p ∈ tl1, p.1 ≠ a4) :
    LInv a3 a4 lt Ds xs M (N + 1) ⟨st.vs ++ [r], n, ok, x, st.tl ++ tl1, st.cs ++ [c], st.tb, st.tt⟩ :=
  ⟨tm_snoc h.dv (DatIn.mono ap_right hD) ap_left, by simp [h.cl], col_snoc h.cM hc, hok, DatAll.mono ap_left h.xs, all_app h.ol h1, all_app h.o3 h2, all_app h.o4 h3⟩
theorem ne_ap {news tl : List (Addr × Obj)} {a : Addr} {o : Obj} (h : ∀ q ∈ news, ∀ p ∈ tl, q.1 ≠ p.1) (hm : (a, o) ∈ news) : ∀ p ∈ tl, p.1 ≠ a := fun p hp => Ne.symm (h _ hm p hp)
section
variable {prog : Program} {w : World} {A : Around} {E : Value → Shared → Prop} {s : Shared} {h₀ : Heap} {L : Addr} {news : List (Addr × Obj)} {m : Str → Option Value} {env : Env}
theorem if_cut {sv : Shared} {st : Stmt} {Q : Flow → Shared → Prop} (ps : Nat → Tok → Tok → List (Str × Value)) (B : Nat) (hs : s = { sv with heap := s.heap, toks := s.toks }) (_F : Fr h₀ L s.heap m) (_N : News h₀ L s.heap news)
    (h : ∀ PQ : Flow → Shared → Prop, (∀ z t t' u hh tk, z < B → Fr h₀ L hh u → (∀ p ∈ ps z t t', u p.1 = some p.2) → News h₀ L hh news → PQ .next { s with heap := hh, toks := tk }) → wpAny (model prog w) A (exec st env) PQ E s)
    (k : ∀ z t t' u hh tk, z < B → Fr h₀ L hh (kstB u (ps z t t')) → News h₀ L hh news → Q .next { sv with heap := hh, toks := tk }) :
    wpAny (model prog w) A (exec st env) Q E s := by
  refine wpAny_mono (h (fun f s' => f = .next ∧ ∃ z t t' u hh tk, z < B ∧ Fr h₀ L hh u ∧ (∀ p ∈ ps z t t', u p.1 = some p.2) ∧ News h₀ L hh news ∧ s' = { s with heap := hh, toks := tk }) fun z t t' u hh tk hz F' hk N' => ⟨rfl, z, t, t', u, hh, tk, hz, F', hk, N', rfl⟩) (fun f s' q => ?_) fun _ _ x => x
  obtain ⟨rfl, z, t, t', u, hh, tk, hz, F', hk, N', rfl⟩ := q
  have e := k z t t' u hh tk hz (c_fr F' hk) N'
  rw [hs]; exact e
end
end
section
open PySem PySem.W PyProof.Rows PyProof.Rows.LCg
set_option maxRecDepth 100000
set_option maxHeartbeats 8000000
theorem freshLawW2 : True := by
  k_with_none
  trivial
theorem tup_ref {N : List (Addr × Obj)} {v : Value} {ds : List Dat} (h : DatIn N v (.tuple ds)) : ∃ T, v = .ref T := by
  cases h with
  | tuple hm hd => exact ⟨_, rfl⟩
theorem led_tl {h₀ h : Heap} {L a1 a2 a3 a4 a5 : Addr} {o1 o2 o3 o4 o5 : Obj} {r : List (Addr × Obj)} {G : Prop} (N : News h₀ L h ((a1, o1) :: (a2, o2) :: (a3, o3) :: (a4, o4) :: (a5, o5) :: r)) (k : ∀ tl, tl = [(a2, o2), (a3, o3), (a4, o4), (a5, o5)] → News h₀ L h ((a1, o1) :: (tl ++ r)) → G) : G := k _ rfl N
theorem led_tl6 {h₀ h : Heap} {L a1 a2 a3 a4 a5 a6 a7 : Addr} {o1 o2 o3 o4 o5 o6 o7 : Obj} {r : List (Addr × Obj)} {G : Prop} (N : News h₀ L h ((a1, o1) :: (a2, o2) :: (a3, o3) :: (a4, o4) :: (a5, o5) :: (a6, o6) :: (a7, o7) :: r)) (k : ∀ tl, tl = [(a2, o2), (a3, o3), (a4, o4), (a5, o5), (a6, o6), (a7, o7)] → News h₀ L h ((a1, o1) :: (tl ++ r)) → G) : G := k _ rfl N
theorem xs6_len {i : Nat} (h : i < 6) : (0 : Int) + (i : Int) < (([((3 : Int), (0 : Int), (1 : Int)), (1, 2, 4), (4, 5, 0), (0, 3, 6), (2, 5, 3), (1, 8, 7)] : List P3).length : Int) := by simp; omega
theorem xs4_len {i : Nat} (h : i < 4) : (0 : Int) + (i : Int) < (([((5 : Int), (4 : Int), (0 : Int)), (10, 8, 0), (12, 0, 1), (18, 2, 2)] : List P3).length : Int) := by simp; omega
theorem law_holds : PySem.Challenge.rw_pq1070_01.Holds := hd (by
  k_go0
  (all_goals try k_fold)
  have kdM : KdMark := kdMark
  (k_with "exec Assign" => ((with_reducible show wpAny _ _ (exec (Stmt.Assign [Expr.Name (Str.ofString "top") _] _ _) _) _ _ _); refine of_stop ?_))
  k_steps
  refine to_stop ?_
  (rename Shared => s1)
  rename_i ns _ _ _ _ _ _ _ _ _ _ _ _ _ _ _ _ _ _ _ _ _ _ _ oT oK oF0 oS dT dK dF0 dS N0 X0 qk9 ek9 t99 h99 tk99 h98 F1 N1
  refine bits_natk9 (cellAt ns 0 0 + 2) fun bits ebits hb2 hb5 => ?_
  have ebn : ((bits : Int)).toNat = bits := Int.toNat_natCast bits
  refine genk (2 ^ bits) fun M eM => ?_
  have e2 : (2 : Int) ^ ((bits : Int)).toNat = (M : Int) := by rw [ebn, eM, kbt_cast]
  have hM4 : 4 ≤ M := by rw [eM]; exact Nat.pow_le_pow_right (n := 2) (by decide) hb2
  have hM32 : M ≤ 32 := by rw [eM]; exact Nat.le_trans (Nat.pow_le_pow_right (by decide) hb5) (by decide)
  rw [ebits] at F1
  refine st_cut (sv := s1) (σ := Tok × Tok) (fun _ => [(s1.heap.objs.size + 1 + 1 + 1 + 1, oT), (s1.heap.objs.size + 1 + 1 + 1, oK), (s1.heap.objs.size + 1 + 1, oF0), (s1.heap.objs.size + 1, oS)])
    (fun c => [(Str.ofString "bits", Value.int (bits : Int) c.1), (Str.ofString "top", Value.int ((M : Int) - 1) c.2)]) (fun _ => True) rfl F1 ?c1 ?c2
  case c1 =>
    intro PQ hPQ
    k_with_none
    k_steps
    (rename Fr _ _ _ _ => F9); (rename News _ _ _ _ => N9)
    rw [e2] at F9
    exact hPQ (_, _) _ _ _ _ trivial F9 (by kst_all) N9 sub_i
  case c2 =>
  rintro ⟨tb0, tt0⟩ u0 h0 tk0 _ F2 N2
  (try dsimp only at F2 N2)
  clear F1 N1
  (k_with "exec For Name Call cons nil" => (rename Fr _ _ _ _ => lF'); (with_unfolding_all refine' For_turns lF' ?_))
  (k_with "pyIter ref" => refine of_stop ?_)
  k_steps
  refine to_stop ?_
  rename_i h97 lt h96 q5 h95 tkD D1 h94 q4 D2 h93 q3 D3 h92 q2 D4 h91 q1 lf h90 q0 h89 oF F0 N9 dF h88 tk88 t88 u88 v88 R1 F1 N1 e88
  have hltf : @LT.lt Nat _ lt lf := q0.2.2.2.2.1
  have hs4 : @LT.lt Nat _ (s1.heap.objs.size + 1 + 1 + 1 + 1) lt := q5.1
  have w1 : @LT.lt Nat _ lt D1 := q4.1
  have w2 : @LT.lt Nat _ lt D2 := q3.2.1
  have w3 : @LT.lt Nat _ lt D3 := q2.2.2.1
  have w4 : @LT.lt Nat _ lt D4 := q1.2.2.2.1
  clear q0 q1 q2 q3 q4 q5
  have hsz : ∀ {x : Addr}, @LT.lt Nat _ lt x → x ≠ lt ∧ x ≠ s1.heap.objs.size + 1 + 1 + 1 ∧ x ≠ s1.heap.objs.size + 1 + 1 + 1 + 1 := fun {x} hx => ⟨Nat.ne_of_gt hx, Nat.ne_of_gt (Nat.lt_trans (Nat.lt_of_succ_lt hs4) hx), Nat.ne_of_gt (Nat.lt_trans hs4 hx)⟩
  refine led_tl N1 fun tl0 etl0 N2 => ?_
  refine cell_k dK fun x0 dK0 => ?_
  have k4 : LInv (s1.heap.objs.size + 1 + 1 + 1) (s1.heap.objs.size + 1 + 1 + 1 + 1) lt [Value.ref D1, Value.ref D2, Value.ref D3, Value.ref D4] [(5, 4, 0), (10, 8, 0), (12, 0, 1), (18, 2, 2)] M 0 ⟨[], 0, oK, x0, tl0, [], 0, 0⟩ := by
    subst etl0
    refine ⟨.nil, rfl, (fun _ h => nomatch h), dK0, ?_, off_c (hsz w4).1 (off_c (hsz w3).1 (off_c (hsz w2).1 (off_c (hsz w1).1 off_n))), off_c (hsz w4).2.1 (off_c (hsz w3).2.1 (off_c (hsz w2).2.1 (off_c (hsz w1).2.1 off_n))), off_c (hsz w4).2.2 (off_c (hsz w3).2.2 (off_c (hsz w2).2.2 (off_c (hsz w1).2.2 off_n)))⟩
    refine .cons (.tuple (vs := [.int _ _, .int _ _, .int _ _]) (.tail _ (.tail _ (.tail _ (.head _)))) (.cons (.int _ _) (.cons (.int _ _) (.cons (.int _ _) .nil)))) (.cons (.tuple (vs := [.int _ _, .int _ _, .int _ _]) (.tail _ (.tail _ (.head _))) (.cons (.int _ _) (.cons (.int _ _) (.cons (.int _ _) .nil))))
        (.cons (.tuple (vs := [.int _ _, .int _ _, .int _ _]) (.tail _ (.head _)) (.cons (.int _ _) (.cons (.int _ _) (.cons (.int _ _) .nil)))) (.cons (.tuple (vs := [.int _ _, .int _ _, .int _ _]) (.head _) (.cons (.int _ _) (.cons (.int _ _) (.cons (.int _ _) .nil)))) .nil)))
  clear etl0 N1 dK0 dK
  clear w1 w2 w3 w4 hsz
  with_unfolding_all
    refine' for_range2 (sv0 := s1) (σ := LT) (n := 4) (fun c => (lt, listOf c.vs.toArray c.n) :: (s1.heap.objs.size + 1 + 1 + 1, c.ok) :: (s1.heap.objs.size + 1 + 1 + 1 + 1, oT) :: (s1.heap.objs.size + 1 + 1, oF) :: (s1.heap.objs.size + 1, oS) :: (lf, listOf [Value.ref D1, Value.ref D2, Value.ref D3, Value.ref D4].toArray 0) :: c.tl)
        (fun c => [(Str.ofString "bits", Value.int (bits : Int) c.tb), (Str.ofString "top", Value.int ((M : Int) - 1) c.tt), (Str.ofString "terms", Value.ref lt)])
        (fun i st => LInv (s1.heap.objs.size + 1 + 1 + 1) (s1.heap.objs.size + 1 + 1 + 1 + 1) lt [Value.ref D1, Value.ref D2, Value.ref D3, Value.ref D4] [(5, 4, 0), (10, 8, 0), (12, 0, 1), (18, 2, 2)] M i st)
        ⟨[], 0, oK, x0, tl0, [], _, _⟩ R1 ?hsm ?hrs F1 ?kn ?kk ?kp ?turn ?done
  case hsm => exact small_one (by decide) (by decide) (by decide) (by decide)
  case hrs => first | exact rangeSize_nat _ _ | rfl
  case kk => kst_all
  case kn => (try dsimp only); exact news_sub N2 (by bits_by_make)
  case kp => exact ⟨k4.dv, k4.cl, k4.cM, k4.ok, k4.xs, k4.ol, k4.o3, k4.o4⟩
  case turn =>
    intro i t st u1 sv I oI PQ hi hP hns hoff F3 N3 hPQ
    (try dsimp only at F3 N3 hoff)
    clear F1 N2 R1 k4
    have hx9 := hP.ok
    have htl := hP.ol
    have htk := hP.o3
    have htT := hP.o4
    have i1 : @Ne Nat lt I := hoff _ (.head _)
    have i2 : @Ne Nat (s1.heap.objs.size + 1 + 1 + 1) I := hoff _ (.tail _ (.head _))
    have i3 : @Ne Nat (s1.heap.objs.size + 1 + 1 + 1 + 1) I := hoff _ (.tail _ (.tail _ (.head _)))
    have i4 : @Ne Nat (s1.heap.objs.size + 1 + 1) I := hoff _ (.tail _ (.tail _ (.tail _ (.head _))))
    have i5 : @Ne Nat (s1.heap.objs.size + 1) I := hoff _ (.tail _ (.tail _ (.tail _ (.tail _ (.head _)))))
    have i6 : @Ne Nat lf I := hoff _ (.tail _ (.tail _ (.tail _ (.tail _ (.tail _ (.head _))))))
    have i7 : ∀ p ∈ st.tl, p.1 ≠ I := fun p hp => hoff p (.tail _ (.tail _ (.tail _ (.tail _ (.tail _ (.tail _ hp))))))
    (k_with "eval ListComp" => refine of_stop ?_)
    k_steps
    (rename Obj => ok2)
    refine to_stop ?_
    (rename Fr _ _ _ _ => F4); (rename News _ _ _ _ => N4)
    k_dflt (refine LCg.ListComp_U (F₀ := F4) (by with_unfolding_all rfl) (by decide) (by rfl) (by decide) (by rfl) ?_)
    (k_with "CompSrc" => refine of_stop ?_)
    k_steps
    refine to_stop ?_
    (rename IsRange _ _ _ _ _ _ _ _ => R5); (rename Fr _ _ _ _ => F5); (rename News _ _ _ _ => N5)
    refine CompSrc.range (n := 3) (by rfl) F5 N5 R5 (by rfl) (by rfl) (by exact Nat.le_of_ble_eq_true rfl) fun g9 => comp_ints trivial ?g1 ?g2
    case g1 =>
      rintro j v I2 oI2 C oC D oD m₂ h tk Q' E' hj ⟨t9, rfl⟩ hC hx F6 N6 hQ
      clear F5 N5 R5
      (k_with "subscriptTail Name Name ref int" => (first
        | ((with_unfolding_all refine' tab_item (xs := [(5, 4, 0), (10, 8, 0), (12, 0, 1), (18, 2, 2)]) (by assumption) (by k_memK) hP.xs (by omega) (by exact xs4_len hi) (by omega) ?_); intro T9 a9 b9 c9 t91 t92 t93 q9 hT9)))
      k_steps
      (rename Fr _ _ _ _ => F8); (rename News _ _ _ _ => N8); exact hQ _ _ _ _ F8 N8
    case g2 =>
      clear F5 N5 R5
      intro ws hwl hwa
      refine three_intsk (G := fun ws => FinE _ _ _ _ _ ws _) hwl hwa fun mk wt ls q1 q2 q3 => ?_
      clear hwl hwa ws
      unfold FinE
      intro D h9 tk9 F6 N6 ho6
      refine fmod_natk mk hM4 hM32 fun km ekm hkm => ?_
      refine fmod_natk wt hM4 hM32 fun kw ekw hkw => ?_
      have d1 : @Ne Nat lt D := off1_lt ho6 (lt, _) (.tail _ (.head _))
      (k_with "exec If" => ((with_reducible show wpAny _ _ (exec (Stmt.If _ [Stmt.Assign _ _ _] _ _) _) _ _ _); refine of_stop ?_))
      k_steps
      refine to_stop ?_
      (rename Fr _ _ _ _ => F4); (rename News _ _ _ _ => N4)
      rw [ekw, ekm] at F4
      refine if_cut (sv := sv) (fun z t t' => [(Str.ofString "want", Value.int (z : Int) t), (Str.ofString "mask", Value.int (km : Int) t'), (Str.ofString "bits", Value.int (bits : Int) st.tb), (Str.ofString "top", Value.int ((M : Int) - 1) st.tt), (Str.ofString "terms", Value.ref lt)]) 64 rfl F4 N4 ?c1 ?c2
      case c1 =>
        intro PQ hPQ2
        refine wpAny_If ?_
        k_steps
        · (rename Fr _ _ _ _ => F9); (rename News _ _ _ _ => N9)
          refine and_natk kw km hM4 hkw fun kz ekz hkz => ?_
          rw [ekz] at F9
          exact hPQ2 _ _ _ _ _ _ hkz F9 (by kst_all) N9
        · (rename Fr _ _ _ _ => F9); (rename News _ _ _ _ => N9)
          exact hPQ2 _ _ _ _ _ _ hkw F9 (by kst_all) N9
      case c2 =>
        intro z tz tm u4 hh tk5 hz F7 N7
        clear F4 N4
        (k_with "call ref" => ((with_reducible show wpAny _ _ (call (Value.ref 107) _) _ _ _); refine of_stop ?_))
        k_steps
        refine to_stop ?_
        (rename Fr _ _ _ _ => F4); (rename News _ _ _ _ => N4)
        k_dflt (refine tellsAF_use (sv := sv) (C := term_fresh _ _ _ _ ⟨km, z, bits, 0⟩) (by assumption) F4 (by assumption) N4 (by assumption) rfl ?_ ?_ ?_ ?_ rfl ?_)
        · exact ⟨_, _, _, rfl⟩
        · exact ⟨⟨hb2, hb5⟩, hkm, hz⟩
        · exact Nat.le_of_ble_eq_true rfl
        · exact Nat.le_of_ble_eq_true rfl
        rintro r tl1 h' tk' F7 N7 hord _ hD
        replace hD : DatIn tl1 r (termD (mcol km z bits)) := hD
        clear F4 N4
        replace N7 := (show News _ _ _ (_ :: _ :: _ :: _ :: _ :: _ :: _ :: _ :: (st.tl ++ tl1)) from N7)
        have a1 : ∀ p ∈ tl1, p.1 ≠ lt := ne_ap hord (.tail _ (.tail _ (.head _)))
        have a2 : ∀ p ∈ tl1, p.1 ≠ s1.heap.objs.size + 1 + 1 + 1 := ne_ap hord (.tail _ (.tail _ (.tail _ (.head _))))
        have a4 : ∀ p ∈ tl1, p.1 ≠ s1.heap.objs.size + 1 + 1 + 1 + 1 := ne_ap hord (.tail _ (.tail _ (.tail _ (.tail _ (.head _)))))
        have a3 : ∀ p ∈ tl1, p.1 ≠ I := ne_ap hord (.tail _ (.head _))
        (k_with "call builtin:list.append" => (with_unfolding_all refine' append_K ?F ?N ?U ?_ ?z; (case F => k_asm); (case N => k_asm); (case U => k_upd); (case z => exact tm_room hP.dv (by rw [hP.cl]; omega)); k_whole; intro h' F' N'; (try k_sweep)))
        k_steps
        (rename Fr _ _ _ _ => F9); (rename News _ _ _ _ => N9)
        simp only [List.push_toArray] at N9
        refine hPQ _ _ ⟨⟨st.vs ++ [r], st.n + 1, ok2, _, st.tl ++ tl1, st.cs ++ [mcol km z bits], st.tb, st.tt⟩, _, _, _, _, rfl, F9, N9, by bits_by_make, by bits_by_make, off_c i1 (off_c i2 (off_c i3 (off_c i4 (off_c i5 (off_c i6 (all_app i7 a3)))))), by kst_all, LInv.next hP (by assumption) hD (by rw [mcol_len, eM]) a1 a2 a4⟩
  case done =>
    intro st0 u1 h1 tk1 hP F3 N3
    (try dsimp only at F3 N3)
    clear F1 N2 R1 k4
    have htl := hP.ol
    have htk := hP.o3
    have htT := hP.o4
    k_steps
    refine to_stop ?_
    rename_i G1 _ g1 G2 _ g2 G3 _ g3 G4 _ g4 G5 _ g5 G6 _ g6 ls _ g0 _ oT2 _ _ dT2 _ _ _ _ _ R2 F2 N2 _
    refine led_tl6 N2 fun tl2 etl2 N4 => ?_
    have hlts : @LT.lt Nat _ lt ls := g0.2.2.2.2.2.2.1
    have w1 : @LT.lt Nat _ lt G1 := g1.1
    have w2 : @LT.lt Nat _ lt G2 := g2.2.1
    have w3 : @LT.lt Nat _ lt G3 := g3.2.2.1
    have w4 : @LT.lt Nat _ lt G4 := g4.2.2.2.1
    have w5 : @LT.lt Nat _ lt G5 := g5.2.2.2.2.1
    have w6 : @LT.lt Nat _ lt G6 := g6.2.2.2.2.2.1
    clear g0 g1 g2 g3 g4 g5 g6 hltf htl htk htT
    have hsz : ∀ {x : Addr}, @LT.lt Nat _ lt x → x ≠ lt ∧ x ≠ s1.heap.objs.size + 1 + 1 + 1 ∧ x ≠ s1.heap.objs.size + 1 + 1 + 1 + 1 := fun {x} hx => ⟨Nat.ne_of_gt hx, Nat.ne_of_gt (Nat.lt_trans (Nat.lt_of_succ_lt hs4) hx), Nat.ne_of_gt (Nat.lt_trans hs4 hx)⟩
    have k5 : LInv (s1.heap.objs.size + 1 + 1 + 1) (s1.heap.objs.size + 1 + 1 + 1 + 1) lt [Value.ref G1, Value.ref G2, Value.ref G3, Value.ref G4, Value.ref G5, Value.ref G6] [(3, 0, 1), (1, 2, 4), (4, 5, 0), (0, 3, 6), (2, 5, 3), (1, 8, 7)] M 4 ⟨st0.vs, st0.n, st0.ok, st0.x, tl2 ++ st0.tl, st0.cs, st0.tb, st0.tt⟩ := by
      subst etl2
      refine ⟨DatAll.mono ap_right hP.dv, hP.cl, hP.cM, hP.ok, DatAll.mono ap_left ?_, all_app (off_c (hsz w6).1 (off_c (hsz w5).1 (off_c (hsz w4).1 (off_c (hsz w3).1 (off_c (hsz w2).1 (off_c (hsz w1).1 off_n)))))) hP.ol, all_app (off_c (hsz w6).2.1 (off_c (hsz w5).2.1 (off_c (hsz w4).2.1 (off_c (hsz w3).2.1 (off_c (hsz w2).2.1 (off_c (hsz w1).2.1 off_n)))))) hP.o3, all_app (off_c (hsz w6).2.2 (off_c (hsz w5).2.2 (off_c (hsz w4).2.2 (off_c (hsz w3).2.2 (off_c (hsz w2).2.2 (off_c (hsz w1).2.2 off_n)))))) hP.o4⟩
      refine .cons (.tuple (vs := [.int _ _, .int _ _, .int _ _]) (.tail _ (.tail _ (.tail _ (.tail _ (.tail _ (.head _)))))) (.cons (.int _ _) (.cons (.int _ _) (.cons (.int _ _) .nil)))) ?_
      refine .cons (.tuple (vs := [.int _ _, .int _ _, .int _ _]) (.tail _ (.tail _ (.tail _ (.tail _ (.head _))))) (.cons (.int _ _) (.cons (.int _ _) (.cons (.int _ _) .nil)))) ?_
      refine .cons (.tuple (vs := [.int _ _, .int _ _, .int _ _]) (.tail _ (.tail _ (.tail _ (.head _)))) (.cons (.int _ _) (.cons (.int _ _) (.cons (.int _ _) .nil)))) ?_
      refine .cons (.tuple (vs := [.int _ _, .int _ _, .int _ _]) (.tail _ (.tail _ (.head _))) (.cons (.int _ _) (.cons (.int _ _) (.cons (.int _ _) .nil)))) ?_
      refine .cons (.tuple (vs := [.int _ _, .int _ _, .int _ _]) (.tail _ (.head _)) (.cons (.int _ _) (.cons (.int _ _) (.cons (.int _ _) .nil)))) ?_
      exact .cons (.tuple (vs := [.int _ _, .int _ _, .int _ _]) (.head _) (.cons (.int _ _) (.cons (.int _ _) (.cons (.int _ _) .nil)))) .nil
    clear etl2 N2 hP w1 w2 w3 w4 w5 w6 hsz
    with_unfolding_all
      refine' for_range2 (sv0 := s1) (σ := LT) (n := 6) (fun c => (lt, listOf c.vs.toArray c.n) :: (s1.heap.objs.size + 1 + 1 + 1, c.ok) :: (s1.heap.objs.size + 1 + 1 + 1 + 1, oT2) :: (s1.heap.objs.size + 1 + 1, oF) :: (s1.heap.objs.size + 1, oS) :: (ls, listOf [Value.ref G1, Value.ref G2, Value.ref G3, Value.ref G4, Value.ref G5, Value.ref G6].toArray 0) :: c.tl)
          (fun c => [(Str.ofString "bits", Value.int (bits : Int) c.tb), (Str.ofString "top", Value.int ((M : Int) - 1) c.tt), (Str.ofString "terms", Value.ref lt)])
          (fun i st => LInv (s1.heap.objs.size + 1 + 1 + 1) (s1.heap.objs.size + 1 + 1 + 1 + 1) lt [Value.ref G1, Value.ref G2, Value.ref G3, Value.ref G4, Value.ref G5, Value.ref G6] [(3, 0, 1), (1, 2, 4), (4, 5, 0), (0, 3, 6), (2, 5, 3), (1, 8, 7)] M (4 + i) st)
          ⟨st0.vs, st0.n, st0.ok, st0.x, tl2 ++ st0.tl, st0.cs, st0.tb, st0.tt⟩ R2 ?hsm2 ?hrs2 F2 ?kn2 ?kk2 k5 ?turn2 ?done2
    case hsm2 => exact small_one (by decide) (by decide) (by decide) (by decide)
    case hrs2 => first | exact rangeSize_nat _ _ | rfl
    case kk2 => kst_all
    case kn2 => (try dsimp only); exact news_sub N4 (by bits_by_make)
    case turn2 =>
      intro i t st u1 sv I oI PQ hi hP hns hoff F3 N3 hPQ
      (try dsimp only at F3 N3 hoff)
      clear F2 N4 R2 k5
      have hx9 := hP.ok
      have htl := hP.ol
      have htk := hP.o3
      have htT := hP.o4
      have hcl := hP.cl
      have i1 : @Ne Nat lt I := hoff _ (.head _)
      have i2 : @Ne Nat (s1.heap.objs.size + 1 + 1 + 1) I := hoff _ (.tail _ (.head _))
      have i3 : @Ne Nat (s1.heap.objs.size + 1 + 1 + 1 + 1) I := hoff _ (.tail _ (.tail _ (.head _)))
      have i4 : @Ne Nat (s1.heap.objs.size + 1 + 1) I := hoff _ (.tail _ (.tail _ (.tail _ (.head _))))
      have i5 : @Ne Nat (s1.heap.objs.size + 1) I := hoff _ (.tail _ (.tail _ (.tail _ (.tail _ (.head _)))))
      have i6 : @Ne Nat ls I := hoff _ (.tail _ (.tail _ (.tail _ (.tail _ (.tail _ (.head _))))))
      have i7 : ∀ p ∈ st.tl, p.1 ≠ I := fun p hp => hoff p (.tail _ (.tail _ (.tail _ (.tail _ (.tail _ (.tail _ hp))))))
      k_steps
      (rename Obj => ok2)
      refine to_stop ?_
      (rename Fr _ _ _ _ => F4); (rename News _ _ _ _ => N4)
      k_dflt (refine LCg.ListComp_U (F₀ := F4) (by with_unfolding_all rfl) (by decide) (by rfl) (by decide) (by rfl) ?_)
      k_steps
      refine to_stop ?_
      (rename IsRange _ _ _ _ _ _ _ _ => R5); (rename Fr _ _ _ _ => F5); (rename News _ _ _ _ => N5)
      refine CompSrc.range (n := 3) (by rfl) F5 N5 R5 (by rfl) (by rfl) (by exact Nat.le_of_ble_eq_true rfl) fun g9 => comp_ints trivial ?g1 ?g2
      case g1 =>
        rintro j v I2 oI2 C oC D oD m₂ h tk Q' E' hj ⟨t9, rfl⟩ hC hx F6 N6 hQ
        clear F5 N5 R5
        (k_with "subscriptTail Name Name ref int" => (first
          | ((with_unfolding_all refine' tab_item (xs := [(3, 0, 1), (1, 2, 4), (4, 5, 0), (0, 3, 6), (2, 5, 3), (1, 8, 7)]) (by assumption) (by k_memK) hP.xs (by omega) (by exact xs6_len hi) (by omega) ?_); intro T9 a9 b9 c9 t91 t92 t93 q9 hT9)))
        k_steps
        (rename Fr _ _ _ _ => F8); (rename News _ _ _ _ => N8); exact hQ _ _ _ _ F8 N8
      case g2 =>
        clear F5 N5 R5
        intro ws hwl hwa
        refine three_intsk (G := fun ws => FinE _ _ _ _ _ ws _) hwl hwa fun mk wt lz q1 q2 q3 => ?_
        clear hwl hwa ws
        unfold FinE
        intro D h9 tk9 F6 N6 ho6
        refine kind_natk mk fun kk ekk hkk => ?_
        have d1 : @Ne Nat lt D := off1_lt ho6 (lt, _) (.tail _ (.head _))
        (k_with "call ref" => ((with_reducible show wpAny _ _ (call (Value.ref 112) _) _ _ _); refine of_stop ?_))
        (k_with "call builtin:len" => (with_unfolding_all refine' tm_len (cs := st.cs) (by assumption) (by k_memK) hP.dv (by omega) ?_))
        (k_with "subscriptTail Name BinOp ref int" => ((with_unfolding_all refine' tm_itemM (cs := st.cs) (by assumption) (by k_memK) hP.dv (by omega) (by omega) ?_); intro v9 c9 hc9 hv9))
        (k_with "call builtin:list.append" => (with_unfolding_all refine' append_K ?F ?N ?U ?_ ?z; (case F => k_asm); (case N => k_asm); (case U => k_upd); (case z => exact tm_room hP.dv (by rw [hP.cl]; omega)); k_whole; intro h' F' N'; (try k_sweep)))
        k_steps
        rename_i v8 c8 hc8 hv8
        refine to_stop ?_
        (rename Fr _ _ _ _ => F4); (rename News _ _ _ _ => N4)
        rw [ekk]
        have e8 := hP.cM _ hc8
        have e9 := hP.cM _ hc9
        have e10 : (stepC kk c8 c9).length = M := by rw [stepC_len (by rw [e8, e9]), e8]
        k_dflt (refine tellsAF_use (sv := sv) (C := step_fresh _ _ _ _ ⟨kk, c8, c9⟩) (by assumption) F4 (by assumption) N4 (by assumption) rfl ?_ ?_ ?_ ?_ rfl ?_)
        · exact step_rel rfl (by dsimp only; rw [e8]) (DatIn.mono (by bits_by_make) hv8) (DatIn.mono (by bits_by_make) hv9)
        · exact ⟨hkk, by dsimp only; rw [e8, e9], by dsimp only; omega, by dsimp only; omega⟩
        · exact Nat.le_of_ble_eq_true rfl
        · exact Nat.le_of_ble_eq_true rfl
        rintro r tl1 h' tk' F7 N7 hord _ hD
        replace hD : DatIn tl1 r (termD (stepC kk c8 c9)) := hD
        clear F4 N4
        replace N7 := (show News _ _ _ (_ :: _ :: _ :: _ :: _ :: _ :: _ :: _ :: (st.tl ++ tl1)) from N7)
        have a1 : ∀ p ∈ tl1, p.1 ≠ lt := ne_ap hord (.tail _ (.tail _ (.head _)))
        have a2 : ∀ p ∈ tl1, p.1 ≠ s1.heap.objs.size + 1 + 1 + 1 := ne_ap hord (.tail _ (.tail _ (.tail _ (.head _))))
        have a4 : ∀ p ∈ tl1, p.1 ≠ s1.heap.objs.size + 1 + 1 + 1 + 1 := ne_ap hord (.tail _ (.tail _ (.tail _ (.tail _ (.head _)))))
        have a3 : ∀ p ∈ tl1, p.1 ≠ I := ne_ap hord (.tail _ (.head _))
        k_steps
        (rename Fr _ _ _ _ => F9); (rename News _ _ _ _ => N9)
        simp only [List.push_toArray] at N9
        refine hPQ _ _ ⟨⟨st.vs ++ [r], st.n + 1, ok2, _, st.tl ++ tl1, st.cs ++ [stepC kk c8 c9], st.tb, st.tt⟩, _, _, _, _, rfl, F9, N9, by bits_by_make, by bits_by_make, off_c i1 (off_c i2 (off_c i3 (off_c i4 (off_c i5 (off_c i6 (all_app i7 a3)))))), by kst_all, LInv.next hP (by assumption) hD e10 a1 a2 a4⟩
    case done2 =>
      intro st u1 h1 tk1 hP F3 N3
      (try dsimp only at F3 N3)
      clear F2 N4 R2 k5
      have hvl : st.vs.length = 10 := by
        have e := hP.dv.length
        simp only [List.length_map, hP.cl] at e
        exact e
      (k_with "exec For Tuple Name cons nil" => (rename Fr _ _ _ _ => lF'); (with_unfolding_all refine' For_turns lF' ?_))
      k_steps
      refine to_stop ?_
      (rename Fr _ _ _ _ => F4); (rename News _ _ _ _ => N4)
      with_unfolding_all
        refine' for_list (sv0 := s1) (σ := Unit) (l := lt) (us := st.vs) (nn := st.n) (fun _ => (lt, listOf st.vs.toArray st.n) :: (s1.heap.objs.size + 1, oS) :: st.tl)
          (fun _ => [(Str.ofString "bits", Value.int (bits : Int) st.tb), (Str.ofString "top", Value.int ((M : Int) - 1) st.tt), (Str.ofString "terms", Value.ref lt)])
          (fun _ _ => True) () (fun _ => .head _) F4 ?kn3 ?kk3 ?kp3 ?turn3 ?done3
      case kn3 => (try dsimp only); exact news_sub N4 (by bits_by_make)
      case kk3 => kst_all
      case kp3 => trivial
      case turn3 =>
        intro i v _ u sv I oI PQ hv _ hoff F5 N5 hPQ
        clear F4 N4
        (try dsimp only at hoff F5 N5)
        refine tm_atk hP.dv hv fun c hc hDv => ?_
        refine term_casesk (G := fun v => wpAny _ _ (assign _ _ v) _ _ _) hDv fun T1 la lb lc n1 m1 hT1 hA1 hB1 hC1 => ?_
        have hcl' : c.length = M := hP.cM c (List.mem_of_getElem? hc)
        (k_with "call ref" => ((with_reducible show wpAny _ _ (call (Value.ref 102) _) _ _ _); refine of_stop ?_))
        (k_with "compareOp NotEq ref ref" => refine of_stop ?_)
        (k_with "eval ListComp" => refine of_stop ?_)
        (k_with "CompSrc" => refine of_stop ?_)
        k_steps
        refine to_stop ?_
        (rename Fr _ _ _ _ => F4); (rename News _ _ _ _ => N4)
        k_dflt (refine tellsM_use (sv := sv) (C := runs_tells _ _ _ _ c) (by assumption) F4 (by assumption) N4 (by assumption) rfl ?_ ?_ ?_ ?_ rfl ?_)
        · exact ⟨_, rfl, DatIn.list (vs := c.map Value.bool) (.tail _ (.tail _ (.tail _ hC1))) (bools_all _)⟩
        · show c.length ≤ 32; omega
        · exact Nat.le_of_ble_eq_true rfl
        · exact Nat.le_of_ble_eq_true rfl
        intro r1 tl1 hp1 tkA1 FA1 NA1 hord1 _ hD1
        replace hD1 : DatIn _ r1 (spD (runsF c)) := hD1
        clear F4 N4 hord1
        refine sp_ref (G := fun r1 => wpAny _ _ (compareOp _ _ r1) _ _ _) hD1 fun lr1 hD1 => ?_
        k_steps
        refine to_stop ?_
        (rename Fr _ _ _ _ => F4); (rename News _ _ _ _ => N4)
        refine dat_ne N4 hA1 (by bits_by_make) hD1 sub_i (sp_ok 6 _) (by exact Nat.le_of_ble_eq_true rfl) ?_
        k_steps
        refine to_stop ?_
        k_dflt (refine LCg.ListComp_U (F₀ := F4) (by with_unfolding_all rfl) (by decide) (by rfl) (by decide) (by rfl) ?_)
        k_steps
        refine to_stop ?_
        (rename Fr _ _ _ _ => F5); (rename News _ _ _ _ => N5)
        refine CompSrc.ledger (its := (c.map Value.bool).toArray) (k := m1) (by rfl) F5 N5 (by k_memK) (by rw [sizeLine_eq]; simp only [List.size_toArray, List.length_map]; omega) fun g9 => comp_bools (a := c) (.inr ⟨_, by k_memK, rfl, _, rfl⟩) (fun p => !p) ?g5 ?g6
        case g5 =>
          intro p I oI C oC D oD m₂ h tk Q' E' hC hx F6 N6 hQ
          clear F5 N5
          cases p <;> repeat (first | exact hQ _ | walk1)
        case g6 =>
          unfold FinE
          intro D h9 tk9 F6 N6 ho6
          clear F5 N5
          k_steps
          refine to_stop ?_
          (rename Fr _ _ _ _ => F4); (rename News _ _ _ _ => N4)
          k_dflt (refine tellsM_use (sv := sv) (C := runs_tells _ _ _ _ (notC c)) (by assumption) F4 (by assumption) N4 (by assumption) rfl ?_ ?_ ?_ ?_ rfl ?_)
          · exact ⟨_, rfl, DatIn.list (vs := (c.map (fun p => !p)).map Value.bool) (.head _) (bools_all _)⟩
          · show (notC c).length ≤ 32
            rw [List.length_map]; omega
          · exact Nat.le_of_ble_eq_true rfl
          · exact Nat.le_of_ble_eq_true rfl
          intro r2 tl2 hp2 tkA2 FA2 NA2 hord2 _ hD2
          replace hD2 : DatIn _ r2 (spD (runsF (notC c))) := hD2
          clear F4 N4 hord2
          refine sp_ref (G := fun r1 => wpAny _ _ (compareOp _ _ r1) _ _ _) hD2 fun lr2 hD2 => ?_
          k_steps
          refine to_stop ?_
          (rename Fr _ _ _ _ => F4); (rename News _ _ _ _ => N4)
          refine dat_ne N4 hB1 (by bits_by_make) hD2 sub_i (sp_ok 6 _) (by exact Nat.le_of_ble_eq_true rfl) ?_
          k_steps
          refine hPQ _ _ ⟨(), _, _, _, _, rfl, F4, N4, by bits_by_make, by bits_by_make, hoff, by kst_all, trivial⟩
      case done3 =>
        intro _ u h tk _ F5 N5
        clear F4 N4
        (try dsimp only at F5 N5)
        refine nth_k (i := 9) hvl (by decide) fun v9 hv9 => ?_
        refine tm_atk hP.dv hv9 fun c hc hDv => ?_
        have hcl' : c.length = M := hP.cM c (List.mem_of_getElem? hc)
        refine term_eqk hDv fun T1 la lb lc n1 m1 ev hT1 _ _ hC1 => ?_
        (k_with "subscriptTail Name Constant ref int" => (with_unfolding_all refine' lst_item (us := st.vs) (by assumption) (by k_memK) (by decide) (by decide) (hv9.trans (congrArg some ev)) ?_))
        k_steps
        refine to_stop ?_
        (rename Fr _ _ _ _ => F4); (rename News _ _ _ _ => N4)
        k_dflt (refine tellsM_use (sv := s1) (C := runs_tells _ _ _ _ c) (by assumption) F4 (by assumption) N4 (by assumption) rfl ?_ ?_ ?_ ?_ rfl ?_)
        · exact ⟨_, rfl, DatIn.list (vs := c.map Value.bool) (by k_memK) (bools_all _)⟩
        · show c.length ≤ 32; omega
        · exact Nat.le_of_ble_eq_true rfl
        · exact Nat.le_of_ble_eq_true rfl
        intro r1 tl1 hp1 tkA1 FA1 NA1 hord1 _ hD1
        replace hD1 : DatIn _ _ (spD (runsF c)) := hD1
        clear F4 N4 hord1
        (k_with "call ref" => ((with_reducible show wpAny _ _ (call (Value.ref 119) _) _ _ _); refine of_stop ?_))
        k_steps
        refine to_stop ?_
        (rename Fr _ _ _ _ => F4); (rename News _ _ _ _ => N4)
        k_dflt (refine tellsA_use (sv := s1) (C := form_tells _ _ _ _ ⟨c, bits, cellAt ns 31 0 + 9, cellAt ns 32 0 + 2⟩) (by assumption) F4 (by assumption) N4 (by assumption) rfl ?_ ?_ ?_ ?_ rfl ?_)
        · exact ⟨_, _, _, _, rfl, DatIn.list (vs := c.map Value.bool) (by k_memK) (bools_all _)⟩
        · exact ⟨⟨hb2, hb5⟩, by dsimp only; rw [hcl', eM]⟩
        · exact Nat.le_of_ble_eq_true rfl
        · exact Nat.le_of_ble_eq_true rfl
        intro r2 tl2 hp2 tkA2 FA2 NA2 hord2 _ hD2
        replace hD2 : DatIn _ r2 (.tuple [spD (runsF c), spD (runsF c)]) := hD2
        clear F4 N4 hord2
        have hE2 := hD2
        obtain ⟨Tr, rfl⟩ := tup_ref hE2
        (k_with "compareOp Eq ref ref" => refine of_stop ?_)
        k_steps
        refine to_stop ?_
        (rename Fr _ _ _ _ => F4); (rename News _ _ _ _ => N4)
        refine dat_eq N4 hD2 (by bits_by_make) (DatIn.tuple (vs := [r1, r1]) (.head _) (.cons (DatIn.mono (by bits_by_make) hD1) (.cons (DatIn.mono (by bits_by_make) hD1) .nil))) sub_i (sp2_ok _ _) (by exact Nat.le_of_ble_eq_true rfl) ?_
        k_steps
)
end
end
end Mine
theorem PySem.Challenge.cw_pq1070_01_holds : PySem.Challenge.rw_pq1070_01.Holds := by
  k_with_none
  exact Mine.law_holds
