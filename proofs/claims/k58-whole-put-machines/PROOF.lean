import PyProof.Rows.All
import Wide.All
import OpenK.AllK
import Wide.FinOn
import KE.KStateDown
import KE.KDictDisplayH
import HandS.ForMost
import HandS.More
import HandS.Defaults
import HandS.WordsExc
import HandS.IsInst
import HandS.Zip
import HandS.Walk
import HandS.Conv
import HandS.NoneIn
import HandS.Style
import HandS.Codes
import HandS.ClsMeth
import KE.GoesZip
import KE.GoesEnum
import KE.GoesMore
import HandS.TupLen
import PySem.Challenge.RW_afterwise_k58_whole_put_machines
import Lean
import HandS.Words
import HandS.Ends
import HandS.Head0
import HandS.Head1
import HandS.Head2
import HandS.HeadEnd
import HandS.HeadHook1
import HandS.HeadHook2
set_option Elab.async false
set_option linter.all false
set_option maxRecDepth 100000
set_option maxHeartbeats 0
namespace AW
open PySem PySem.Spec PyProof.Rows L2

/-! ### heaps with a mask -/
def mk (M : List Addr) (H : Hp) : Hp := fun a => if a ∈ M then none else H a
theorem mk_in {M : List Addr} {H : Hp} {a : Addr} (h : a ∈ M) : mk M H a = none := by unfold mk; rw [if_pos h]
theorem mk_out {M : List Addr} {H : Hp} {a : Addr} (h : a ∉ M) : mk M H a = H a := by unfold mk; rw [if_neg h]
theorem mk_nil {H : Hp} : mk [] H = H := by funext a; exact mk_out (by simp)
theorem mk_same {M : List Addr} {H : Hp} : Same (mk M H) H := fun a o e => by
  by_cases h : a ∈ M
  · rw [mk_in h] at e; cases e
  · rw [mk_out h] at e; exact e
theorem mk_mono {M : List Addr} {H H' : Hp} (s : Same H H') : Same (mk M H) (mk M H') := fun a o e => by
  by_cases h : a ∈ M
  · rw [mk_in h] at e; cases e
  · rw [mk_out h] at e ⊢; exact s _ _ e
theorem mk_upd_in {M : List Addr} {H : Hp} {a : Addr} {o : HO} (h : a ∈ M) : mk M (upd H a o) = mk M H := by
  funext b
  by_cases hb : b ∈ M
  · rw [mk_in hb, mk_in hb]
  · rw [mk_out hb, mk_out hb, upd_ne (fun e => hb (by rw [e]; exact h))]
theorem mk_upd_out {M : List Addr} {H : Hp} {a : Addr} {o : HO} (h : a ∉ M) : mk M (upd H a o) = upd (mk M H) a o := by
  funext b
  by_cases hb : b = a
  · subst hb; rw [mk_out h, upd_same, upd_same]
  · rw [upd_ne hb]
    by_cases hm : b ∈ M
    · rw [mk_in hm, mk_in hm]
    · rw [mk_out hm, mk_out hm, upd_ne hb]
theorem mk_sub {M N : List Addr} {H : Hp} (h : ∀ a ∈ M, a ∈ N) : Same (mk N H) (mk M H) := fun a o e => by
  by_cases hn : a ∈ N
  · rw [mk_in hn] at e; cases e
  · rw [mk_out hn] at e
    rw [mk_out (fun q => hn (h a q))]; exact e
theorem same_upd {H : Hp} {p : Addr} {o : HO} (h : H p = none) : Same H (upd H p o) := fun b x e => by
  rw [upd_ne (ne_of_none e h)]
  exact e
/-- what stood stays where a new thing is changed -/
theorem same_upd2 {H H' : Hp} {p : Addr} {o : HO} (s : Same H H') (h : H p = none) : Same H (upd H' p o) := fun b x e => by
  rw [upd_ne (ne_of_none e h)]
  exact s _ _ e
/-- an object new to the heap, then masked: what was masked before is what is masked now -/
theorem mk_new {M : List Addr} {H : Hp} {D : Addr} {o : HO} (h : H D = none) : mk (D :: M) (upd H D o) = mk M H := by
  rw [mk_upd_in (by simp)]
  funext b
  by_cases hb : b ∈ D :: M
  · rw [mk_in hb]
    rcases List.mem_cons.mp hb with e | e
    · subst e
      by_cases hm : b ∈ M
      · rw [mk_in hm]
      · rw [mk_out hm, h]
    · rw [mk_in e]
  · have hm : b ∉ M := fun q => hb (List.mem_cons_of_mem _ q)
    rw [mk_out hb, mk_out hm]
theorem notin_of {M : List Addr} {H : Hp} (hM : ∀ a ∈ M, H a ≠ none) {p : Addr} (h : H p = none) : p ∉ M := fun q => hM p q h
theorem dom_same {M : List Addr} {H H' : Hp} (hM : ∀ a ∈ M, H a ≠ none) (s : Same H H') : ∀ a ∈ M, H' a ≠ none := fun a ha e => by
  cases q : H a with
  | none => exact hM a ha q
  | some o => rw [s _ _ q] at e; cases e
theorem dom_upd {M : List Addr} {H : Hp} {p : Addr} {o : HO} (hM : ∀ a ∈ M, H a ≠ none) : ∀ a ∈ M, upd H p o a ≠ none := fun a ha e => by
  by_cases h : a = p
  · subst h; rw [upd_same] at e; cases e
  · rw [upd_ne h] at e; exact hM a ha e
theorem dom_cons {M : List Addr} {H : Hp} {p : Addr} {o : HO} (hM : ∀ a ∈ M, H a ≠ none) (h : H p = some o) : ∀ a ∈ p :: M, H a ≠ none := fun a ha e => by
  rcases List.mem_cons.mp ha with q | q
  · subst q; rw [h] at e; cases e
  · exact hM a q e
theorem Same.tup {K : PySem.W.Frag} {H H' : Hp} {a : Addr} {xs : List V} (e : Same H H') (h : SqT K H a xs) : SqT K H' a xs := by
  rcases h with (h | ⟨o, h⟩) | h
  · exact .inl (.inl (e _ _ h))
  · exact .inl (.inr ⟨o, e _ _ h⟩)
  · exact .inr h

/-! ### paired lists -/
theorem pget {α β : Type} {F : α → β → Prop} : ∀ {l : List α} {m : List β} {i : Nat} {a : α}, Paired F l m → l[i]? = some a → ∃ b, m[i]? = some b ∧ F a b
  | _, _, _, _, .nil, e => by simp at e
  | _, _, 0, _, .cons r _, e => by simp at e; subst e; exact ⟨_, rfl, r⟩
  | _, _, i + 1, a, .cons _ t, e => by
    obtain ⟨u, h1, h2⟩ := pget (i := i) (a := a) t (by simpa using e)
    exact ⟨u, by simpa using h1, h2⟩
theorem pgetR {α β : Type} {F : α → β → Prop} : ∀ {l : List α} {m : List β} {i : Nat} {b : β}, Paired F l m → m[i]? = some b → ∃ a, l[i]? = some a ∧ F a b
  | _, _, _, _, .nil, e => by simp at e
  | _, _, 0, _, .cons r _, e => by simp at e; subst e; exact ⟨_, rfl, r⟩
  | _, _, i + 1, b, .cons _ t, e => by
    obtain ⟨u, h1, h2⟩ := pgetR (i := i) (b := b) t (by simpa using e)
    exact ⟨u, by simpa using h1, h2⟩
theorem pmap_of {α β : Type} {F : α → β → Prop} (g : β → α) (h : ∀ b, F (g b) b) : ∀ (m : List β), Paired F (m.map g) m
  | [] => .nil
  | b :: m => .cons (h b) (pmap_of g h m)
theorem pof_map {α β : Type} {F : α → β → Prop} (g : β → α) (h : ∀ a b, F a b → a = g b) : ∀ {l : List α} {m : List β}, Paired F l m → l = m.map g
  | _, _, .nil => rfl
  | _, _, .cons r t => by rw [List.map_cons, ← h _ _ r, ← pof_map g h t]
theorem pset {α β : Type} {F : α → β → Prop} {a : α} {b : β} (r : F a b) : ∀ {l : List α} {m : List β} (i : Nat), Paired F l m → Paired F (l.set i a) (m.set i b)
  | _, _, _, .nil => .nil
  | _, _, 0, .cons _ t => .cons r t
  | _, _, i + 1, .cons q t => .cons q (pset r i t)
theorem pappend {α β : Type} {F : α → β → Prop} : ∀ {l l' : List α} {m m' : List β}, Paired F l m → Paired F l' m' → Paired F (l ++ l') (m ++ m')
  | _, _, _, _, .nil, s => s
  | _, _, _, _, .cons r t, s => .cons r (pappend t s)
theorem prep {α β : Type} {F : α → β → Prop} {a : α} {b : β} (r : F a b) : ∀ n, Paired F (List.replicate n a) (List.replicate n b)
  | 0 => .nil
  | n + 1 => .cons r (prep r n)
theorem ptake {α β : Type} {F : α → β → Prop} : ∀ {l : List α} {m : List β} (n : Nat), Paired F l m → Paired F (l.take n) (m.take n)
  | _, _, 0, _ => .nil
  | _, _, _ + 1, .nil => .nil
  | _, _, n + 1, .cons r t => .cons r (ptake n t)
theorem pdrop {α β : Type} {F : α → β → Prop} : ∀ {l : List α} {m : List β} (n : Nat), Paired F l m → Paired F (l.drop n) (m.drop n)
  | _, _, 0, r => r
  | _, _, _ + 1, .nil => .nil
  | _, _, n + 1, .cons _ t => pdrop n t
theorem pmem {α β : Type} {F : α → β → Prop} {G : α → β → Prop} : ∀ {l : List α} {m : List β}, Paired F l m → (∀ a b, b ∈ m → F a b → G a b) → Paired G l m
  | _, _, .nil, _ => .nil
  | _, _, .cons r t, h => .cons (h _ _ (by simp) r) (pmem t fun a b hb => h a b (by simp [hb]))
theorem pmapR {α β γ : Type} {F : α → β → Prop} {G : α → γ → Prop} (g : β → γ) (h : ∀ a b, F a b → G a (g b)) : ∀ {l : List α} {m : List β}, Paired F l m → Paired G l (m.map g)
  | _, _, .nil => .nil
  | _, _, .cons r t => .cons (h _ _ r) (pmapR g h t)

/-! ### data in the heap -/
abbrev DR (α : Type) := Hp → V → α → Prop
def Mono {α : Type} (R : DR α) : Prop := ∀ H H' v x, Same H H' → R H v x → R H' v x
def dInt : DR Int := fun _ v i => v = .int i
def dNat : DR Nat := fun _ v i => v = .int (i : Int)
def dStr : DR Str := fun _ v z => v = .str z
def dLst {α : Type} (K : PySem.W.Frag) (R : DR α) : DR (List α) := fun H v xs => ∃ a vs, v = .ref a ∧ SqL K H a vs ∧ Paired (R H) vs xs
def dTup {α : Type} (K : PySem.W.Frag) (R : DR α) : DR (List α) := fun H v xs => ∃ a vs, v = .ref a ∧ SqT K H a vs ∧ Paired (R H) vs xs
/-- a list or a tuple -/
def dSeq {α : Type} (K : PySem.W.Frag) (R : DR α) : DR (List α) := fun H v xs => ∃ a vs, v = .ref a ∧ (SqL K H a vs ∨ SqT K H a vs) ∧ Paired (R H) vs xs
def dPair {α β : Type} (K : PySem.W.Frag) (R : DR α) (S : DR β) : DR (α × β) := fun H v p => ∃ a x y, v = .ref a ∧ SqT K H a [x, y] ∧ R H x p.1 ∧ S H y p.2
theorem dInt_mono : Mono dInt := fun _ _ _ _ _ h => h
theorem dNat_mono : Mono dNat := fun _ _ _ _ _ h => h
theorem dStr_mono : Mono dStr := fun _ _ _ _ _ h => h
section
variable {α β : Type} {K : PySem.W.Frag} {R : DR α} {S : DR β}
theorem dLst_mono (m : Mono R) : Mono (dLst K R) := fun H H' v x s ⟨a, vs, e, h, p⟩ => ⟨a, vs, e, s.seq h, Paired.mono (fun _ _ => m _ _ _ _ s) p⟩
theorem dTup_mono (m : Mono R) : Mono (dTup K R) := fun H H' v x s ⟨a, vs, e, h, p⟩ => ⟨a, vs, e, Same.tup s h, Paired.mono (fun _ _ => m _ _ _ _ s) p⟩
theorem dSeq_mono (m : Mono R) : Mono (dSeq K R) := fun H H' v x s ⟨a, vs, e, h, p⟩ => ⟨a, vs, e, h.imp (fun q => s.seq q) (fun q => Same.tup s q), Paired.mono (fun _ _ => m _ _ _ _ s) p⟩
theorem dPair_mono (m : Mono R) (n : Mono S) : Mono (dPair K R S) := fun H H' v p s ⟨a, x, y, e, h, r, t⟩ => ⟨a, x, y, e, Same.tup s h, m _ _ _ _ s r, n _ _ _ _ s t⟩
theorem seq_lst {H : Hp} {v : V} {xs : List α} (h : dLst K R H v xs) : dSeq K R H v xs := let ⟨a, vs, e, q, p⟩ := h; ⟨a, vs, e, .inl q, p⟩
theorem seq_tup {H : Hp} {v : V} {xs : List α} (h : dTup K R H v xs) : dSeq K R H v xs := let ⟨a, vs, e, q, p⟩ := h; ⟨a, vs, e, .inr q, p⟩
/-- elementwise weakening -/
theorem dSeq_imp {T : DR α} {H : Hp} {v : V} {xs : List α} (h : dSeq K R H v xs) (f : ∀ u x, x ∈ xs → R H u x → T H u x) : dSeq K T H v xs := let ⟨a, vs, e, q, p⟩ := h; ⟨a, vs, e, q, pmem p f⟩
theorem dTup_imp {T : DR α} {H : Hp} {v : V} {xs : List α} (h : dTup K R H v xs) (f : ∀ u x, x ∈ xs → R H u x → T H u x) : dTup K T H v xs := let ⟨a, vs, e, q, p⟩ := h; ⟨a, vs, e, q, pmem p f⟩
theorem dLst_imp {T : DR α} {H : Hp} {v : V} {xs : List α} (h : dLst K R H v xs) (f : ∀ u x, x ∈ xs → R H u x → T H u x) : dLst K T H v xs := let ⟨a, vs, e, q, p⟩ := h; ⟨a, vs, e, q, pmem p f⟩
end
theorem ints_of {H : Hp} {vs : List V} {xs : List Int} (p : Paired (dInt H) vs xs) : vs = xs.map V.int := pof_map V.int (fun _ _ h => h) p
theorem of_ints {H : Hp} (xs : List Int) : Paired (dInt H) (xs.map V.int) xs := pmap_of V.int (fun _ => rfl) xs
theorem strs_of {H : Hp} {vs : List V} {xs : List Str} (p : Paired (dStr H) vs xs) : vs = xs.map V.str := pof_map V.str (fun _ _ h => h) p
theorem of_strs {H : Hp} (xs : List Str) : Paired (dStr H) (xs.map V.str) xs := pmap_of V.str (fun _ => rfl) xs

/-- a result: what stood stands, and the value is the datum in the heap without what M masks -/
def Ret {α : Type} (M : List Addr) (H : Hp) (R : DR α) (x : α) (Q : VK) : Prop := ∀ v H', Same H H' → R (mk M H') v x → Q v H'

/-! ### wiped slots -/
theorem wipe1 {σ : L2.St} {i : Nat} {v : Option V} (h : σ.length ≤ i ∨ True) : wipe ((wipe σ [i]).set i v) [i] = wipe σ [i] := by
  show (((σ.set i none).set i v).set i none) = σ.set i none
  rw [List.set_set, List.set_set]

/-! ### comprehensions of one name -/
section
variable {α β : Type} {K : PySem.W.Frag} {R : DR α} {S : DR β}
theorem len_ok {n : Nat} (h : n < 16000000) : n < sizeLine := Nat.lt_of_lt_of_le h (by rw [sizeLine_eq]; decide)
theorem le_ok {n : Nat} (h : n ≤ 16000000) : n ≤ sizeLine := Nat.le_trans h (by rw [sizeLine_eq]; decide)
/-- [e for x in J] where each turn gives the next datum: J any walk that leaves the heap as it is -/
theorem lc_gen {J : It} {n : Nat} {G : Hp → Prop} {Y : Nat → Hp → V → Hp → Prop} (w : Walk J n G Y) {g : TG} {te : TE} {vs : List Nat} {σ : L2.St} {H1 : Hp} {D : Addr} {Qd : Hp → Prop} {M : List Addr} (f : Nat → α)
    (mR : Mono R) (hD : H1 D = none) (hM : ∀ a ∈ M, H1 a ≠ none) (hn : n ≤ 16000000) (hG : ∀ H, Same H1 H → G H)
    (he : ∀ i x H H', i < n → Same H1 H → Same (mk M H1) (mk (D :: M) H) → H D ≠ none → (∀ a ∈ M, H a ≠ none) → Y i H x H' → ∃ σ2 H2, (∀ k : L2.St → Hp → Prop, k σ2 H2 → g x (wipe σ vs) H' k) ∧ wipe σ2 vs = wipe σ vs ∧
      ∀ Q : VK, (∀ y H4, Same H H4 → R (mk (D :: M) H4) y (f i) → Q y H4) → te σ2 H2 Q)
    (hd : ∀ H, Same H1 H → (∃ ys, H D = some (.lst ys) ∧ Paired (R (mk M H)) ys ((List.range n).map f)) → Qd H) :
    ∃ W : Nat → Nat → Hp → Prop, (∃ m, W 0 m (upd H1 D (.lst []))) ∧ ∀ i m H, W i m H →
      (J.stop i H ∧ Qd H) ∨ (J.go i H ∧ ∃ Nx : Hp → Prop, (∀ H', Nx H' → ∃ m', m' < m ∧ W (i + 1) m' H') ∧ ∀ x H', J.yld i H x H' → g x (wipe σ vs) H' fun σ2 H2 => wipe σ2 vs = wipe σ vs ∧ tYes σ2 H2 fun b H3 =>
        if b = true then te σ2 H3 fun y H4 => ∃ acc, H4 D = some (.lst acc) ∧ acc.length < sizeLine ∧ Nx (upd H4 D (.lst (acc ++ [y]))) else Nx H3) := by
  have key : ∀ {H}, Same H1 H → Same (mk M H1) (mk (D :: M) H) := fun {H} s a o e => by
    by_cases hm : a ∈ M
    · rw [mk_in hm] at e; cases e
    · rw [mk_out hm] at e
      have hne : a ∉ D :: M := fun q => by
        rcases List.mem_cons.mp q with q | q
        · subst q; rw [hD] at e; cases e
        · exact hm q
      rw [mk_out hne]; exact s _ _ e
  refine lc_it w (fun i H => Same H1 H ∧ ∃ acc, H D = some (.lst acc) ∧ Paired (R (mk (D :: M) H)) acc ((List.range i).map f))
    ⟨same_upd hD, [], upd_same, .nil⟩ (fun i H _ p => hG H p.1) (fun i x H H' hi p y => ?_) (fun H p => ?_)
  · obtain ⟨s1, acc, hA, pA⟩ := p
    obtain ⟨σ2, H2, k1, k2, k3⟩ := he i x H H' hi s1 (key s1) (by rw [hA]; exact fun z => nomatch z) (dom_same hM s1) y
    refine k1 _ ⟨k2, ?_⟩
    unfold tYes; dsimp only
    rw [if_pos rfl]
    refine k3 _ fun y H4 s4 r4 => ⟨acc, s4 _ _ hA, ?_, ?_, acc ++ [y], upd_same, ?_⟩
    · have e := Paired.length pA
      rw [List.length_map, List.length_range] at e
      exact len_ok (by omega)
    · exact same_upd2 (s1.trans s4) hD
    · rw [mk_upd_in (by simp), List.range_succ, List.map_append]
      exact Paired.snoc (Paired.mono (fun _ _ => mR _ _ _ _ (mk_mono s4)) pA) r4
  · obtain ⟨s1, acc, hA, pA⟩ := p
    exact hd H s1 ⟨acc, hA, Paired.mono (fun _ _ => mR _ _ _ _ (mk_sub fun a ha => by simp [ha])) pA⟩
end
end AW
namespace AW
open PySem PySem.Spec PyProof.Rows L2

/-! ### what is walked: a list or a tuple -/
def iSeq (K : PySem.W.Frag) (tl : TE) : TI := fun σ H R => tl σ H fun x H1 => ∃ a xs, x = .ref a ∧ ((SqL K H1 a xs ∧ R (Itl K a) H1) ∨ (SqT K H1 a xs ∧ R (Itt K a) H1))
theorem pi_seq {X : Cx} {tg l : Expr} {tl : TE} (hl : PE X l tl) : PI X tg l (iSeq X.K tl) := by
  refine ⟨fun pins s σ H R I h => ?_⟩
  refine thn (hl.run pins s σ H _ I h) fun v s1 ⟨x, H1, I1, r1, q1⟩ => ?_
  obtain ⟨a, xs, e, q1⟩ := q1
  subst e
  cases r1
  rcases q1 with ⟨hq, q⟩ | ⟨hq, q⟩
  · obtain ⟨its, rv, p, hz⟩ := I1.list hq
    refine wpAny_pyIter_list p.isList ?_
    refine ⟨s1.heap.objs.size, [s1.heap.objs.size], _, _, H1, rfl, I1.kept (t' := s1.toks) fun b o e => Heap.get?_push_of_some _ e, turn_list a _, ⟨_, Heap.get?_push_size _ rfl, rfl, rfl⟩, fun b hb => ?_, q⟩
    have e : b = s1.heap.objs.size := by simpa using hb
    subst e
    exact I1.fpOk (Nat.le_refl _) (I1.hok.fresh (Nat.le_refl _))
  · obtain ⟨its, rv, p, hz⟩ := I1.tuple hq
    refine wpAny_pyIter_tuple (show s1.heap.IsTuple a its.toArray from p) ?_
    refine ⟨s1.heap.objs.size, [s1.heap.objs.size], _, _, H1, rfl, I1.kept (t' := s1.toks) fun b o e => Heap.get?_push_of_some _ e, turn_tuple a _, ⟨_, Heap.get?_push_size _ rfl, rfl, rfl⟩, fun b hb => ?_, q⟩
    have e : b = s1.heap.objs.size := by simpa using hb
    subst e
    exact I1.fpOk (Nat.le_refl _) (I1.hok.fresh (Nat.le_refl _))

/-! ### enumerate(tuple), enumerate(text) -/
def IteT (K : PySem.W.Frag) (a : Addr) : It :=
  ⟨fun i H => ∃ (xs : List V) (x : V), SqT K H a xs ∧ xs[i]? = some x, fun i H v H' => ∃ T x, v = .ref T ∧ H T = none ∧ H' = upd H T (.tup [.int (i : Nat), x]) ∧ ∀ xs, SqT K H a xs → xs[i]? = some x, fun i H => ∃ xs : List V, SqT K H a xs ∧ xs.length = i⟩
theorem turn_enumT {P : Program} {w : World} {K : PySem.W.Frag} {elts : List Expr} {kk : Nat} {tpos : Pos} (a e it : Addr) (hae : a ≠ e) (hai : a ≠ it) :
    Turn P w K (.Tuple elts kk tpos) (IteT K a) [e, it] e (fun i h => (∃ old, IsEnum h e it ((i : Nat) : Int) old) ∧ h.IsTupleIter it a i ∧ e ≠ it) where
  mem := by simp
  obj := fun i h st b hb => by
    obtain ⟨⟨old, he⟩, ⟨o, ho, hc, hd⟩, _⟩ := st
    have e' : b = e ∨ b = it := by simpa using hb
    rcases e' with z | z
    · rw [z]; exact ⟨_, he, fun v q => nomatch q⟩
    · rw [z]; exact ⟨o, ho, fun v q => by rw [hd] at q; cases q⟩
  keep := fun i h h' st k => let ⟨⟨old, he⟩, hi, hne⟩ := st; ⟨⟨old, k e (by simp) _ he⟩, hi.at fun o q => k it (by simp) o q, hne⟩
  item := by
    intro X hP hw hK hc i pins s σ H E I hf st hg
    subst hP hw hK
    obtain ⟨⟨old, he⟩, hit, hne⟩ := st
    obtain ⟨xs, x, hq, hx⟩ := hg
    obtain ⟨its, rv, p, hz⟩ := I.tuple hq
    obtain ⟨u, hu, ru⟩ := rv.get hx
    have hel : e < s.heap.objs.size := Heap.lt_size he
    have hil : it < s.heap.objs.size := by obtain ⟨_, q, _⟩ := hit; exact Heap.lt_size q
    have hu' : its.toArray[i]? = some u := by simpa using hu
    have hlt : i < its.toArray.size := (Array.getElem?_eq_some_iff.mp hu').1
    refine wpAny_pyNext_enum_itemD (Draws.tuple (A := X.A.in1) (I.ok.hd hc) it a hai its.toArray) he ⟨hit, show s.heap.IsTuple a its.toArray from p⟩ hlt hne (by simp [hne, Ne.symm hae]) fun x' h' tk hP' ho hs' hT hsz hk => ?_
    obtain rfl : u = x' := by
      have e2 : its.toArray[i]? = some x' := hP'
      rw [hu'] at e2
      exact Option.some.inj e2
    refine ⟨_, rfl, wpAny_letOwnedTupleGo_enum (s := { s with heap := h', toks := tk + 1 }) ho fun h'' he' sb => ?_⟩
    have hT2 : h''.get? s.heap.objs.size = some { cls := .type "tuple", data := .seq #[.int i tk, u] } := (sb.2 _ (Nat.ne_of_gt hel)).trans hT
    have new : ObjOk X.prog X.w (upd H s.heap.objs.size (.tup [.int (i : Nat), x])) h'' s.heap.objs.size (.tup [.int (i : Nat), x]) :=
      ⟨by show 2 ≤ sizeLine; decide, [.int i tk, u], .cons ⟨_, rfl⟩ (.cons ru .nil), ⟨_, hT2, rfl, _, rfl⟩⟩
    have I1 : Inv X pins σ (upd H s.heap.objs.size (.tup [.int (i : Nat), x])) { s with heap := h'', toks := tk + 1 } :=
      I.turnedNew (ch := [e, it]) (fun b ob hb q => (sb.2 b (fun z => hb (by simp [z]))).trans (hk b ob (fun z => hb (by simp [z])) (fun z => hb (by simp [z])) q)) hf (Nat.le_refl _) new
    refine ⟨.ref s.heap.objs.size, _, I1, rfl, ⟨_, x, rfl, I.hok.fresh (Nat.le_refl _), rfl, fun ys hy => by rw [I.tuple_inj hy hq]; exact hx⟩, ⟨⟨u, ?_⟩, hs'.1.at fun o q => (sb.2 it (Ne.symm hne)).trans q, hne⟩, fun b hb => ?_⟩
    · have e1 : ((i + 1 : Nat) : Int) = (i : Int) + 1 := by omega
      rw [e1]; exact he'
    · have hb' : b < s.heap.objs.size := by
        have e' : b = e ∨ b = it := by simpa using hb
        rcases e' with z | z
        · rw [z]; exact hel
        · rw [z]; exact hil
      rw [upd_ne (Nat.ne_of_lt hb')]
      exact (hf b hb).1
  done := by
    intro X hP hw hK hc i pins s σ H E I hf st hg
    subst hP hw hK
    obtain ⟨⟨old, he⟩, hit, hne⟩ := st
    obtain ⟨xs, hq, hx⟩ := hg
    obtain ⟨its, rv, p, hz⟩ := I.tuple hq
    obtain ⟨f0, f1, f2, f3, f4, f5⟩ := hf it (by simp)
    have hl := rv.length
    have hi : i = its.toArray.size := by simp; omega
    subst hi
    exact wpAny_pyNext_enum_endD (Draws.tuple (A := X.A.in1) (I.ok.hd hc) it a hai its.toArray) he ⟨hit, show s.heap.IsTuple a its.toArray from p⟩ fun h' eb => ⟨rfl, I.turned (t' := s.toks) (fun b o hb q => eb b o hb q) f0 f1 f3 f4 f5⟩
  self := fun A i s Q E st h => let ⟨⟨_, he⟩, _⟩ := st; wpAny_pyIter_enum he h

set_option maxHeartbeats 1000000 in
theorem meets_enum1 {v : Value} {o : Obj} {H : Heap → Prop} (B : Begins v o H) :
    Meets (Builtin.«enumerate.__new__» ⟨[.type "enumerate", v], []⟩) (fun _ R s => H s.heap ∧
      R (.ok (.ret (.ref (s.heap.push o).objs.size))) { s with heap := (s.heap.push o).push { cls := .type "enumerate", data := .fields #[.none, .bool false, .ref s.heap.objs.size, rawInt 0, .none, .none] } }) :=
  .of_wp fun prog w A R s h => by
    obtain ⟨hp, g, d, tk, os⟩ := s; obtain ⟨h1, h⟩ := h
    have hsub := sub_enumerate
    have q1 : ∀ {A' : Around} {E : Value → Shared → Prop} {Q : Value → Shared → Prop}, Q (.ref hp.objs.size) ⟨hp.push o, g, d, tk, os⟩ → wpAny (model prog w) A' (pyIter v) Q E ⟨hp, g, d, tk, os⟩ :=
      fun q => B.iter prog w _ _ ⟨hp, g, d, tk, os⟩ _ h1 q
    wp_walk using q1
    refine wpAny_stack_any fun st => wpAny_pure ?_
    split
    · rename_i c _ _ _ _ _
      cases (c == Value.type "enumerate")
      · wp_walk using q1
        exact ⟨_, rfl, h⟩
      · wp_walk using q1
        exact ⟨_, rfl, h⟩
    · wp_walk using q1
      exact ⟨_, rfl, h⟩
section
variable {prog : Program} {w : World} {A : Around} {E : Value → Shared → Prop} {s : Shared}
theorem enum1_begins {v : Value} {o : Obj} {H : Heap → Prop} {Q : Value → Shared → Prop} (B : Begins v o H) (h1 : H s.heap)
    (h : ∀ h', IsEnum h' (s.heap.objs.size + 1) s.heap.objs.size 0 .none → h'.get? s.heap.objs.size = some o → h'.objs.size = s.heap.objs.size + 2 →
      (∀ b o, s.heap.get? b = some o → h'.get? b = some o) → Q (.ref (s.heap.objs.size + 1)) { s with heap := h' }) :
    wpAny (model prog w) A (call (.type "enumerate") [v]) Q E s := by
  refine callType_new F.called_enumerate (by decide) (F.typeCall_enumerate_1 _) (F.newCall_enumerate_1 _) (fun obj => F.args_object_init_2 obj _) F.entry_enumerate_new
    (meets_enum1 B) ⟨h1, ?_⟩
  have hz : (s.heap.push o).objs.size = s.heap.objs.size + 1 := Heap.size_push ..
  show _ ∧ _
  rw [hz]
  have he : IsEnum ((s.heap.push o).push { cls := .type "enumerate", data := .fields #[.none, .bool false, .ref s.heap.objs.size, rawInt 0, .none, .none] }) (s.heap.objs.size + 1) s.heap.objs.size 0 .none := by
    have := Heap.get?_push_size (s.heap.push o) (o := { cls := .type "enumerate", data := .fields #[.none, .bool false, .ref s.heap.objs.size, rawInt 0, .none, .none] }) rfl
    rw [hz] at this; exact this
  refine ⟨⟨_, he, rfl⟩, h _ he (Heap.get?_push_of_some _ (Heap.get?_push_size _ B.free)) (by rw [Heap.size_push, hz]) fun b o x => Heap.get?_push_of_some _ (Heap.get?_push_of_some _ x)⟩
end
def iEnumT (K : PySem.W.Frag) (ta : TA) : TI := fun σ H R => ta σ H fun vs H1 => ∃ a xs, vs = [.ref a] ∧ SqT K H1 a xs ∧ R (IteT K a) H1
theorem pi_enumT {X : Cx} {e : Expr} {ta : TA} {p pos tpos : Pos} {elts : List Expr} {kk : Nat} (hg : Gl X "enumerate") (hm : X.mg "enumerate" = none) (ha : PA X [e] ta) (hs : starEach [e] X.env = [(false, eval e X.env)] := by rfl) :
    PI X (.Tuple elts kk tpos) (.Call (.Name "enumerate" p) [e] [] pos) (iEnumT X.K ta) := by
  refine ⟨fun pins s σ H R I h => ?_⟩
  refine Call_ (ld_blt I hg hm boot_enumerate (PyProof.Rows.callWith_type1 (thn (ha.run pos pins s σ H _ I h) fun us s1 ⟨vs, H1, I1, r1, q1⟩ => ?_) hs rfl))
  obtain ⟨a, xs, ex, hq, q⟩ := q1
  subst ex
  cases r1 with
  | cons r rr =>
    cases rr
    cases r
    obtain ⟨its, rv, p', hz⟩ := I1.tuple hq
    have hlt : a < s1.heap.objs.size := p'.lt
    refine enum1_begins (begins_tuple a its.toArray) (show s1.heap.IsTuple a its.toArray from p') fun h' he hit hsz hk => wpAny_pyIter_enum he ?_
    have I2 : Inv X pins σ H1 { s1 with heap := h' } := I1.kept (t' := s1.toks) hk
    refine ⟨s1.heap.objs.size + 1, [s1.heap.objs.size + 1, s1.heap.objs.size], _, _, H1, rfl, I2, turn_enumT a (s1.heap.objs.size + 1) s1.heap.objs.size (Nat.ne_of_lt (Nat.lt_succ_of_lt hlt)) (Nat.ne_of_lt hlt), ⟨⟨.none, he⟩, ⟨_, hit, rfl, rfl⟩, Nat.succ_ne_self _⟩, fun b hb => ?_, q⟩
    have e' : b = s1.heap.objs.size + 1 ∨ b = s1.heap.objs.size := by simpa using hb
    have hle : s1.heap.objs.size ≤ b := by
      rcases e' with z | z
      · rw [z]; exact Nat.le_add_right _ _
      · rw [z]; exact Nat.le_refl _
    exact I1.fpOk hle (I1.hok.fresh hle)
theorem walk_enumT {K : PySem.W.Frag} {a : Addr} {xs : List V} : Walk (IteT K a) xs.length (fun H => SqT K H a xs) (YPair (fun i => some (.int (i : Nat))) (fun i => xs[i]?)) := by
  refine ⟨fun i _ hi q => ⟨xs, xs[i], q, by simp [hi]⟩, fun _ q => ⟨xs, q, rfl⟩, fun i H v H' _ q y => ?_⟩
  obtain ⟨T, x, h1, h2, h3, h4⟩ := y
  exact ⟨T, .int (i : Nat), x, h1, h2, h3, rfl, h4 xs q⟩

/-! text -/
def IteS (z : Str) : It :=
  ⟨fun i _ => i < z.cps.size, fun i H v H' => ∃ T c, v = .ref T ∧ H T = none ∧ H' = upd H T (.tup [.int (i : Nat), .str ⟨#[c]⟩]) ∧ z.cps[i]? = some c, fun i _ => i = z.cps.size⟩
theorem turn_enumS {P : Program} {w : World} {K : PySem.W.Frag} {elts : List Expr} {kk : Nat} {tpos : Pos} (z : Str) (t : Tok) (e it : Addr) :
    Turn P w K (.Tuple elts kk tpos) (IteS z) [e, it] e (fun i h => (∃ old, IsEnum h e it ((i : Nat) : Int) old) ∧ h.IsStrIter it (strIterType z) z t i ∧ e ≠ it) where
  mem := by simp
  obj := fun i h st b hb => by
    obtain ⟨⟨old, he⟩, ⟨o, ho, hc, hd⟩, _⟩ := st
    have e' : b = e ∨ b = it := by simpa using hb
    rcases e' with z | z
    · rw [z]; exact ⟨_, he, fun v q => nomatch q⟩
    · rw [z]; exact ⟨o, ho, fun v q => by rw [hd] at q; cases q⟩
  keep := fun i h h' st k => let ⟨⟨old, he⟩, hi, hne⟩ := st; ⟨⟨old, k e (by simp) _ he⟩, (let ⟨o, q1, q2⟩ := hi; ⟨o, k it (by simp) o q1, q2⟩), hne⟩
  item := by
    intro X hP hw hK hc i pins s σ H E I hf st hg
    subst hP hw hK
    obtain ⟨⟨old, he⟩, hit, hne⟩ := st
    have hel : e < s.heap.objs.size := Heap.lt_size he
    have hil : it < s.heap.objs.size := by obtain ⟨_, q, _⟩ := hit; exact Heap.lt_size q
    refine wpAny_pyNext_enum_itemD (Draws.text (A := X.A.in1) (I.ok.hd hc) it z t) he hit hg hne (by simp [hne]) fun x' h' tk hP' ho hs' hT hsz hk => ?_
    obtain ⟨c, u, hcu, rfl⟩ := hP'
    refine ⟨_, rfl, wpAny_letOwnedTupleGo_enum (s := { s with heap := h', toks := tk + 1 }) ho fun h'' he' sb => ?_⟩
    have hT2 : h''.get? s.heap.objs.size = some { cls := .type "tuple", data := .seq #[.int i tk, .str ⟨#[c]⟩ u] } := (sb.2 _ (Nat.ne_of_gt hel)).trans hT
    have new : ObjOk X.prog X.w (upd H s.heap.objs.size (.tup [.int (i : Nat), .str ⟨#[c]⟩])) h'' s.heap.objs.size (.tup [.int (i : Nat), .str ⟨#[c]⟩]) :=
      ⟨by show 2 ≤ sizeLine; decide, [.int i tk, .str ⟨#[c]⟩ u], .cons ⟨_, rfl⟩ (.cons ⟨_, rfl⟩ .nil), ⟨_, hT2, rfl, _, rfl⟩⟩
    have I1 : Inv X pins σ (upd H s.heap.objs.size (.tup [.int (i : Nat), .str ⟨#[c]⟩])) { s with heap := h'', toks := tk + 1 } :=
      I.turnedNew (ch := [e, it]) (fun b ob hb q => (sb.2 b (fun z => hb (by simp [z]))).trans (hk b ob (fun z => hb (by simp [z])) (fun z => hb (by simp [z])) q)) hf (Nat.le_refl _) new
    refine ⟨.ref s.heap.objs.size, _, I1, rfl, ⟨_, c, rfl, I.hok.fresh (Nat.le_refl _), rfl, hcu⟩, ⟨⟨.str ⟨#[c]⟩ u, ?_⟩, (let ⟨o, q1, q2⟩ := hs'; ⟨o, (sb.2 it (Ne.symm hne)).trans q1, q2⟩), hne⟩, fun b hb => ?_⟩
    · have e1 : ((i + 1 : Nat) : Int) = (i : Int) + 1 := by omega
      rw [e1]; exact he'
    · have hb' : b < s.heap.objs.size := by
        have e' : b = e ∨ b = it := by simpa using hb
        rcases e' with z | z
        · rw [z]; exact hel
        · rw [z]; exact hil
      rw [upd_ne (Nat.ne_of_lt hb')]
      exact (hf b hb).1
  done := by
    intro X hP hw hK hc i pins s σ H E I hf st hg
    subst hP hw hK
    obtain ⟨⟨old, he⟩, hit, hne⟩ := st
    obtain ⟨f0, f1, f2, f3, f4, f5⟩ := hf it (by simp)
    have hg' : i = z.cps.size := hg
    subst hg'
    exact wpAny_pyNext_enum_endD (Draws.text (A := X.A.in1) (I.ok.hd hc) it z t) he hit fun h' eb => ⟨rfl, I.turned (t' := s.toks) (fun b o hb q => eb b o hb q) f0 f1 f3 f4 f5⟩
  self := fun A i s Q E st h => let ⟨⟨_, he⟩, _⟩ := st; wpAny_pyIter_enum he h
def iEnumS (ta : TA) : TI := fun σ H R => ta σ H fun vs H1 => ∃ z, vs = [.str z] ∧ R (IteS z) H1
theorem pi_enumS {X : Cx} {e : Expr} {ta : TA} {p pos tpos : Pos} {elts : List Expr} {kk : Nat} (hg : Gl X "enumerate") (hm : X.mg "enumerate" = none) (ha : PA X [e] ta) (hs : starEach [e] X.env = [(false, eval e X.env)] := by rfl) :
    PI X (.Tuple elts kk tpos) (.Call (.Name "enumerate" p) [e] [] pos) (iEnumS ta) := by
  refine ⟨fun pins s σ H R I h => ?_⟩
  refine Call_ (ld_blt I hg hm boot_enumerate (PyProof.Rows.callWith_type1 (thn (ha.run pos pins s σ H _ I h) fun us s1 ⟨vs, H1, I1, r1, q1⟩ => ?_) hs rfl))
  obtain ⟨z, ex, q⟩ := q1
  subst ex
  cases r1 with
  | cons r rr =>
    cases rr
    obtain ⟨t, rfl⟩ := r
    refine enum1_begins (begins_text z t) trivial fun h' he hit hsz hk => wpAny_pyIter_enum he ?_
    have I2 : Inv X pins σ H1 { s1 with heap := h' } := I1.kept (t' := s1.toks) hk
    refine ⟨s1.heap.objs.size + 1, [s1.heap.objs.size + 1, s1.heap.objs.size], _, _, H1, rfl, I2, turn_enumS z t (s1.heap.objs.size + 1) s1.heap.objs.size, ⟨⟨.none, he⟩, ⟨_, hit, rfl, rfl⟩, Nat.succ_ne_self _⟩, fun b hb => ?_, q⟩
    have e' : b = s1.heap.objs.size + 1 ∨ b = s1.heap.objs.size := by simpa using hb
    have hle : s1.heap.objs.size ≤ b := by
      rcases e' with z | z
      · rw [z]; exact Nat.le_add_right _ _
      · rw [z]; exact Nat.le_refl _
    exact I1.fpOk hle (I1.hok.fresh hle)
theorem walk_enumS {z : Str} : Walk (IteS z) z.cps.size (fun _ => True) (fun i H v H' => ∃ T c, v = .ref T ∧ H T = none ∧ H' = upd H T (.tup [.int (i : Nat), .str ⟨#[c]⟩]) ∧ z.cps[i]? = some c) :=
  ⟨fun _ _ hi _ => hi, fun _ _ => rfl, fun _ _ _ _ _ _ y => y⟩
end AW
namespace AW
open PySem PySem.Spec PyProof.Rows L2

/-! ### zip(tuple, list) -/
def ItzTL (K : PySem.W.Frag) (a b : Addr) : It :=
  ⟨fun i H => ∃ (xs ys : List V) (x y : V), SqT K H a xs ∧ SqL K H b ys ∧ xs[i]? = some x ∧ ys[i]? = some y,
    fun i H v H' => ∃ T x y, v = .ref T ∧ H T = none ∧ H' = upd H T (.tup [x, y]) ∧ (∀ xs, SqT K H a xs → xs[i]? = some x) ∧ ∀ ys, SqL K H b ys → ys[i]? = some y,
    fun i H => ∃ xs ys : List V, SqT K H a xs ∧ SqL K H b ys ∧ i ≤ xs.length ∧ i ≤ ys.length ∧ (i = xs.length ∨ i = ys.length)⟩
theorem turn_zipTL {P : Program} {w : World} {K : PySem.W.Frag} {elts : List Expr} {kk : Nat} {tpos : Pos} {a b z TI TO i1 i2 : Addr} (S : ZipSep2 z TI TO i1 i2 [i1, a] [i2, b]) (hai : a ≠ i1) (hbi : b ≠ i2) :
    Turn P w K (.Tuple elts kk tpos) (ItzTL K a b) [z, TI, TO, i1, i2] z (fun i h => IsZip h z TI TO .none ∧ IsTupOf2 h TI (.ref i1) (.ref i2) ∧ (∃ x y, IsTupOf2 h TO x y) ∧ h.IsTupleIter i1 a i ∧ h.IsListIter i2 b i) where
  mem := by simp
  obj := fun i h st c hc => by
    obtain ⟨hz, hTI, ⟨x, y, hTO⟩, ⟨o1, e1, _, d1⟩, ⟨o2, e2, _, d2⟩⟩ := st
    have e' : c = z ∨ c = TI ∨ c = TO ∨ c = i1 ∨ c = i2 := by simpa using hc
    rcases e' with q | q | q | q | q
    · rw [q]; exact ⟨_, hz, fun v q => nomatch q⟩
    · rw [q]; exact ⟨_, hTI, fun v q => nomatch q⟩
    · rw [q]; exact ⟨_, hTO, fun v q => nomatch q⟩
    · rw [q]; exact ⟨o1, e1, fun v q => by rw [d1] at q; cases q⟩
    · rw [q]; exact ⟨o2, e2, fun v q => by rw [d2] at q; cases q⟩
  keep := fun i h h' st k => by
    obtain ⟨hz, hTI, ⟨x, y, hTO⟩, h1, h2⟩ := st
    exact ⟨k z (by simp) _ hz, k TI (by simp) _ hTI, ⟨x, y, k TO (by simp) _ hTO⟩, h1.at fun o q => k i1 (by simp) o q, h2.at fun o q => k i2 (by simp) o q⟩
  item := by
    intro X hP hw hK hc i pins s σ H E I hf st hg
    subst hP hw hK
    obtain ⟨hz, hTI, ⟨x0, y0, hTO⟩, h1, h2⟩ := st
    obtain ⟨xs, ys, x, y, hqx, hqy, hx, hy⟩ := hg
    obtain ⟨its, rv, p, _⟩ := I.tuple hqx
    obtain ⟨its2, rv2, p2, _⟩ := I.list hqy
    obtain ⟨u, hu, ru⟩ := rv.get hx
    obtain ⟨u2, hu2, ru2⟩ := rv2.get hy
    have hzl : z < s.heap.objs.size := Heap.lt_size hz
    have hu' : its.toArray[i]? = some u := by simpa using hu
    have hu2' : its2.toArray[i]? = some u2 := by simpa using hu2
    refine wpAny_pyNext_zipD2_item S (Draws.tuple (A := X.A.in1) (I.ok.hd hc) i1 a hai its.toArray) (Draws.list (A := X.A.in1) (I.ok.hd hc) i2 b hbi its2.toArray) hz hTI hTO ⟨h1, show s.heap.IsTuple a its.toArray from p⟩ ⟨h2, p2.isList⟩
      (Array.getElem?_eq_some_iff.mp hu').1 (Array.getElem?_eq_some_iff.mp hu2').1 fun w1 w2 h' tk e1 e2 z' TO' h1' h2' hT hsz hk => ?_
    obtain rfl : u = w1 := Option.some.inj (hu'.symm.trans e1)
    obtain rfl : u2 = w2 := Option.some.inj (hu2'.symm.trans e2)
    refine ⟨_, rfl, wpAny_letOwnedTupleGo_zip (s := { s with heap := h', toks := tk }) z' fun h'' z'' sb => ?_⟩
    have hT2 : h''.get? s.heap.objs.size = some { cls := .type "tuple", data := .seq #[u, u2] } := (sb.2 _ (Nat.ne_of_gt hzl)).trans hT
    have new : ObjOk X.prog X.w (upd H s.heap.objs.size (.tup [x, y])) h'' s.heap.objs.size (.tup [x, y]) :=
      ⟨by show 2 ≤ sizeLine; decide, [u, u2], .cons ru (.cons ru2 .nil), ⟨_, hT2, rfl, _, rfl⟩⟩
    have I1 : Inv X pins σ (upd H s.heap.objs.size (.tup [x, y])) { s with heap := h'', toks := tk } :=
      I.turnedNew (t' := tk) (ch := [z, TI, TO, i1, i2]) (fun c o hb q => (sb.2 c (fun q' => hb (by simp [q']))).trans (hk c o (fun q' => hb (by simp [q'])) (fun q' => hb (by simp [q'])) (fun q' => hb (by simp [q'])) (fun q' => hb (by simp [q'])) q)) hf (Nat.le_refl _) new
    refine ⟨.ref s.heap.objs.size, _, I1, rfl, ⟨_, x, y, rfl, I.hok.fresh (Nat.le_refl _), rfl, fun l hl => by rw [I.tuple_inj hl hqx]; exact hx, fun l hl => by rw [I.list_inj hl hqy]; exact hy⟩, ⟨z'', ?_, ⟨u, u2, ?_⟩, ?_, ?_⟩, fun c hcm => ?_⟩
    · exact (sb.2 _ S.TIz).trans (hk _ _ S.TIz S.TITO S.TIi1 S.TIi2 hTI)
    · exact (sb.2 _ S.TOz).trans TO'
    · exact h1'.1.at fun o q => (sb.2 _ (Ne.symm S.zi1)).trans q
    · exact h2'.1.at fun o q => (sb.2 _ (Ne.symm S.zi2)).trans q
    · have hlt : c < s.heap.objs.size := by
        have e' : c = z ∨ c = TI ∨ c = TO ∨ c = i1 ∨ c = i2 := by simpa using hcm
        rcases e' with q | q | q | q | q
        · rw [q]; exact hzl
        · rw [q]; exact Heap.lt_size hTI
        · rw [q]; exact Heap.lt_size hTO
        · rw [q]; obtain ⟨_, e1, _⟩ := h1; exact Heap.lt_size e1
        · rw [q]; obtain ⟨_, e2, _⟩ := h2; exact Heap.lt_size e2
      rw [upd_ne (Nat.ne_of_lt hlt)]
      exact (hf c hcm).1
  done := by
    intro X hP hw hK hc i pins s σ H E I hf st hg
    subst hP hw hK
    obtain ⟨hz, hTI, ⟨x0, y0, hTO⟩, h1, h2⟩ := st
    obtain ⟨xs, ys, hqx, hqy, hl1, hl2, hend⟩ := hg
    obtain ⟨its, rv, p, _⟩ := I.tuple hqx
    obtain ⟨its2, rv2, p2, _⟩ := I.list hqy
    have l1 := rv.length
    have l2 := rv2.length
    refine wpAny_pyNext_zipD2_end S (Draws.tuple (A := X.A.in1) (I.ok.hd hc) i1 a hai its.toArray) (Draws.list (A := X.A.in1) (I.ok.hd hc) i2 b hbi its2.toArray) hz hTI hTO ⟨h1, show s.heap.IsTuple a its.toArray from p⟩ ⟨h2, p2.isList⟩
      (by simp; omega) (by simp; omega) (by simp; omega) fun h' tk hk => ⟨rfl, I.turnedL (t' := tk) (ch := [z, TI, TO, i1, i2]) (fun c o hb q =>
      hk c o (fun q' => hb (by simp [q'])) (fun q' => hb (by simp [q'])) (fun q' => hb (by simp [q'])) (fun q' => hb (by simp [q'])) q) hf⟩
  self := fun A i s Q E st h => wpAny_pyIter_zip st.1 h
def iZipTL (K : PySem.W.Frag) (ta : TA) : TI := fun σ H R => ta σ H fun vs H1 => ∃ a b xs ys, vs = [.ref a, .ref b] ∧ SqT K H1 a xs ∧ SqL K H1 b ys ∧ R (ItzTL K a b) H1
theorem pi_zipTL {X : Cx} {e e2 : Expr} {ta : TA} {p pos tpos : Pos} {elts : List Expr} {kk : Nat} (hg : Gl X "zip") (hm : X.mg "zip" = none) (ha : PA X [e, e2] ta)
    (hs : starEach [e, e2] X.env = (false, eval e X.env) :: starEach [e2] X.env := by rfl) (hpl : (backTo pos (starEach [e2] X.env)).any (·.1) = false := by rfl) :
    PI X (.Tuple elts kk tpos) (.Call (.Name "zip" p) [e, e2] [] pos) (iZipTL X.K ta) := by
  refine ⟨fun pins s σ H R I h => ?_⟩
  refine Call_ (ld_blt I hg hm PyProof.Rows.boot_zip (PyProof.Rows.callWith_type1 (thn (ha.run pos pins s σ H _ I h) fun us s1 ⟨vs, H1, I1, r1, q1⟩ => ?_) hs hpl))
  obtain ⟨a, b, xs, ys, ex, hqx, hqy, q⟩ := q1
  subst ex
  cases r1 with
  | cons r rr =>
    cases rr with
    | cons r' rr =>
      cases rr
      cases r
      cases r'
      have fresh5 : ∀ c, c ∈ [s1.heap.objs.size + 4, s1.heap.objs.size + 2, s1.heap.objs.size + 3, s1.heap.objs.size, s1.heap.objs.size + 1] → FpOk X pins H1 c := fun c hcm => by
        have e' : c = s1.heap.objs.size + 4 ∨ c = s1.heap.objs.size + 2 ∨ c = s1.heap.objs.size + 3 ∨ c = s1.heap.objs.size ∨ c = s1.heap.objs.size + 1 := by simpa using hcm
        have hle : s1.heap.objs.size ≤ c := by
          rcases e' with z | z | z | z | z
          · rw [z]; exact Nat.le_add_right _ _
          · rw [z]; exact Nat.le_add_right _ _
          · rw [z]; exact Nat.le_add_right _ _
          · rw [z]; exact Nat.le_refl _
          · rw [z]; exact Nat.le_add_right _ _
        exact I1.fpOk hle (I1.hok.fresh hle)
      obtain ⟨its, rv, p1, _⟩ := I1.tuple hqx
      obtain ⟨its2, rv2, p2, _⟩ := I1.list hqy
      have la : a < s1.heap.objs.size := p1.lt
      have lb : b < s1.heap.objs.size := p2.lt
      refine zip_begins2 (begins_tuple a its.toArray) (begins_list b its2.toArray) (show s1.heap.IsTuple a its.toArray from p1) p2.isList fun h' hz hTI hTO h1 h2 hsz hk => wpAny_pyIter_zip hz ?_
      have I2 : Inv X pins σ H1 { s1 with heap := h' } := I1.kept (t' := s1.toks) hk
      have ne : ∀ {k : Nat}, a ≠ s1.heap.objs.size + k := fun {k} => Nat.ne_of_lt (Nat.lt_of_lt_of_le la (Nat.le_add_right _ _))
      have ne' : ∀ {k : Nat}, b ≠ s1.heap.objs.size + k := fun {k} => Nat.ne_of_lt (Nat.lt_of_lt_of_le lb (Nat.le_add_right _ _))
      have off : ∀ {j k : Nat}, j ≠ k → s1.heap.objs.size + j ≠ s1.heap.objs.size + k := fun {j k} h e => h (Nat.add_left_cancel e)
      have S : ZipSep2 (s1.heap.objs.size + 4) (s1.heap.objs.size + 2) (s1.heap.objs.size + 3) (s1.heap.objs.size + 0) (s1.heap.objs.size + 1) [s1.heap.objs.size + 0, a] [s1.heap.objs.size + 1, b] := by
        refine ⟨off (by decide), off (by decide), off (by decide), off (by decide), by simp, ?_, ?_, off (by decide), by simp, ?_, ?_, ?_, ?_⟩ <;>
          (intro hm; rcases List.mem_cons.mp hm with e | e
           · exact off (by decide) e
           · first | exact ne (List.mem_singleton.mp e).symm | exact ne' (List.mem_singleton.mp e).symm)
      exact ⟨s1.heap.objs.size + 4, [s1.heap.objs.size + 4, s1.heap.objs.size + 2, s1.heap.objs.size + 3, s1.heap.objs.size, s1.heap.objs.size + 1], _, _, H1, rfl, I2, turn_zipTL S (ne (k := 0)) ne', ⟨hz, hTI, ⟨_, _, hTO⟩, ⟨_, h1, rfl, rfl⟩, ⟨_, h2, rfl, rfl⟩⟩, fresh5, q⟩
theorem walk_zipTL {K : PySem.W.Frag} {a b : Addr} {xs ys : List V} {n : Nat} (h1 : xs.length = n) (h2 : ys.length = n) : Walk (ItzTL K a b) n (fun H => SqT K H a xs ∧ SqL K H b ys) (YPair (fun i => xs[i]?) (fun i => ys[i]?)) := by
  refine ⟨fun i _ hi q => ?_, fun _ q => ⟨xs, ys, q.1, q.2, by omega, by omega, .inl h1.symm⟩, fun i H v H' _ q y => ?_⟩
  · have h1 : i < xs.length := by omega
    have h2 : i < ys.length := by omega
    exact ⟨xs, ys, xs[i], ys[i], q.1, q.2, by simp [h1], by simp [h2]⟩
  · obtain ⟨T, x, z, h1, h2, h3, h4, h5⟩ := y
    exact ⟨T, x, z, h1, h2, h3, h4 xs q.1, h5 ys q.2⟩
theorem walk_zipTT {K : PySem.W.Frag} {a b : Addr} {xs ys : List V} {n : Nat} (h1 : xs.length = n) (h2 : ys.length = n) : Walk (RZ.ItzT K a b) n (fun H => SqT K H a xs ∧ SqT K H b ys) (YPair (fun i => xs[i]?) (fun i => ys[i]?)) := by
  refine ⟨fun i _ hi q => ?_, fun _ q => ⟨xs, ys, q.1, q.2, by omega⟩, fun i H v H' _ q y => ?_⟩
  · have h1 : i < xs.length := by omega
    have h2 : i < ys.length := by omega
    exact ⟨xs, ys, xs[i], ys[i], q.1, q.2, by simp [h1], by simp [h2]⟩
  · obtain ⟨T, x, z, h1, h2, h3, h4, h5⟩ := y
    exact ⟨T, x, z, h1, h2, h3, h4 xs q.1, h5 ys q.2⟩

/-! ### min of a tuple -/
section
variable {prog : Program} {w : World} {A : Around} {E : Value → Shared → Prop} {s : Shared} {l : Addr} {xs : Array (Int × Tok)}
theorem min_intTuple {Q : Value → Shared → Prop} (hh : A.handled = none) (hl : s.heap.IsTuple l (intItems xs)) (hne : 0 < xs.size)
    (h : ∀ v h' tk, (intItems xs)[argBest (fun i j => decide (numAt xs i < numAt xs j)) (xs.size - 1)]? = some v → (∀ b o, s.heap.get? b = some o → h'.get? b = some o) → Q v { s with heap := h', toks := tk }) :
    wpAny (model prog w) A (call (.builtin "min") [.ref l]) Q E s := by
  have hlt : l < s.heap.objs.size := by obtain ⟨_, e, _⟩ := hl; exact Heap.lt_size e
  refine call_min_walk (wpAny_pyIter_tuple hl ?_)
  refine ⟨_, _, _, _, _, _, _, rfl, Walks.tuple (A := A.in1) hh _ l (Nat.ne_of_lt hlt) (intItems xs), ⟨⟨_, Heap.get?_push_size _ rfl, rfl, rfl⟩, hl.at fun o e => Heap.get?_push_of_some _ e⟩, fun b hb => ?_, by simpa [intItems] using hne, CmpOf.ints_lt (numAt xs) (fun _ _ => intItems_at), fun v h' tk hP hk => ?_⟩
  · show b < (s.heap.push _).objs.size
    rw [Heap.size_push]
    rcases List.mem_cons.mp hb with rfl | hb
    · exact Nat.lt_succ_self _
    · rcases List.mem_cons.mp hb with rfl | hb
      · exact Nat.lt_succ_of_lt hlt
      · cases hb
  · refine h v h' tk (by simpa [intItems] using hP) fun b o e => ?_
    refine hk b o (fun hm => ?_) (Heap.get?_push_of_some _ e)
    rcases List.mem_cons.mp hm with e1 | hm
    · exact absurd (e1 ▸ Heap.lt_size e) (Nat.lt_irrefl _)
    · cases hm
theorem min_rawT {its : List Value} {ns : List Int} {Q : Value → Shared → Prop} (hh : A.handled = none) (hl : s.heap.IsTuple l its.toArray) (hi : IntsAre its ns) (hne : 0 < ns.length)
    (h : ∀ h' tk M t', (∀ b o, s.heap.get? b = some o → h'.get? b = some o) → M ∈ ns → (∀ a, a ∈ ns → M ≤ a) → Q (.int M t') { s with heap := h', toks := tk }) : wpAny (model prog w) A (call (.builtin "min") [.ref l]) Q E s := by
  obtain ⟨xs, e⟩ := hi.allInts.items
  have hn : numsOf (intItems xs).toList = ns := by rw [← e]; exact hi.numsOf
  rw [nums_intItems] at hn
  subst hn
  rw [e] at hl
  have hsz : 0 < xs.size := by simpa using hne
  refine min_intTuple hh hl hsz fun v h' tk hv hk => ?_
  obtain ⟨t, rfl⟩ := intItems_at hv
  obtain ⟨h1, h2⟩ := argBest_lt (numAt xs) (xs.size - 1)
  refine h h' tk _ t hk ?_ fun a ha => ?_
  · rw [numAt_eq]; exact PySem.getD_mem (by rw [List.length_map, Array.length_toList]; omega)
  · obtain ⟨j, hj, rfl⟩ := mem_getD ha
    rw [List.length_map, Array.length_toList] at hj
    rw [← numAt_eq]; exact h2 j (by omega)
end
/-- min(x), x a list or a tuple of ints -/
def rMinS (K : PySem.W.Frag) : List V → Hp → VK → Prop := fun vs H Q => ∃ (x : V) (ns : List Int), vs = [x] ∧ dSeq K dInt H x ns ∧ 0 < ns.length ∧ ∀ m, m ∈ ns → (∀ y, y ∈ ns → m ≤ y) → Q (.int m) H
theorem cr_minS {X : Cx} (hc : X.calm = true) : CallR X (.builtin "min") (rMinS X.K) := by
  intro pins s σ H vs us Q I r h
  obtain ⟨x, ns, rfl, ⟨a, ws, rfl, hq, p⟩, hne, q⟩ := h
  cases ints_of p
  cases r with
  | cons r rr =>
    cases rr
    cases r
    rcases hq with hq | hq
    · obtain ⟨its, rv, p, hz⟩ := I.list hq
      exact min_raw (I.ok.hd hc) p.isList rv.ints hne fun h' tk M t' k hM hle => ⟨.int M, H, I.kept (t' := tk) k, ⟨_, rfl⟩, q M hM hle⟩
    · obtain ⟨its, rv, p, hz⟩ := I.tuple hq
      exact min_rawT (I.ok.hd hc) (show s.heap.IsTuple a its.toArray from p) rv.ints hne fun h' tk M t' k hM hle => ⟨.int M, H, I.kept (t' := tk) k, ⟨_, rfl⟩, q M hM hle⟩

/-! ### is True, is False -/
def noRef : V → Bool
  | .ref _ => false
  | .ty _ => false
  | .byt _ => false
  | .flt _ => false
  | _ => true
theorem op_isBool {X : Cx} : OpR X (compareOp .Is) (fun x y H Q => ∃ b : Bool, y = .bl b ∧ noRef x = true ∧ Q (.bl (decide (x = .bl b))) H) := by
  intro pins s σ H x y v u Q I rx ry h
  obtain ⟨b, rfl, n, q⟩ := h
  cases (show u = Value.bool b from ry)
  cases x with
  | non =>
    cases (show v = Value.none from rx)
    exact wpAny_is_other rfl (fun z => nomatch z) ⟨.bl false, H, I, rfl, by simpa using q⟩
  | bl c =>
    cases (show v = Value.bool c from rx)
    by_cases e : c = b
    · subst e
      exact wpAny_is_self rfl ⟨.bl true, H, I, rfl, by simpa using q⟩
    · exact wpAny_is_other rfl (fun z => e (Value.bool.inj z)) ⟨.bl false, H, I, rfl, by simpa [e] using q⟩
  | int i =>
    obtain ⟨t, rfl⟩ := (show ∃ t, v = Value.int i t from rx)
    exact wpAny_is_other rfl (fun z => nomatch z) ⟨.bl false, H, I, rfl, by simpa using q⟩
  | str z =>
    obtain ⟨t, rfl⟩ := (show ∃ t, v = Value.str z t from rx)
    exact wpAny_is_other rfl (fun z => nomatch z) ⟨.bl false, H, I, rfl, by simpa using q⟩
  | byt b => cases n
  | flt b => cases n
  | ref a => cases n
  | ty t => cases n
/-! ### constants of the module -/
section
variable {X : Cx} {x : Str} {pos : Pos}
theorem pe_globI {i : Int} (hg : Gl X x) (hm : ∃ t, X.mg x = some (.int i t)) (hd : (x == ("__debug__" : Str)) = false := by decide) : PE X (.Name x pos) (tC (.int i)) :=
  let ⟨t, h⟩ := hm; pe_glob hg h ⟨t, rfl⟩ hd
theorem pe_globS {z : Str} (hg : Gl X x) (hm : ∃ t, X.mg x = some (.str z t)) (hd : (x == ("__debug__" : Str)) = false := by decide) : PE X (.Name x pos) (tC (.str z)) :=
  let ⟨t, h⟩ := hm; pe_glob hg h ⟨t, rfl⟩ hd
end
/-! ### a def by its promise -/
structure Fn (P : Program) (w : World) (K : PySem.W.Frag) (mg : Str → Option Value) (base : Heap) (x : Str) (k : Nat) (ps : List Str) (sp : Sp) : Prop where
  ex : ∃ f fd, FnOk P w K mg base CX0 k f fd ps sp ∧ Binds K fd ps [] ∧ mg x = some (.ref f) ∧ PySem.W.keepIn K (.ref f) = true
theorem pe_fn {X : Cx} {x : Str} {k : Nat} {ps : List Str} {sp : Sp} {p pos : Pos} {e : Expr} {es : List Expr} {t : TA} (F : Fn X.prog X.w X.K X.mg X.base x k ps sp) (hr : Room k X.A) (hg : Gl X x)
    (ha : PA X (e :: es) t) (hdb : (x == ("__debug__" : Str)) = false := by decide) (he : starEach (e :: es) X.env = (false, eval e X.env) :: starEach es X.env := by rfl) (hpl : (backTo pos (starEach es X.env)).any (·.1) = false := by rfl) :
    PE X (.Call (.Name x p) (e :: es) [] pos) (tCall sp [] E0 t) := by
  obtain ⟨f, fd, G, b, m, k⟩ := F.ex
  exact pe_call G hr hg m k b .nil pass0 ha hdb he hpl
end AW
namespace AW
open PySem PySem.Spec PyProof.Rows L2

/-! ### dicts whose keys are tuples of any depth -/
mutual
inductive NK (K : PySem.W.Frag) (H : Hp) : NestedKey → V → Prop
  | num (i : Int) : NK K H (.num i) (.int i)
  | tup {a : Addr} {ks : List NestedKey} {vs : List V} : SqT K H a vs → NKs K H ks vs → NK K H (.tup ks) (.ref a)
inductive NKs (K : PySem.W.Frag) (H : Hp) : List NestedKey → List V → Prop
  | nil : NKs K H [] []
  | cons {k : NestedKey} {ks : List NestedKey} {v : V} {vs : List V} : NK K H k v → NKs K H ks vs → NKs K H (k :: ks) (v :: vs)
end
/-- the tuples stand -/
def Tups (K : PySem.W.Frag) (H H' : Hp) : Prop := ∀ a xs, SqT K H a xs → SqT K H' a xs
theorem Tups.of_same {K : PySem.W.Frag} {H H' : Hp} (s : Same H H') : Tups K H H' := fun _ _ h => Same.tup s h
theorem Tups.trans {K : PySem.W.Frag} {H H1 H2 : Hp} (a : Tups K H H1) (b : Tups K H1 H2) : Tups K H H2 := fun p xs h => b p xs (a p xs h)
/-- a list, a dict is changed -/
theorem Tups.mut {K : PySem.W.Frag} {H : Hp} {p : Addr} {o : HO} (h : Mut (H p)) : Tups K H (upd H p o) := fun a xs q => by
  rcases q with (q | ⟨ob, q⟩) | q
  · refine .inl (.inl ?_)
    rw [upd_ne (fun e => by rw [← e, q] at h; exact h)]; exact q
  · refine .inl (.inr ⟨ob, ?_⟩)
    rw [upd_ne (fun e => by rw [← e, q] at h; exact h)]; exact q
  · exact .inr q
mutual
theorem NK.mono {K : PySem.W.Frag} {H H' : Hp} (t : Tups K H H') : ∀ {k : NestedKey} {v : V}, NK K H k v → NK K H' k v
  | _, _, .num i => .num i
  | _, _, .tup h hs => .tup (t _ _ h) (NKs.mono t hs)
theorem NKs.mono {K : PySem.W.Frag} {H H' : Hp} (t : Tups K H H') : ∀ {ks : List NestedKey} {vs : List V}, NKs K H ks vs → NKs K H' ks vs
  | _, _, .nil => .nil
  | _, _, .cons h hs => .cons (NK.mono t h) (NKs.mono t hs)
end
mutual
theorem NK.is {X : Cx} {pins : List (Addr × Obj)} {σ : L2.St} {H : Hp} {s : Shared} (I : Inv X pins σ H s) : ∀ {k : NestedKey} {v : V} {u : Value}, NK X.K H k v → RelV v u → NestedIs s.heap k u
  | _, _, u, .num i, r => by
    obtain ⟨t, rfl⟩ := (show ∃ t, u = Value.int i t from r)
    exact .int i t
  | _, _, u, .tup h hs, r => by
    rename_i a ks vs
    cases (show u = Value.ref a from r)
    obtain ⟨its, rv, ⟨o, e1, e2, n, e3⟩, _⟩ := I.tuple h
    exact .tup e1 e2 e3 (by simpa using NKs.is I hs rv)
theorem NKs.is {X : Cx} {pins : List (Addr × Obj)} {σ : L2.St} {H : Hp} {s : Shared} (I : Inv X pins σ H s) : ∀ {ks : List NestedKey} {vs : List V} {us : List Value}, NKs X.K H ks vs → Vals vs us → NestedAll s.heap ks us
  | _, _, _, .nil, .nil => .nil
  | _, _, _, .cons h hs, .cons r rs => .cons (NK.is I h r) (NKs.is I hs rs)
end
/-- a known object -/
def nkO (a : Addr) (o : Obj) : HO := .ext (fun h => h.get? a = some o)
abbrev KN (K : PySem.W.Frag) (H : Hp) : List (NestedKey × V) → List (NestedKey × Addr × Value) → Prop := Paired fun p q => p.1 = q.1 ∧ NK K H p.1 (.ref q.2.1) ∧ p.1.depth ≤ 8 ∧ RelV p.2 q.2.2
section
variable {K : PySem.W.Frag} {H H' : Hp} {kvs : List (NestedKey × V)} {xs : List (NestedKey × Addr × Value)}
theorem KN.val (r : KN K H kvs xs) (k : NestedKey) : RelO (valV kvs k) ((atKey xs k).map (·.2)) := by
  induction r with
  | nil => exact True.intro
  | @cons p q ps qs h t ih =>
    obtain ⟨h1, _, _, h2⟩ := h
    by_cases e : p.1 = k
    · have e' : q.1 = k := h1.symm.trans e
      have b : atKey (q :: qs) k = some q.2 := by simp [atKey, List.find?_cons, e']
      rw [valV_pos e, b]; exact h2
    · have e' : ¬ q.1 = k := fun z => e (h1.trans z)
      have b : atKey (q :: qs) k = atKey qs k := by simp [atKey, List.find?_cons, e']
      rw [valV_neg e, b]; exact ih
theorem KN.repl (r : KN K H kvs xs) (k : NestedKey) {y : V} {u : Value} (ry : RelV y u) :
    KN K H (kvs.map fun kv => if kv.1 = k then (kv.1, y) else kv) (xs.map (putAt k u)) := by
  induction r with
  | nil => exact .nil
  | @cons p q ps qs h t ih =>
    rw [List.map_cons, List.map_cons]
    refine .cons ?_ ih
    obtain ⟨h1, h2, h3, h4⟩ := h
    unfold putAt
    by_cases e : p.1 = k
    · rw [if_pos e, if_pos (h1.symm.trans e)]; exact ⟨h1, h2, h3, ry⟩
    · rw [if_neg e, if_neg (fun z => e (h1.trans z))]; exact ⟨h1, h2, h3, h4⟩
theorem KN.put (r : KN K H kvs xs) (k : NestedKey) {b : Addr} {y : V} {u : Value} (hb : NK K H k (.ref b)) (hd : k.depth ≤ 8) (ry : RelV y u) : KN K H (putK kvs k y) (storedH xs k b u) := by
  have e : (kvs.any fun kv => decide (kv.1 = k)) = (atKey xs k).isSome := by
    rw [valV_any, (r.val k).isSome_eq, Option.isSome_map]
  unfold putK storedH
  rw [e]
  by_cases q : (atKey xs k).isSome = true
  · rw [if_pos q, if_pos q]; exact r.repl k ry
  · rw [if_neg q, if_neg q]; exact Paired.snoc r ⟨rfl, hb, hd, ry⟩
theorem KN.keeps (r : KN K H kvs xs) (t : Tups K H H') : KN K H' kvs xs := Paired.mapP r fun _ _ z => ⟨z.1, z.2.1.mono t, z.2.2⟩
end
/-- a dict with such keys -/
def ND (P : Program) (w : World) (K : PySem.W.Frag) (H : Hp) (a : Addr) (kvs : List (NestedKey × V)) : Prop :=
  ∃ (o : Obj) (es : Array DictEntry) (ep : Nat) (xs : List (NestedKey × Addr × Value)), H a = some (nkO a o) ∧ o.ExactDict ∧ o.data = .dict es ep ∧ es.toList = xs.map (entryOfKey (nestedKind P w)) ∧ (xs.map (·.1)).Nodup ∧
    (a == sysModules) = false ∧ kvs.length ≤ sizeLine ∧ KN K H kvs xs
theorem ND.mut {P : Program} {w : World} {K : PySem.W.Frag} {H : Hp} {a : Addr} {kvs : List (NestedKey × V)} (d : ND P w K H a kvs) : ∃ φ, H a = some (.ext φ) := let ⟨_, _, _, _, h, _⟩ := d; ⟨_, h⟩
theorem ND.keeps {P : Program} {w : World} {K : PySem.W.Frag} {H H' : Hp} {a : Addr} {kvs : List (NestedKey × V)} (d : ND P w K H a kvs) (t : Tups K H H') (ha : H' a = H a) : ND P w K H' a kvs := by
  obtain ⟨o, es, ep, xs, h1, h2, h3, h4, h5, h6, h7, h8⟩ := d
  exact ⟨o, es, ep, xs, ha.trans h1, h2, h3, h4, h5, h6, h7, h8.keeps t⟩
section
variable {X : Cx} {pins : List (Addr × Obj)} {σ : L2.St} {H : Hp} {s : Shared} {a b : Addr} {kvs : List (NestedKey × V)} {k : NestedKey} {A : Around} {E : Value → Shared → Prop}
theorem nk_is (I : Inv X pins σ H s) (n : NK X.K H k (.ref b)) (hd : k.depth ≤ 8) : (nestedKind X.prog X.w).is s.heap k b := ⟨n.is I rfl, hd⟩
theorem nd_of (I : Inv X pins σ H s) (d : ND X.prog X.w X.K H a kvs) : kvs.length ≤ sizeLine ∧ (a == sysModules) = false ∧ ∃ xs, KN X.K H kvs xs ∧ s.heap.DictOfH (nestedKind X.prog X.w) a xs := by
  obtain ⟨o, es, ep, xs, h1, h2, h3, h4, h5, h6, h7, h8⟩ := d
  have e : s.heap.get? a = some o := (show ObjOk X.prog X.w H s.heap a (nkO a o) from I.hok a _ h1).1
  refine ⟨h7, h6, xs, h8, o, es, ep, e, h2, h3, h4, fun x hx => ?_, h5⟩
  have all : ∀ {l : List (NestedKey × V)} {m : List (NestedKey × Addr × Value)}, KN X.K H l m → ∀ x ∈ m, (nestedKind X.prog X.w).is s.heap x.1 x.2.1 := by
    intro l m q
    induction q with
    | nil => intro x hx; exact nomatch hx
    | @cons p q ps qs hq t ih =>
      intro x hx
      rcases List.mem_cons.mp hx with e | hx
      · subst e
        obtain ⟨e1, e2, e3, _⟩ := hq
        rw [← e1]
        exact nk_is I e2 e3
      · exact ih x hx
  exact all h8 x hx
theorem room8 (hu : A.units + 64 < cLine) : (nestedKind X.prog X.w).room A.in1 := by
  show A.units + 1 + 8 < cLine
  omega
theorem nd_getItem {v : V} {Q : Value → Shared → Prop} (hu : A.units + 64 < cLine) (I : Inv X pins σ H s) (d : ND X.prog X.w X.K H a kvs) (n : NK X.K H k (.ref b)) (hd : k.depth ≤ 8) (l : valV kvs k = some v) (h : ∀ w' s', Inv X pins σ H s' → RelV v w' → Q w' s') :
    wpAny (model X.prog X.w) A (getItem (.ref a) (.ref b)) Q E s := by
  obtain ⟨z, hs, xs, rel, dd⟩ := nd_of I d
  obtain ⟨w', hw, rw'⟩ := RelO.some_of (v := v) (o := (atKey xs k).map (·.2)) (by rw [← l]; exact rel.val k)
  obtain ⟨p, hp, hp2⟩ := Option.map_eq_some_iff.mp hw
  refine wpAny_getItem_heap (room8 hu) (nk_is I n hd) dd hp ?_
  rw [hp2]
  exact h w' _ (I.tok _) rw'
theorem nd_in {Q : Value → Shared → Prop} (hu : A.units + 64 < cLine) (I : Inv X pins σ H s) (d : ND X.prog X.w X.K H a kvs) (n : NK X.K H k (.ref b)) (hd : k.depth ≤ 8) (h : ∀ s', Inv X pins σ H s' → Q (.bool (valV kvs k).isSome) s') :
    wpAny (model X.prog X.w) A (compareOp .In (.ref b) (.ref a)) Q E s := by
  obtain ⟨z, hs, xs, rel, dd⟩ := nd_of I d
  refine wpAny_in_heap (room8 hu) (nk_is I n hd) hs dd ?_
  have q := (rel.val k).isSome_eq
  rw [Option.isSome_map] at q
  rw [← q]
  exact h _ (I.tok _)
theorem nd_notIn {Q : Value → Shared → Prop} (hu : A.units + 64 < cLine) (I : Inv X pins σ H s) (d : ND X.prog X.w X.K H a kvs) (n : NK X.K H k (.ref b)) (hd : k.depth ≤ 8) (h : ∀ s', Inv X pins σ H s' → Q (.bool (!(valV kvs k).isSome)) s') :
    wpAny (model X.prog X.w) A (compareOp .NotIn (.ref b) (.ref a)) Q E s := by
  obtain ⟨z, hs, xs, rel, dd⟩ := nd_of I d
  refine wpAny_notIn_heap (room8 hu) (nk_is I n hd) hs dd ?_
  have q := (rel.val k).isSome_eq
  rw [Option.isSome_map] at q
  rw [← q]
  exact h _ (I.tok _)
theorem nko_ok {P : Program} {w : World} {H' : Hp} {h' : Heap} {q : Obj} (e : h'.get? a = some q) : ObjOk P w H' h' a (nkO a q) := ⟨e, ⟨q, e⟩, fun _ _ p f => f _ p⟩
theorem nd_setItem {v : V} {r : Value} {Q : Unit → Shared → Prop} (hu : A.units + 64 < cLine) (I : Inv X pins σ H s) (d : ND X.prog X.w X.K H a kvs) (n : NK X.K H k (.ref b)) (hd : k.depth ≤ 8) (hl : kvs.length < sizeLine) (rv : RelV v r)
    (h : ∀ ob s', ND X.prog X.w X.K (upd H a ob) a (putK kvs k v) → Inv X pins σ (upd H a ob) s' → Q () s') :
    wpAny (model X.prog X.w) A (setItem (.ref a) (.ref b) r) Q E s := by
  obtain ⟨z, hs, xs, rel, dd⟩ := nd_of I d
  obtain ⟨φ, hφ⟩ := d.mut
  have hz : xs.length ≤ sizeLine := by rw [← Paired.length rel]; exact z
  have hl2 : (putK kvs k v).length ≤ sizeLine := by have := length_putK kvs k v; omega
  refine wpAny_setItem_heap (hsz := hz) (room8 hu) (nk_is I n hd) dd fun h' dd' hsb => ?_
  obtain ⟨q, es, ep, hq, h2, h3, h4, _, h5⟩ := dd'
  have mu : Mut (H a) := by rw [hφ]; exact True.intro
  refine h (nkO a q) _ ⟨q, es, ep, _, upd_same, h2, h3, h4, h5, hs, hl2, (rel.put k n hd rv).keeps (Tups.mut mu)⟩ ?_
  exact d_write I mu hsb ⟨q, hq⟩ (nko_ok hq)
end

section
variable {prog : Program} {w : World} {K : Type} [DecidableEq K] {knd : HeapKind prog w K} {A : Around} {E : Value → Shared → Prop} {s : Shared}
theorem dict_pairsH {env : Env} {keys : List (Option Expr)} {values : List Expr} {pos : Pos} {pairs : List (Sem Value × Sem Value)} {Q : Value → Shared → Prop} (hu : knd.room A)
    (hshape : (evalEachOpt keys env).zip ((evalEach values env).map fun v => do let x ← v; standAt pos; pure x) = pairs.map fun p => (some p.1, p.2)) (h0 : pairs ≠ []) (hlen : pairs.length ≤ 15)
    (h : wpAny (model prog w) A (evalPairs pairs) (fun vs s₁ => ∃ ps, CarriesH knd s₁.heap vs ps ∧ s₁.heap.DictOfH knd s.heap.objs.size [] ∧
      ∀ h' tk, h'.DictOfH knd s.heap.objs.size (storedAllH [] ps) → Heap.SameBut s.heap.objs.size s₁.heap h' → Q (.ref s.heap.objs.size) { s₁ with heap := h', toks := tk }) E
      { s with heap := s.heap.push { cls := .type "dict", data := .dict #[] } }) :
    wpAny (model prog w) A (eval (.Dict keys values pos) env) Q E s := by
  rw [arm_eval_Dict, hshape, dictDisplay_pairs pairs h0 (by omega)]
  exact wpAny_bind (wpAny_standAt (wpAny_bind (wpAny_subDictH (knd := knd) (Q := fun d s' => wpAny (model prog w) A (pure (Value.ref d)) Q E s') hu hlen
    (wpAny_mono h (fun vs s₁ h₁ => by obtain ⟨ps, hc, hm, hq⟩ := h₁; exact ⟨ps, hc, hm, fun h' tk a b => wpAny_pure (hq h' tk a b)⟩) fun _ _ e => e))))
end
/-! ### readings and rules -/
/-- d[y] -/
def tNGet (P : Program) (w : World) (K : PySem.W.Frag) (td ty : TE) : TE := fun σ H Q => td σ H fun x H1 => ty σ H1 fun y H2 => ∃ a b kvs k v, x = .ref a ∧ y = .ref b ∧ ND P w K H2 a kvs ∧ NK K H2 k (.ref b) ∧ k.depth ≤ 8 ∧ valV kvs k = some v ∧ Q v H2
def tNIn (P : Program) (w : World) (K : PySem.W.Frag) (ty td : TE) : TE := fun σ H Q => ty σ H fun y H1 => td σ H1 fun x H2 => ∃ a b kvs k, x = .ref a ∧ y = .ref b ∧ ND P w K H2 a kvs ∧ NK K H2 k (.ref b) ∧ k.depth ≤ 8 ∧ Q (.bl (valV kvs k).isSome) H2
def tNNotIn (P : Program) (w : World) (K : PySem.W.Frag) (ty td : TE) : TE := fun σ H Q => ty σ H fun y H1 => td σ H1 fun x H2 => ∃ a b kvs k, x = .ref a ∧ y = .ref b ∧ ND P w K H2 a kvs ∧ NK K H2 k (.ref b) ∧ k.depth ≤ 8 ∧ Q (.bl (!(valV kvs k).isSome)) H2
def sNPut (P : Program) (w : World) (K : PySem.W.Frag) (td ty tv : TE) : TS := fun D σ H => tv σ H fun v H1 => td σ H1 fun x H2 => ty σ H2 fun y H3 => ∃ a b kvs k, x = .ref a ∧ y = .ref b ∧ ND P w K H3 a kvs ∧ NK K H3 k (.ref b) ∧ k.depth ≤ 8 ∧ kvs.length < sizeLine ∧
  ∀ ob, ND P w K (upd H3 a ob) a (putK kvs k v) → D.nx σ (upd H3 a ob)
def tNNew (P : Program) (w : World) (K : PySem.W.Frag) : TE := fun _ H Q => ∀ p ob, H p = none → ND P w K (upd H p ob) p [] → Q (.ref p) (upd H p ob)
/-- {y: v} -/
def tNDisp (P : Program) (w : World) (K : PySem.W.Frag) (ty tv : TE) : TE := fun σ H Q => ∀ p ob, H p = none → ND P w K (upd H p ob) p [] → ty σ (upd H p ob) fun y H1 => tv σ H1 fun v H2 => ∃ b k, y = .ref b ∧ ND P w K H2 p [] ∧ NK K H2 k (.ref b) ∧ k.depth ≤ 8 ∧
  ∀ ob', ND P w K (upd H2 p ob') p [(k, v)] → Q (.ref p) (upd H2 p ob')
section
variable {X : Cx} {o i e value : Expr} {pos pos' tpos : Pos} {td ty tv : TE}
theorem pe_nget (hu : X.A.units + 64 < cLine) (ho : PE X o td) (hi : PE X i ty) (hs : NoSl i) : PE X (.Subscript o i pos) (tNGet X.prog X.w X.K td ty) := by
  refine ⟨fun pins s σ H Q I h => ?_⟩
  refine subD_of PySem.F.slot_dict_getitem.lookup hs (thn (ho.run pins s σ H _ I h) fun u s1 ⟨x, H1, I1, rx, q1⟩ => thn (hi.run pins s1 σ H1 _ I1 q1) fun iv s2 ⟨y, H2, I2, ry, a, b, kvs, k, v, ex, ey, d, n, hd, l, q2⟩ => ?_)
  subst ex ey
  obtain rfl : u = Value.ref a := rx
  obtain rfl : iv = Value.ref b := ry
  obtain ⟨_, _, xs, _, dd⟩ := nd_of I2 d
  exact ⟨dd.typeIs, nd_getItem hu I2 d n hd l fun w' s3 I3 rw' => ⟨v, H2, I3, rw', q2⟩⟩
theorem pc_nin (hu : X.A.units + 64 < cLine) (hi : PE X i ty) (ho : PE X o td) : PC X .In i o (tNIn X.prog X.w X.K ty td) := by
  refine ⟨fun pins s σ H Q I h => ?_⟩
  refine thn (hi.run pins s σ H _ I h) fun iv s1 ⟨y, H1, I1, ry, q1⟩ => thn (ho.run pins s1 σ H1 _ I1 q1) fun u s2 ⟨x, H2, I2, rx, a, b, kvs, k, ex, ey, d, n, hd, q2⟩ => ?_
  subst ex ey
  obtain rfl : u = Value.ref a := rx
  obtain rfl : iv = Value.ref b := ry
  exact nd_in hu I2 d n hd fun s3 I3 => ⟨.bl _, H2, I3, rfl, q2⟩
theorem pc_nnotin (hu : X.A.units + 64 < cLine) (hi : PE X i ty) (ho : PE X o td) : PC X .NotIn i o (tNNotIn X.prog X.w X.K ty td) := by
  refine ⟨fun pins s σ H Q I h => ?_⟩
  refine thn (hi.run pins s σ H _ I h) fun iv s1 ⟨y, H1, I1, ry, q1⟩ => thn (ho.run pins s1 σ H1 _ I1 q1) fun u s2 ⟨x, H2, I2, rx, a, b, kvs, k, ex, ey, d, n, hd, q2⟩ => ?_
  subst ex ey
  obtain rfl : u = Value.ref a := rx
  obtain rfl : iv = Value.ref b := ry
  exact nd_notIn hu I2 d n hd fun s3 I3 => ⟨.bl _, H2, I3, rfl, q2⟩
theorem ps_nput (hu : X.A.units + 64 < cLine) (ho : PE X o td) (hi : PE X i ty) (hv : PE X value tv) (hs : swapsWith value (some (.Subscript o i pos')) pos.line X.env = pure false) :
    PS X (.Assign [.Subscript o i pos'] value pos) (sNPut X.prog X.w X.K td ty tv) := by
  refine ⟨fun pins s σ H D I h => ?_⟩
  refine wpAny_Assign_Subscript (thn (hv.run pins s σ H _ I h) fun r s1 ⟨v, H1, I1, rv, q1⟩ => thn (ho.run pins s1 σ H1 _ I1 q1) fun u s2 ⟨x, H2, I2, rx, q2⟩ => thn (hi.run pins s2 σ H2 _ I2 q2) fun iv s3 ⟨y, H3, I3, ry, a, b, kvs, k, ex, ey, d, n, hd, hl, q3⟩ => ?_) hs
  subst ex ey
  obtain rfl : u = Value.ref a := rx
  obtain rfl : iv = Value.ref b := ry
  exact nd_setItem hu I3 d n hd hl rv fun ob s4 d4 I4 => ⟨σ, _, I4, q3 ob d4⟩
theorem nd_empty {pins : List (Addr × Obj)} {σ : L2.St} {H : Hp} {s : Shared} (I : Inv X pins σ H s) :
    ∃ ob, ND X.prog X.w X.K (upd H s.heap.objs.size ob) s.heap.objs.size [] ∧ Inv X pins σ (upd H s.heap.objs.size ob) { s with heap := s.heap.push { cls := .type "dict", data := .dict #[] } } := by
  have e : (s.heap.push { cls := .type "dict", data := .dict #[] }).get? s.heap.objs.size = some { cls := .type "dict", data := .dict #[] } := Heap.get?_push_size _ rfl
  refine ⟨nkO s.heap.objs.size { cls := .type "dict", data := .dict #[] }, ⟨_, #[], 0, [], upd_same, ⟨rfl, rfl, rfl⟩, rfl, rfl, List.nodup_nil, beq_eq_false_iff_ne.mpr (Ne.symm (Nat.ne_of_lt I.big)), Nat.zero_le _, .nil⟩, ?_⟩
  exact I.laid (a := s.heap.objs.size) (t' := s.toks) (fun _ _ q => Heap.get?_push_of_some _ q) (Nat.le_refl _) (nko_ok e)
theorem pe_nnew : PE X (.Dict [] [] pos) (tNNew X.prog X.w X.K) := ⟨fun pins s σ H Q I h => by
  obtain ⟨ob, d, I1⟩ := nd_empty I
  exact wpAny_Dict_empty ⟨.ref s.heap.objs.size, _, I1, rfl, h _ _ (I.hok.fresh (Nat.le_refl _)) d⟩⟩
theorem pe_ndisp (hu : X.A.units + 64 < cLine) (hi : PE X i ty) (hv : PE X value tv) : PE X (.Dict [some i] [value] pos) (tNDisp X.prog X.w X.K ty tv) := by
  refine ⟨fun pins s σ H Q I h => ?_⟩
  obtain ⟨ob, d0, I1⟩ := nd_empty I
  refine dict_pairsH (knd := nestedKind X.prog X.w) (pairs := pairTrees [some i] [value] X.env pos) (by show X.A.units + 8 < cLine; omega) (zip_pairTrees [some i] [value] X.env pos rfl rfl) (by intro q; cases q) (by show 1 ≤ 15; decide) ?_
  refine pairTrees_cons_walk (thn (hi.run pins _ σ _ _ I1 (h _ _ (I.hok.fresh (Nat.le_refl _)) d0)) fun iv s1 ⟨y, H1, I2, ry, q1⟩ => thn (hv.run pins s1 σ H1 _ I2 q1) fun r s2 ⟨v, H2, I3, rv, b, k, ey, d, n, hd, q2⟩ => pairTrees_nil_walk ?_)
  subst ey
  obtain rfl : iv = Value.ref b := ry
  obtain ⟨z, hs, xs, rel, dd⟩ := nd_of I3 d
  cases rel
  obtain ⟨φ, hφ⟩ := d.mut
  have mu : Mut (H2 s.heap.objs.size) := by rw [hφ]; exact True.intro
  refine ⟨[(k, b, r)], ⟨rfl, rfl, nk_is I3 n hd, trivial⟩, dd, fun h' tk dk sb => ?_⟩
  obtain ⟨q, es, ep, hq, h2, h3, h4, h6, h5⟩ := dk
  refine ⟨.ref s.heap.objs.size, _, d_write (t' := tk) I3 mu sb ⟨q, hq⟩ (nko_ok hq), rfl, q2 (nkO s.heap.objs.size q) ⟨q, es, ep, _, upd_same, h2, h3, h4, h5, hs, by show 1 ≤ sizeLine; decide, ?_⟩⟩
  exact .cons ⟨rfl, n.mono (Tups.mut mu), hd, rv⟩ .nil
end
/-- len(d) -/
def rLenN (P : Program) (w : World) (K : PySem.W.Frag) : List V → Hp → VK → Prop := fun xs H Q => ∃ (p : Addr) (kvs : List (NestedKey × V)), xs = [.ref p] ∧ ND P w K H p kvs ∧ Q (.int ((kvs.length : Nat) : Int)) H
theorem call_len_n {X : Cx} : CallR X (.builtin "len") (rLenN X.prog X.w X.K) := by
  intro pins s σ H xs us Q I r h
  obtain ⟨p, kvs, rfl, d, q⟩ := h
  obtain ⟨u, rfl, rx⟩ := vals1 r
  obtain rfl : u = .ref p := rx
  obtain ⟨z, hd, ys, rel, dd⟩ := nd_of I d
  have hl : kvs.length = ys.length := Paired.length rel
  refine call_len_dictH hd dd (by rw [← hl]; rw [sizeLine_eq] at z; omega) ?_
  rw [← hl]
  exact ⟨.int ((kvs.length : Nat) : Int), H, I.tok _, ⟨_, rfl⟩, q⟩
end AW
namespace AW
open PySem PySem.Spec PyProof.Rows L2
/-! ### the text by places -/
def top (i : Nat) : Stmt := PySem.Challenge.pw_afterwise_k58_whole_put_machines.main.body.getD i (.Pass ⟨0, 0, 0, 0⟩)
abbrev s_is_integer : Stmt := top 18
abbrev s_is_count : Stmt := top 19
abbrev s_is_listed : Stmt := top 20
abbrev s_deep : Stmt := top 21
abbrev s_is_asks : Stmt := top 22
abbrev s_check_asks : Stmt := top 23
abbrev s_row_over : Stmt := top 24
abbrev s_check_row : Stmt := top 25
abbrev s_numbers_of : Stmt := top 27
abbrev s_integers : Stmt := top 28
abbrev s_led : Stmt := top 30
abbrev s_joined_tables : Stmt := top 31
abbrev s_added : Stmt := top 32
abbrev s_lowered : Stmt := top 33
abbrev s_is_table : Stmt := top 36
abbrev s_are_costs : Stmt := top 37
abbrev s_Store_init : Stmt := inClass (top 38) 0
abbrev s_row_table : Stmt := top 44
abbrev s_put_for : Stmt := top 45
abbrev s_Standings_init : Stmt := inClass (top 48) 0
abbrev s_standings : Stmt := top 49
abbrev s_is_item : Stmt := top 52
abbrev s_least_rows : Stmt := top 53
abbrev s_Machine_init : Stmt := inClass (top 54) 0
abbrev s_went : Stmt := top 56
abbrev s_classes_of : Stmt := top 57
abbrev s_shrunk_steps : Stmt := top 59
abbrev s_standing_steps : Stmt := top 60
abbrev s_least_machine : Stmt := top 61
abbrev s_Verdict_init : Stmt := inClass (top 64) 0
abbrev s_RowLikeness_init : Stmt := inClass (top 66) 0
abbrev s_action_of : Stmt := top 67
abbrev s_rows_alike : Stmt := top 68
abbrev s_L_cell : Stmt := top 70
abbrev s_L_source : Stmt := top 71
abbrev s_L_draw : Stmt := top 72
abbrev s_L_is_int : Stmt := top 73
abbrev s_L_exact : Stmt := top 74
abbrev s_L_asks : Stmt := top 75
abbrev s_L_states : Stmt := top 76
abbrev s_L_prices : Stmt := top 77
abbrev s_L_any_table : Stmt := top 78
abbrev s_L_change : Stmt := top 79
abbrev s_L_changes : Stmt := top 80
abbrev s_L_served : Stmt := top 81
abbrev s_L_world : Stmt := top 82
abbrev s_L_raised : Stmt := top 83
abbrev s_L_moved : Stmt := top 84
abbrev s_L_led : Stmt := top 85
abbrev s_L_work : Stmt := top 86
abbrev s_L_least_of : Stmt := top 87
abbrev s_L_low : Stmt := top 88
abbrev s_L_lots : Stmt := top 89
abbrev s_L_classes : Stmt := top 90
abbrev s_L_shrunk : Stmt := top 91
abbrev s_L_machine : Stmt := top 92
abbrev s_L_went : Stmt := top 93
abbrev s_L_steps_due : Stmt := top 94
abbrev s_L_row : Stmt := top 95
abbrev s_L_rows_to : Stmt := top 96
abbrev s_L_sign : Stmt := top 97
abbrev s_L_small : Stmt := top 98
abbrev s_L_acts : Stmt := top 99
abbrev s_law : Stmt := top 100
abbrev P_is_integer : List Str := ["thing"]
abbrev N_is_integer : List Str := ["thing"]
theorem sc_is_integer : FnScope N_is_integer P_is_integer (defScope s_is_integer) := ⟨rfl, rfl, rfl, by decide +kernel, rfl, by decide +kernel, by decide +kernel⟩
abbrev P_is_count : List Str := ["thing", "low", "high"]
abbrev N_is_count : List Str := ["thing", "low", "high"]
theorem sc_is_count : FnScope N_is_count P_is_count (defScope s_is_count) := ⟨rfl, rfl, rfl, by decide +kernel, rfl, by decide +kernel, by decide +kernel⟩
abbrev P_is_listed : List Str := ["thing"]
abbrev N_is_listed : List Str := ["thing"]
theorem sc_is_listed : FnScope N_is_listed P_is_listed (defScope s_is_listed) := ⟨rfl, rfl, rfl, by decide +kernel, rfl, by decide +kernel, by decide +kernel⟩
abbrev P_deep : List Str := ["thing"]
abbrev N_deep : List Str := ["thing", "part"]
theorem sc_deep : FnScope N_deep P_deep (defScope s_deep) := ⟨rfl, rfl, rfl, by decide +kernel, rfl, by decide +kernel, by decide +kernel⟩
abbrev P_is_asks : List Str := ["thing"]
abbrev N_is_asks : List Str := ["thing", "last", "letter", "place"]
theorem sc_is_asks : FnScope N_is_asks P_is_asks (defScope s_is_asks) := ⟨rfl, rfl, rfl, by decide +kernel, rfl, by decide +kernel, by decide +kernel⟩
abbrev P_check_asks : List Str := ["thing"]
abbrev N_check_asks : List Str := ["thing"]
theorem sc_check_asks : FnScope N_check_asks P_check_asks (defScope s_check_asks) := ⟨rfl, rfl, rfl, by decide +kernel, rfl, by decide +kernel, by decide +kernel⟩
abbrev P_row_over : List Str := ["asks", "thing"]
abbrev N_row_over : List Str := ["asks", "thing", "letter"]
theorem sc_row_over : FnScope N_row_over P_row_over (defScope s_row_over) := ⟨rfl, rfl, rfl, by decide +kernel, rfl, by decide +kernel, by decide +kernel⟩
abbrev P_check_row : List Str := ["asks", "thing"]
abbrev N_check_row : List Str := ["asks", "thing"]
theorem sc_check_row : FnScope N_check_row P_check_row (defScope s_check_row) := ⟨rfl, rfl, rfl, by decide +kernel, rfl, by decide +kernel, by decide +kernel⟩
abbrev P_numbers_of : List Str := ["asks", "row"]
abbrev N_numbers_of : List Str := ["asks", "row", "letter"]
theorem sc_numbers_of : FnScope N_numbers_of P_numbers_of (defScope s_numbers_of) := ⟨rfl, rfl, rfl, by decide +kernel, rfl, by decide +kernel, by decide +kernel⟩
abbrev P_integers : List Str := ["thing", "many"]
abbrev N_integers : List Str := ["thing", "many", "part"]
theorem sc_integers : FnScope N_integers P_integers (defScope s_integers) := ⟨rfl, rfl, rfl, by decide +kernel, rfl, by decide +kernel, by decide +kernel⟩
abbrev P_led : List Str := ["work", "table"]
abbrev N_led : List Str := ["work", "table", "many", "found", "t", "best", "s", "price"]
theorem sc_led : FnScope N_led P_led (defScope s_led) := ⟨rfl, rfl, rfl, by decide +kernel, rfl, by decide +kernel, by decide +kernel⟩
abbrev P_joined_tables : List Str := ["one", "other"]
abbrev N_joined_tables : List Str := ["one", "other", "line"]
theorem sc_joined_tables : FnScope N_joined_tables P_joined_tables (defScope s_joined_tables) := ⟨rfl, rfl, rfl, by decide +kernel, rfl, by decide +kernel, by decide +kernel⟩
abbrev P_added : List Str := ["one", "other"]
abbrev N_added : List Str := ["one", "other", "x", "y"]
theorem sc_added : FnScope N_added P_added (defScope s_added) := ⟨rfl, rfl, rfl, by decide +kernel, rfl, by decide +kernel, by decide +kernel⟩
abbrev P_lowered : List Str := ["work"]
abbrev N_lowered : List Str := ["work", "least", "number"]
theorem sc_lowered : FnScope N_lowered P_lowered (defScope s_lowered) := ⟨rfl, rfl, rfl, by decide +kernel, rfl, by decide +kernel, by decide +kernel⟩
abbrev P_is_table : List Str := ["thing", "many"]
abbrev N_is_table : List Str := ["thing", "many", "line"]
theorem sc_is_table : FnScope N_is_table P_is_table (defScope s_is_table) := ⟨rfl, rfl, rfl, by decide +kernel, rfl, by decide +kernel, by decide +kernel⟩
abbrev P_are_costs : List Str := ["thing", "asks", "many"]
abbrev N_are_costs : List Str := ["thing", "asks", "many", "table"]
theorem sc_are_costs : FnScope N_are_costs P_are_costs (defScope s_are_costs) := ⟨rfl, rfl, rfl, by decide +kernel, rfl, by decide +kernel, by decide +kernel⟩
abbrev P_Store_init : List Str := ["self", "asks", "begins", "costs", "ends"]
abbrev N_Store_init : List Str := ["self", "asks", "begins", "costs", "ends"]
theorem sc_Store_init : FnScope N_Store_init P_Store_init (defScope s_Store_init) := ⟨rfl, rfl, rfl, by decide +kernel, rfl, by decide +kernel, by decide +kernel⟩
abbrev P_row_table : List Str := ["store", "row"]
abbrev N_row_table : List Str := ["store", "row", "numbers", "table", "number"]
theorem sc_row_table : FnScope N_row_table P_row_table (defScope s_row_table) := ⟨rfl, rfl, rfl, by decide +kernel, rfl, by decide +kernel, by decide +kernel⟩
abbrev P_put_for : List Str := ["store", "asks", "rows"]
abbrev N_put_for : List Str := ["store", "asks", "rows", "row"]
theorem sc_put_for : FnScope N_put_for P_put_for (defScope s_put_for) := ⟨rfl, rfl, rfl, by decide +kernel, rfl, by decide +kernel, by decide +kernel⟩
abbrev P_Standings_init : List Str := ["self", "lots", "rows", "steps"]
abbrev N_Standings_init : List Str := ["self", "lots", "rows", "steps"]
theorem sc_Standings_init : FnScope N_Standings_init P_Standings_init (defScope s_Standings_init) := ⟨rfl, rfl, rfl, by decide +kernel, rfl, by decide +kernel, by decide +kernel⟩
abbrev P_standings : List Str := ["store"]
abbrev N_standings : List Str := ["store", "lots", "rows", "places", "steps", "lot", "row", "items", "k", "ask", "after", "least"]
theorem sc_standings : FnScope N_standings P_standings (defScope s_standings) := ⟨rfl, rfl, rfl, by decide +kernel, rfl, by decide +kernel, by decide +kernel⟩
abbrev P_is_item : List Str := ["thing", "many", "asks"]
abbrev N_is_item : List Str := ["thing", "many", "asks", "pair"]
theorem sc_is_item : FnScope N_is_item P_is_item (defScope s_is_item) := ⟨rfl, rfl, rfl, by decide +kernel, rfl, by decide +kernel, by decide +kernel⟩
abbrev P_least_rows : List Str := ["asks", "steps"]
abbrev N_least_rows : List Str := ["asks", "steps", "rows", "line", "place", "kind", "k", "ask", "after"]
theorem sc_least_rows : FnScope N_least_rows P_least_rows (defScope s_least_rows) := ⟨rfl, rfl, rfl, by decide +kernel, rfl, by decide +kernel, by decide +kernel⟩
abbrev P_Machine_init : List Str := ["self", "asks", "first", "steps"]
abbrev N_Machine_init : List Str := ["self", "asks", "first", "steps", "k", "item"]
theorem sc_Machine_init : FnScope N_Machine_init P_Machine_init (defScope s_Machine_init) := ⟨rfl, rfl, rfl, by decide +kernel, rfl, by decide +kernel, by decide +kernel⟩
abbrev P_went : List Str := ["steps", "kind", "numbers"]
abbrev N_went : List Str := ["steps", "kind", "numbers", "gain", "number", "add"]
theorem sc_went : FnScope N_went P_went (defScope s_went) := ⟨rfl, rfl, rfl, by decide +kernel, rfl, by decide +kernel, by decide +kernel⟩
abbrev P_classes_of : List Str := ["steps"]
abbrev N_classes_of : List Str := ["steps", "classes", "many", "known", "found", "k", "item", "sign", "after", "add"]
theorem sc_classes_of : FnScope N_classes_of P_classes_of (defScope s_classes_of) := ⟨rfl, rfl, rfl, by decide +kernel, rfl, by decide +kernel, by decide +kernel⟩
abbrev P_shrunk_steps : List Str := ["steps"]
abbrev N_shrunk_steps : List Str := ["steps", "classes", "line", "numbers", "items", "item", "after", "add"]
theorem sc_shrunk_steps : FnScope N_shrunk_steps P_shrunk_steps (defScope s_shrunk_steps) := ⟨rfl, rfl, rfl, by decide +kernel, rfl, by decide +kernel, by decide +kernel⟩
abbrev P_standing_steps : List Str := ["store"]
abbrev N_standing_steps : List Str := ["store", "told", "closes", "items", "k", "item", "lot", "after", "add"]
theorem sc_standing_steps : FnScope N_standing_steps P_standing_steps (defScope s_standing_steps) := ⟨rfl, rfl, rfl, by decide +kernel, rfl, by decide +kernel, by decide +kernel⟩
abbrev P_least_machine : List Str := ["teller"]
abbrev N_least_machine : List Str := ["teller", "first", "items"]
theorem sc_least_machine : FnScope N_least_machine P_least_machine (defScope s_least_machine) := ⟨rfl, rfl, rfl, by decide +kernel, rfl, by decide +kernel, by decide +kernel⟩
abbrev P_Verdict_init : List Str := ["self", "holds"]
abbrev N_Verdict_init : List Str := ["self", "holds"]
theorem sc_Verdict_init : FnScope N_Verdict_init P_Verdict_init (defScope s_Verdict_init) := ⟨rfl, rfl, rfl, by decide +kernel, rfl, by decide +kernel, by decide +kernel⟩
abbrev P_RowLikeness_init : List Str := ["self", "more", "first", "second"]
abbrev N_RowLikeness_init : List Str := ["self", "more", "first", "second"]
theorem sc_RowLikeness_init : FnScope N_RowLikeness_init P_RowLikeness_init (defScope s_RowLikeness_init) := ⟨rfl, rfl, rfl, by decide +kernel, rfl, by decide +kernel, by decide +kernel⟩
abbrev P_action_of : List Str := ["machine", "row"]
abbrev N_action_of : List Str := ["machine", "row", "numbers", "pairs", "kind", "pair"]
theorem sc_action_of : FnScope N_action_of P_action_of (defScope s_action_of) := ⟨rfl, rfl, rfl, by decide +kernel, rfl, by decide +kernel, by decide +kernel⟩
abbrev P_rows_alike : List Str := ["teller", "one", "other"]
abbrev N_rows_alike : List Str := ["teller", "one", "other", "machine", "leads", "gains", "others", "lesser", "more", "kind", "row"]
theorem sc_rows_alike : FnScope N_rows_alike P_rows_alike (defScope s_rows_alike) := ⟨rfl, rfl, rfl, by decide +kernel, rfl, by decide +kernel, by decide +kernel⟩
abbrev P_L_cell : List Str := ["_law_script", "_law_k"]
abbrev N_L_cell : List Str := ["_law_script", "_law_k"]
theorem sc_L_cell : FnScope N_L_cell P_L_cell (defScope s_L_cell) := ⟨rfl, rfl, rfl, by decide +kernel, rfl, by decide +kernel, by decide +kernel⟩
abbrev P_L_source : List Str := ["_law_script", "_law_k"]
abbrev N_L_source : List Str := ["_law_script", "_law_k", "_law_cell_here", "_law_number", "_law_mixed"]
theorem sc_L_source : FnScope N_L_source P_L_source (defScope s_L_source) := ⟨rfl, rfl, rfl, by decide +kernel, rfl, by decide +kernel, by decide +kernel⟩
abbrev P_L_draw : List Str := ["_law_source_here", "_law_many"]
abbrev N_L_draw : List Str := ["_law_source_here", "_law_many", "_law_digit", "_law_mixed"]
theorem sc_L_draw : FnScope N_L_draw P_L_draw (defScope s_L_draw) := ⟨rfl, rfl, rfl, by decide +kernel, rfl, by decide +kernel, by decide +kernel⟩
abbrev P_L_is_int : List Str := ["_law_thing"]
abbrev N_L_is_int : List Str := ["_law_thing"]
theorem sc_L_is_int : FnScope N_L_is_int P_L_is_int (defScope s_L_is_int) := ⟨rfl, rfl, rfl, by decide +kernel, rfl, by decide +kernel, by decide +kernel⟩
abbrev P_L_exact : List Str := ["_law_told", "_law_due"]
abbrev N_L_exact : List Str := ["_law_told", "_law_due", "_law_one", "_law_other"]
theorem sc_L_exact : FnScope N_L_exact P_L_exact (defScope s_L_exact) := ⟨rfl, rfl, rfl, by decide +kernel, rfl, by decide +kernel, by decide +kernel⟩
abbrev P_L_asks : List Str := ["_law_source_here"]
abbrev N_L_asks : List Str := ["_law_source_here"]
theorem sc_L_asks : FnScope N_L_asks P_L_asks (defScope s_L_asks) := ⟨rfl, rfl, rfl, by decide +kernel, rfl, by decide +kernel, by decide +kernel⟩
abbrev P_L_states : List Str := ["_law_source_here"]
abbrev N_L_states : List Str := ["_law_source_here"]
theorem sc_L_states : FnScope N_L_states P_L_states (defScope s_L_states) := ⟨rfl, rfl, rfl, by decide +kernel, rfl, by decide +kernel, by decide +kernel⟩
abbrev P_L_prices : List Str := ["_law_source_here", "_law_many", "_law_most"]
abbrev N_L_prices : List Str := ["_law_source_here", "_law_many", "_law_most", "_law_k"]
theorem sc_L_prices : FnScope N_L_prices P_L_prices (defScope s_L_prices) := ⟨rfl, rfl, rfl, by decide +kernel, rfl, by decide +kernel, by decide +kernel⟩
abbrev P_L_any_table : List Str := ["_law_source_here", "_law_many", "_law_most"]
abbrev N_L_any_table : List Str := ["_law_source_here", "_law_many", "_law_most", "_law_s"]
theorem sc_L_any_table : FnScope N_L_any_table P_L_any_table (defScope s_L_any_table) := ⟨rfl, rfl, rfl, by decide +kernel, rfl, by decide +kernel, by decide +kernel⟩
abbrev P_L_change : List Str := ["_law_source_here", "_law_s", "_law_t", "_law_most"]
abbrev N_L_change : List Str := ["_law_source_here", "_law_s", "_law_t", "_law_most"]
theorem sc_L_change : FnScope N_L_change P_L_change (defScope s_L_change) := ⟨rfl, rfl, rfl, by decide +kernel, rfl, by decide +kernel, by decide +kernel⟩
abbrev P_L_changes : List Str := ["_law_source_here", "_law_many", "_law_most"]
abbrev N_L_changes : List Str := ["_law_source_here", "_law_many", "_law_most", "_law_found", "_law_s", "_law_t"]
theorem sc_L_changes : FnScope N_L_changes P_L_changes (defScope s_L_changes) := ⟨rfl, rfl, rfl, by decide +kernel, rfl, by decide +kernel, by decide +kernel⟩
abbrev P_L_served : List Str := ["_law_changes_here", "_law_serves"]
abbrev N_L_served : List Str := ["_law_changes_here", "_law_serves", "_law_line", "_law_price", "_law_serve"]
theorem sc_L_served : FnScope N_L_served P_L_served (defScope s_L_served) := ⟨rfl, rfl, rfl, by decide +kernel, rfl, by decide +kernel, by decide +kernel⟩
abbrev P_L_world : List Str := ["_law_source_here", "_law_many", "_law_asks_here", "_law_most"]
abbrev N_L_world : List Str := ["_law_source_here", "_law_many", "_law_asks_here", "_law_most", "_law_manner", "_law_begins", "_law_ends", "_law_changes_here", "_law_costs", "_law_k", "_law_serves", "_law_price"]
theorem sc_L_world : FnScope N_L_world P_L_world (defScope s_L_world) := ⟨rfl, rfl, rfl, by decide +kernel, rfl, by decide +kernel, by decide +kernel⟩
abbrev P_L_raised : List Str := ["_law_world_here", "_law_more"]
abbrev N_L_raised : List Str := ["_law_world_here", "_law_more", "_law_asks_here", "_law_begins", "_law_costs", "_law_ends", "_law_found", "_law_k", "_law_price", "_law_line"]
theorem sc_L_raised : FnScope N_L_raised P_L_raised (defScope s_L_raised) := ⟨rfl, rfl, rfl, by decide +kernel, rfl, by decide +kernel, by decide +kernel⟩
abbrev P_L_moved : List Str := ["_law_source_here", "_law_world_here"]
abbrev N_L_moved : List Str := ["_law_source_here", "_law_world_here", "_law_more", "_law_k", "_law_number"]
theorem sc_L_moved : FnScope N_L_moved P_L_moved (defScope s_L_moved) := ⟨rfl, rfl, rfl, by decide +kernel, rfl, by decide +kernel, by decide +kernel⟩
abbrev P_L_led : List Str := ["_law_line", "_law_table"]
abbrev N_L_led : List Str := ["_law_line", "_law_table", "_law_many", "_law_t", "_law_s"]
theorem sc_L_led : FnScope N_L_led P_L_led (defScope s_L_led) := ⟨rfl, rfl, rfl, by decide +kernel, rfl, by decide +kernel, by decide +kernel⟩
abbrev P_L_work : List Str := ["_law_world_here", "_law_row_here"]
abbrev N_L_work : List Str := ["_law_world_here", "_law_row_here", "_law_line", "_law_letter"]
theorem sc_L_work : FnScope N_L_work P_L_work (defScope s_L_work) := ⟨rfl, rfl, rfl, by decide +kernel, rfl, by decide +kernel, by decide +kernel⟩
abbrev P_L_least_of : List Str := ["_law_world_here", "_law_row_here"]
abbrev N_L_least_of : List Str := ["_law_world_here", "_law_row_here", "_law_x", "_law_y"]
theorem sc_L_least_of : FnScope N_L_least_of P_L_least_of (defScope s_L_least_of) := ⟨rfl, rfl, rfl, by decide +kernel, rfl, by decide +kernel, by decide +kernel⟩
abbrev P_L_low : List Str := ["_law_line"]
abbrev N_L_low : List Str := ["_law_line", "_law_low_here", "_law_x"]
theorem sc_L_low : FnScope N_L_low P_L_low (defScope s_L_low) := ⟨rfl, rfl, rfl, by decide +kernel, rfl, by decide +kernel, by decide +kernel⟩
abbrev P_L_lots : List Str := ["_law_world_here", "_law_most"]
abbrev N_L_lots : List Str := ["_law_world_here", "_law_most", "_law_asks_here", "_law_lots_here", "_law_rows", "_law_places", "_law_steps", "_law_place", "_law_items", "_law_k", "_law_after", "_law_lot"]
theorem sc_L_lots : FnScope N_L_lots P_L_lots (defScope s_L_lots) := ⟨rfl, rfl, rfl, by decide +kernel, rfl, by decide +kernel, by decide +kernel⟩
abbrev P_L_classes : List Str := ["_law_steps"]
abbrev N_L_classes : List Str := ["_law_steps", "_law_classes_here", "_law_many", "_law_turn", "_law_known", "_law_found", "_law_k", "_law_sign_here", "_law_step"]
theorem sc_L_classes : FnScope N_L_classes P_L_classes (defScope s_L_classes) := ⟨rfl, rfl, rfl, by decide +kernel, rfl, by decide +kernel, by decide +kernel⟩
abbrev P_L_shrunk : List Str := ["_law_asks_here", "_law_first", "_law_steps"]
abbrev N_L_shrunk : List Str := ["_law_asks_here", "_law_first", "_law_steps", "_law_classes_here", "_law_order", "_law_rows", "_law_numbers", "_law_items", "_law_place", "_law_item", "_law_k", "_law_step", "_law_sign_here"]
theorem sc_L_shrunk : FnScope N_L_shrunk P_L_shrunk (defScope s_L_shrunk) := ⟨rfl, rfl, rfl, by decide +kernel, rfl, by decide +kernel, by decide +kernel⟩
abbrev P_L_machine : List Str := ["_law_world_here", "_law_most"]
abbrev N_L_machine : List Str := ["_law_world_here", "_law_most", "_law_told", "_law_lots_here", "_law_rows", "_law_steps", "_law_closes", "_law_items", "_law_k", "_law_lot", "_law_x", "_law_y", "_law_step"]
theorem sc_L_machine : FnScope N_L_machine P_L_machine (defScope s_L_machine) := ⟨rfl, rfl, rfl, by decide +kernel, rfl, by decide +kernel, by decide +kernel⟩
abbrev P_L_went : List Str := ["_law_steps", "_law_asks_here", "_law_kind", "_law_row_here"]
abbrev N_L_went : List Str := ["_law_steps", "_law_asks_here", "_law_kind", "_law_row_here", "_law_gain", "_law_letter", "_law_step"]
theorem sc_L_went : FnScope N_L_went P_L_went (defScope s_L_went) := ⟨rfl, rfl, rfl, by decide +kernel, rfl, by decide +kernel, by decide +kernel⟩
abbrev P_L_steps_due : List Str := ["_law_steps"]
abbrev N_L_steps_due : List Str := ["_law_steps", "_law_item", "_law_step"]
theorem sc_L_steps_due : FnScope N_L_steps_due P_L_steps_due (defScope s_L_steps_due) := ⟨rfl, rfl, rfl, by decide +kernel, rfl, by decide +kernel, by decide +kernel⟩
abbrev P_L_row : List Str := ["_law_source_here", "_law_asks_here", "_law_longest"]
abbrev N_L_row : List Str := ["_law_source_here", "_law_asks_here", "_law_longest", "_law_size", "_law_k"]
theorem sc_L_row : FnScope N_L_row P_L_row (defScope s_L_row) := ⟨rfl, rfl, rfl, by decide +kernel, rfl, by decide +kernel, by decide +kernel⟩
abbrev P_L_rows_to : List Str := ["_law_asks_here", "_law_longest"]
abbrev N_L_rows_to : List Str := ["_law_asks_here", "_law_longest", "_law_found", "_law_begin", "_law_turn", "_law_end", "_law_place", "_law_ask"]
theorem sc_L_rows_to : FnScope N_L_rows_to P_L_rows_to (defScope s_L_rows_to) := ⟨rfl, rfl, rfl, by decide +kernel, rfl, by decide +kernel, by decide +kernel⟩
abbrev P_L_sign : List Str := ["_law_lead", "_law_gain"]
abbrev N_L_sign : List Str := ["_law_lead", "_law_gain", "_law_number"]
theorem sc_L_sign : FnScope N_L_sign P_L_sign (defScope s_L_sign) := ⟨rfl, rfl, rfl, by decide +kernel, rfl, by decide +kernel, by decide +kernel⟩
abbrev P_L_small : List Str := ["_law_source_here", "_law_asks_here", "_law_most"]
abbrev N_L_small : List Str := ["_law_source_here", "_law_asks_here", "_law_most", "_law_many"]
theorem sc_L_small : FnScope N_L_small P_L_small (defScope s_L_small) := ⟨rfl, rfl, rfl, by decide +kernel, rfl, by decide +kernel, by decide +kernel⟩
abbrev P_L_acts : List Str := ["_law_asks_here", "_law_steps", "_law_row_here"]
abbrev N_L_acts : List Str := ["_law_asks_here", "_law_steps", "_law_row_here", "_law_found", "_law_kind", "_law_pair"]
theorem sc_L_acts : FnScope N_L_acts P_L_acts (defScope s_L_acts) := ⟨rfl, rfl, rfl, by decide +kernel, rfl, by decide +kernel, by decide +kernel⟩
abbrev P_law : List Str := ["_law_script"]
abbrev N_law : List Str := ["_law_script", "_law_source_here", "_law_asks_here", "_law_world_here", "_law_machine_here", "_law_fresh", "_law_rows", "_law_k", "_law_steps", "_law_kind", "_law_row_here", "_law_found", "_law_due", "_law_store", "_law_told", "_law_seen", "_law_whole", "_law_sign_here", "_law_other", "_law_answer", "_law_pair", "_law_letter"]
theorem sc_law : FnScope N_law P_law (defScope s_law) := ⟨rfl, rfl, rfl, by decide +kernel, rfl, by decide +kernel, by decide +kernel⟩

/-- a def of the module stands at f -/
abbrev FnAt (K : PySem.W.Frag) (x qual : Str) (st : Stmt) (f : Addr) (fd : FuncData) : Prop := FunD K x qual (defArgs st) (defBody st) (defScope st) [] [] f fd
def Glo (K : PySem.W.Frag) (mg : Str → Option Value) (x : Str) (st : Stmt) : Prop := ∃ f fd, FnAt K x x st f fd ∧ mg x = some (.ref f)
/-- a class with its __init__ -/
structure ClsAt (K : PySem.W.Frag) (mg : Str → Option Value) (x q : Str) (st : Stmt) (C : Addr) : Prop where
  cl : Cls K C
  mgC : mg x = some (.ref C)
  ini : ∃ f fd, FnAt K "__init__" q st f fd ∧ Mk K C f
/-- a class whose __init__ is called by the class's name -/
structure ClsFn (K : PySem.W.Frag) (mg : Str → Option Value) (x q : Str) (st : Stmt) (C : Addr) : Prop where
  mgC : mg x = some (.ref C)
  rd : ClX.CRead K C (.type "type")
  ini : ∃ f fd, FnAt K "__init__" q st f fd ∧ ClX.CVal K C (.type "type") "__init__" (.ref f) (.ref f)
structure Env (K : PySem.W.Frag) (mg : Str → Option Value) (cSt cSg cMa cVe cRl : Addr) : Prop where
  d_is_integer : Glo K mg "is_integer" s_is_integer
  d_is_count : Glo K mg "is_count" s_is_count
  d_is_listed : Glo K mg "is_listed" s_is_listed
  d_deep : Glo K mg "deep" s_deep
  d_is_asks : Glo K mg "is_asks" s_is_asks
  d_check_asks : Glo K mg "check_asks" s_check_asks
  d_row_over : Glo K mg "row_over" s_row_over
  d_check_row : Glo K mg "check_row" s_check_row
  d_numbers_of : Glo K mg "numbers_of" s_numbers_of
  d_integers : Glo K mg "integers" s_integers
  d_led : Glo K mg "led" s_led
  d_joined_tables : Glo K mg "joined_tables" s_joined_tables
  d_added : Glo K mg "added" s_added
  d_lowered : Glo K mg "lowered" s_lowered
  d_is_table : Glo K mg "is_table" s_is_table
  d_are_costs : Glo K mg "are_costs" s_are_costs
  d_row_table : Glo K mg "row_table" s_row_table
  d_put_for : Glo K mg "put_for" s_put_for
  d_standings : Glo K mg "standings" s_standings
  d_is_item : Glo K mg "is_item" s_is_item
  d_least_rows : Glo K mg "least_rows" s_least_rows
  d_went : Glo K mg "went" s_went
  d_classes_of : Glo K mg "classes_of" s_classes_of
  d_shrunk_steps : Glo K mg "shrunk_steps" s_shrunk_steps
  d_standing_steps : Glo K mg "standing_steps" s_standing_steps
  d_least_machine : Glo K mg "least_machine" s_least_machine
  d_action_of : Glo K mg "action_of" s_action_of
  d_rows_alike : Glo K mg "rows_alike" s_rows_alike
  d_L_cell : Glo K mg "_law_cell" s_L_cell
  d_L_source : Glo K mg "_law_source" s_L_source
  d_L_draw : Glo K mg "_law_draw" s_L_draw
  d_L_is_int : Glo K mg "_law_is_int" s_L_is_int
  d_L_exact : Glo K mg "_law_exact" s_L_exact
  d_L_asks : Glo K mg "_law_asks" s_L_asks
  d_L_states : Glo K mg "_law_states" s_L_states
  d_L_prices : Glo K mg "_law_prices" s_L_prices
  d_L_any_table : Glo K mg "_law_any_table" s_L_any_table
  d_L_change : Glo K mg "_law_change" s_L_change
  d_L_changes : Glo K mg "_law_changes" s_L_changes
  d_L_served : Glo K mg "_law_served" s_L_served
  d_L_world : Glo K mg "_law_world" s_L_world
  d_L_raised : Glo K mg "_law_raised" s_L_raised
  d_L_moved : Glo K mg "_law_moved" s_L_moved
  d_L_led : Glo K mg "_law_led" s_L_led
  d_L_work : Glo K mg "_law_work" s_L_work
  d_L_least_of : Glo K mg "_law_least_of" s_L_least_of
  d_L_low : Glo K mg "_law_low" s_L_low
  d_L_lots : Glo K mg "_law_lots" s_L_lots
  d_L_classes : Glo K mg "_law_classes" s_L_classes
  d_L_shrunk : Glo K mg "_law_shrunk" s_L_shrunk
  d_L_machine : Glo K mg "_law_machine" s_L_machine
  d_L_went : Glo K mg "_law_went" s_L_went
  d_L_steps_due : Glo K mg "_law_steps_due" s_L_steps_due
  d_L_row : Glo K mg "_law_row" s_L_row
  d_L_rows_to : Glo K mg "_law_rows_to" s_L_rows_to
  d_L_sign : Glo K mg "_law_sign" s_L_sign
  d_L_small : Glo K mg "_law_small" s_L_small
  d_L_acts : Glo K mg "_law_acts" s_L_acts
  k_Store : ClsAt K mg "Store" "Store.__init__" s_Store_init cSt
  n_Store_asks : NoAttr K cSt "asks"
  n_Store_begins : NoAttr K cSt "begins"
  n_Store_costs : NoAttr K cSt "costs"
  n_Store_ends : NoAttr K cSt "ends"
  k_Standings : ClsAt K mg "Standings" "Standings.__init__" s_Standings_init cSg
  n_Standings_lots : NoAttr K cSg "lots"
  n_Standings_rows : NoAttr K cSg "rows"
  n_Standings_steps : NoAttr K cSg "steps"
  k_Machine : ClsAt K mg "Machine" "Machine.__init__" s_Machine_init cMa
  n_Machine_asks : NoAttr K cMa "asks"
  n_Machine_first : NoAttr K cMa "first"
  n_Machine_steps : NoAttr K cMa "steps"
  n_Machine_rows : NoAttr K cMa "rows"
  v_Verdict : ClsFn K mg "Verdict" "Verdict.__init__" s_Verdict_init cVe
  k_RowLikeness : ClsAt K mg "RowLikeness" "RowLikeness.__init__" s_RowLikeness_init cRl
  n_RowLikeness_holds : NoAttr K cRl "holds"
  n_RowLikeness_more : NoAttr K cRl "more"
  n_RowLikeness_first : NoAttr K cRl "first"
  n_RowLikeness_second : NoAttr K cRl "second"
  b_isinstance : mg "isinstance" = none
  b_int : mg "int" = none
  b_bool : mg "bool" = none
  b_tuple : mg "tuple" = none
  b_list : mg "list" = none
  b_str : mg "str" = none
  b_len : mg "len" = none
  b_range : mg "range" = none
  b_enumerate : mg "enumerate" = none
  b_zip : mg "zip" = none
  b_min : mg "min" = none
  b_max : mg "max" = none
  b_sum : mg "sum" = none
  b_abs : mg "abs" = none
  g_LONGEST : ∃ t, mg "LONGEST" = some (.int 2000 t)
  g_MOST_STATES : ∃ t, mg "MOST_STATES" = some (.int 1000 t)
  g_MOST_STANDINGS : ∃ t, mg "MOST_STANDINGS" = some (.int 1000 t)
  g_MOST_KINDS : ∃ t, mg "MOST_KINDS" = some (.int 1000 t)
  g_LETTERS : ∃ t, mg "LETTERS" = some (.str "abcdefgh" t)
  isi_cls : PySem.W.findIn K (.ref cSt) "__class__" = some (some (.builtin "object.__class__"))
  isi_get : PySem.W.specialIn K (.builtin "object.__class__") "__get__" = some (some (.builtin "getset_descriptor.__get__"))
  isi_tk : PySem.W.takesIn K (.builtin "object.__class__") = some true
  isi_mro : PySem.W.mroIn K cSt (.type "object") = some true
  isi_one : PySem.W.kitOne K (.ref cSt) (.ref cSt) = some true
section
variable {P : Program} {w : World} {K : PySem.W.Frag} {mg : Str → Option Value} {base : Heap}
theorem fn_ok {x : Str} {st : Stmt} {N ps : List Str} {k : Nat} {sp : Sp} (F : Glo K mg x st) (S : FnScope N ps (defScope st))
    (hb : ∀ (kV doc pm : Value) (an : Option Addr) (cdv ct : Value) (us : List Value), us.length = ps.length → bindArgs (PySem.W.fnOf x x (defArgs st) (defBody st) (defScope st) .none kV doc pm an cdv ct) ⟨us, []⟩ = pure (ps.zip us))
    (len : ∀ vs H Q E, sp vs H Q E → vs.length = ps.length)
    (hbody : ∀ (f : Addr) (cdv : Value) (A : Around) (outer : List PySem.Env) (s : Shared) (H : Hp) (vs : List V) (Q : VK) (E : XK), Room k (A.deeper (envOfC x (defScope st) s.heap.objs.size f cdv)) → sp vs H Q E →
      ∃ t, PSs (cxOf CX0 P w K mg base N x (defScope st) f cdv A outer s H E).nox (defBody st) t ∧ t { nx := fun _ H' => Q .non H', rt := Q } (start N vs) H) : Fn P w K mg base x (k + 1) ps sp := by
  obtain ⟨f, fd, F, m⟩ := F
  refine ⟨f, fd, F.ok S len (fun cdv A outer s H vs Q E hr h => ?_), F.bindsN hb, m, F.kp⟩
  obtain ⟨t, h1, h2⟩ := hbody f cdv A outer s H vs Q E hr h
  exact ⟨t, h1.nox, h2⟩
/-- an __init__ -/
structure Ini (P : Program) (w : World) (K : PySem.W.Frag) (mg : Str → Option Value) (base : Heap) (x : Str) (C : Addr) (k : Nat) (ps : List Str) (sp : Sp) : Prop where
  ex : ∃ f fd, FnOk P w K mg base CX0 k f fd ps sp ∧ Binds K fd ps [] ∧ Mk K C f ∧ mg x = some (.ref C)
theorem ini_ok {x q : Str} {st : Stmt} {C : Addr} {N ps : List Str} {k : Nat} {sp : Sp} (F : ClsAt K mg x q st C) (S : FnScope N ps (defScope st))
    (hb : ∀ (kV doc pm : Value) (an : Option Addr) (cdv ct : Value) (us : List Value), us.length = ps.length → bindArgs (PySem.W.fnOf "__init__" q (defArgs st) (defBody st) (defScope st) .none kV doc pm an cdv ct) ⟨us, []⟩ = pure (ps.zip us))
    (len : ∀ vs H Q E, sp vs H Q E → vs.length = ps.length)
    (hbody : ∀ (f : Addr) (cdv : Value) (A : Around) (outer : List PySem.Env) (s : Shared) (H : Hp) (vs : List V) (Q : VK) (E : XK), Room k (A.deeper (envOfC q (defScope st) s.heap.objs.size f cdv)) → sp vs H Q E →
      ∃ t, PSs (cxOf CX0 P w K mg base N q (defScope st) f cdv A outer s H E).nox (defBody st) t ∧ t { nx := fun _ H' => Q .non H', rt := Q } (start N vs) H) : Ini P w K mg base x C (k + 1) ps sp := by
  obtain ⟨f, fd, F0, m⟩ := F.ini
  refine ⟨f, fd, F0.ok S len (fun cdv A outer s H vs Q E hr h => ?_), F0.bindsN hb, m, F.mgC⟩
  obtain ⟨t, h1, h2⟩ := hbody f cdv A outer s H vs Q E hr h
  exact ⟨t, h1.nox, h2⟩
theorem pe_ini {X : Cx} {x : Str} {C : Addr} {k : Nat} {ps : List Str} {sp : Sp} {p pos : Pos} {e : Expr} {es : List Expr} {t : TA} (F : Ini X.prog X.w X.K X.mg X.base x C k ps sp) (hr : Room (k + 1) X.A) (hg : Gl X x)
    (ha : PA X (e :: es) t) (hdb : (x == ("__debug__" : Str)) = false := by decide) (he : starEach (e :: es) X.env = (false, eval e X.env) :: starEach es X.env := by rfl) (hpl : (backTo pos (starEach es X.env)).any (·.1) = false := by rfl) :
    PE X (.Call (.Name x p) (e :: es) [] pos) (tMake C sp [] E0 t) := by
  obtain ⟨f, fd, G, b, m, mc⟩ := F.ex
  exact pe_make m G hr hg mc b .nil pass0 ha hdb he hpl
structure Cf (P : Program) (w : World) (K : PySem.W.Frag) (mg : Str → Option Value) (base : Heap) (C : Addr) (k : Nat) (ps : List Str) (sp : Sp) : Prop where
  rd : ClX.CRead K C (.type "type")
  ex : ∃ f fd, FnOk P w K mg base CX0 k f fd ps sp ∧ Binds K fd ps [] ∧ ClX.CVal K C (.type "type") "__init__" (.ref f) (.ref f) ∧ PySem.W.keepIn K (.ref f) = true
theorem cf_ok {x q : Str} {st : Stmt} {C : Addr} {N ps : List Str} {k : Nat} {sp : Sp} (F : ClsFn K mg x q st C) (S : FnScope N ps (defScope st))
    (hb : ∀ (kV doc pm : Value) (an : Option Addr) (cdv ct : Value) (us : List Value), us.length = ps.length → bindArgs (PySem.W.fnOf "__init__" q (defArgs st) (defBody st) (defScope st) .none kV doc pm an cdv ct) ⟨us, []⟩ = pure (ps.zip us))
    (len : ∀ vs H Q E, sp vs H Q E → vs.length = ps.length)
    (hbody : ∀ (f : Addr) (cdv : Value) (A : Around) (outer : List PySem.Env) (s : Shared) (H : Hp) (vs : List V) (Q : VK) (E : XK), Room k (A.deeper (envOfC q (defScope st) s.heap.objs.size f cdv)) → sp vs H Q E →
      ∃ t, PSs (cxOf CX0 P w K mg base N q (defScope st) f cdv A outer s H E).nox (defBody st) t ∧ t { nx := fun _ H' => Q .non H', rt := Q } (start N vs) H) : Cf P w K mg base C (k + 1) ps sp := by
  obtain ⟨f, fd, F0, m⟩ := F.ini
  refine ⟨F.rd, f, fd, F0.ok S len (fun cdv A outer s H vs Q E hr h => ?_), F0.bindsN hb, m, F0.kp⟩
  obtain ⟨t, h1, h2⟩ := hbody f cdv A outer s H vs Q E hr h
  exact ⟨t, h1.nox, h2⟩
def tClsFn (C : Addr) (sp : Sp) (ta : TE) (t : TA) : TE := fun σ H Q => ta σ H fun x H1 => x = .ref C ∧ t σ H1 fun vs H2 => sp vs H2 Q E0
theorem pe_clsfn {X : Cx} {C : Addr} {k : Nat} {ps : List Str} {sp : Sp} {o e : Expr} {es : List Expr} {pos apos : Pos} {ta : TE} {t : TA} {pl : Sem Bool} (F : Cf X.prog X.w X.K X.mg X.base C k ps sp) (hr : Room k X.A) (he : PE X o ta) (ha : PA X (e :: es) t)
    (hst : starEach (e :: es) X.env = (false, eval e X.env) :: starEach es X.env := by rfl) (hpl : (backTo pos (starEach es X.env)).any (·.1) = false := by rfl)
    (ht : eval (.Call (.Attribute o "__init__" apos) (e :: es) [] pos) X.env = (do
      let ov ← eval o X.env
      standAt apos.atName
      let (f, first) ← holding [ov] (getMethod ov "__init__" pl)
      callWith pos f first (backTo pos (starEach (e :: es) X.env)) (backToKw pos (keywordEach [] X.env))) := by rfl) :
    PE X (.Call (.Attribute o "__init__" apos) (e :: es) [] pos) (tClsFn C sp ta t) := by
  obtain ⟨f, fd, G, b, m, kp⟩ := F.ex
  refine ⟨fun pins s σ H Q I h => ?_⟩
  refine PySem.W.methodCall_KW (pl := pl) (thn (he.run pins s σ H _ I h) fun u s1 ⟨x, H1, I1, rx, ex, q⟩ => ?_) ht
  subst ex
  obtain rfl : u = Value.ref C := rx
  refine PySem.W.method_cls I1.kIn F.rd.ga (ClX.getcval_ok I1 F.rd m fun s2 I2 => ?_)
  refine PySem.W.callWith_K (h₀ := X.base) I.ok.mod.kin kp (thn (ha.run pos pins s2 σ H1 _ I2 q) fun us s3 ⟨vs, H2, I3, r, q2⟩ => ⟨I3.kIn, ?_⟩) hst hpl
  exact run_fn G hr b .nil pass0 I3 r (by rw [List.append_nil]; exact q2)
end
/-! ### rules with the written part named (for the blocks of comprehensions) -/
section
variable {X : Cx} {K : PySem.W.Frag}
@[irreducible] def rIxQ (K : PySem.W.Frag) : R2 := rIx K
theorem ix_seqK (h : X.K = K := by rfl) : IxR X (rIxQ K) := by subst h; unfold rIxQ; exact ix_seq
@[irreducible] def rFldQ (K : PySem.W.Frag) (f : Str) : V → Hp → VK → Prop := fun x H1 Q => ∃ a C dx fs v, x = .ref a ∧ H1 a = some (.ins C dx fs) ∧ Cls K C ∧ NoAttr K C f ∧ fs.lookup f = some v ∧ Q v H1
def tFldQ (K : PySem.W.Frag) (ta : TE) (f : Str) : TE := fun σ H Q => ta σ H fun x H1 => rFldQ K f x H1 Q
theorem pe_fldK {e : Expr} {f : Str} {pos : Pos} {ta : TE} (he : PE X e ta) (h : X.K = K := by rfl) (hb : attributeBase e f X.env (eval e X.env) = eval e X.env := by rfl) : PE X (.Attribute e f pos) (tFldQ K ta f) := by subst h; unfold tFldQ rFldQ; exact pe_fld he hb
theorem pi_listK {tg l : Expr} {tl : TE} (hl : PE X l tl) (h : X.K = K := by rfl) : PI X tg l (iList K tl) := by subst h; exact pi_list hl
theorem pi_tupK {tg l : Expr} {tl : TE} (hl : PE X l tl) (h : X.K = K := by rfl) : PI X tg l (iTup K tl) := by subst h; exact pi_tup hl
theorem pi_seqK {tg l : Expr} {tl : TE} (hl : PE X l tl) (h : X.K = K := by rfl) : PI X tg l (iSeq K tl) := by subst h; exact pi_seq hl
theorem pi_zipTLK {e e2 : Expr} {ta : TA} {p pos tpos : Pos} {elts : List Expr} {kk : Nat} (hg : Gl X "zip") (hm : X.mg "zip" = none) (ha : PA X [e, e2] ta) (h : X.K = K := by rfl)
    (hs : starEach [e, e2] X.env = (false, eval e X.env) :: starEach [e2] X.env := by rfl) (hpl : (backTo pos (starEach [e2] X.env)).any (·.1) = false := by rfl) :
    PI X (.Tuple elts kk tpos) (.Call (.Name "zip" p) [e, e2] [] pos) (iZipTL K ta) := by subst h; exact pi_zipTL hg hm ha hs hpl
theorem pi_zipAK {e e2 : Expr} {ta : TA} {p pos tpos : Pos} {elts : List Expr} {kk : Nat} (hg : Gl X "zip") (hm : X.mg "zip" = none) (ha : PA X [e, e2] ta) (h : X.K = K := by rfl)
    (hs : starEach [e, e2] X.env = (false, eval e X.env) :: starEach [e2] X.env := by rfl) (hpl : (backTo pos (starEach [e2] X.env)).any (·.1) = false := by rfl) :
    PI X (.Tuple elts kk tpos) (.Call (.Name "zip" p) [e, e2] [] pos) (RZ.iZipA K ta) := by subst h; exact RZ.pi_zipA hg hm ha hs hpl
@[irreducible] def rMinQ (K : PySem.W.Frag) : List V → Hp → VK → Prop := rMinS K
theorem cr_minSK (hc : X.calm = true) (h : X.K = K := by rfl) : CallR X (.builtin "min") (rMinQ K) := by subst h; unfold rMinQ; exact cr_minS hc
@[irreducible] def rLenQ (K : PySem.W.Frag) : List V → Hp → VK → Prop := fun xs H Q => ∃ p ys, xs = [.ref p] ∧ (SqL K H p ys ∨ SqT K H p ys) ∧ Q (.int (ys.length : Int)) H
theorem call_len_seqK (h : X.K = K := by rfl) : CallR X (.builtin "len") (rLenQ K) := by subst h; unfold rLenQ; exact call_len_seq
@[irreducible] def rTupQ (K : PySem.W.Frag) : List V → Hp → VK → Prop := fun xs H Q => ∃ p ys, xs = [.ref p] ∧ ((SqL K H p ys ∧ ∀ l, H l = none → Q (.ref l) (upd H l (.tup ys))) ∨ (SqT K H p ys ∧ Q (.ref p) H))
theorem call_tuple_ofK (h : X.K = K := by rfl) : CallR X (.type "tuple") (rTupQ K) := by subst h; unfold rTupQ; exact call_tuple_of
theorem cr_sumK (hc : X.calm = true) (h : X.K = K := by rfl) : CallR X (.builtin "sum") (rSum K) := by subst h; exact cr_sum hc
@[irreducible] def rListQ (K : PySem.W.Frag) : List V → Hp → VK → Prop := fun xs H Q => ∃ p ys, xs = [.ref p] ∧ (SqL K H p ys ∨ SqT K H p ys) ∧ ∀ l, H l = none → Q (.ref l) (upd H l (.lst ys))
theorem call_list_ofK (h : X.K = K := by rfl) : CallR X (.type "list") (rListQ K) := by subst h; unfold rListQ; exact call_list_of
@[irreducible] def rIsiQ (K : PySem.W.Frag) : List V → Hp → VK → Prop := rIsi K
theorem call_isiK (h : X.K = K := by rfl) : CallR X (.builtin "isinstance") (rIsiQ K) := by subst h; unfold rIsiQ; exact call_isi
@[irreducible] def rIsiTQ (K : PySem.W.Frag) : List V → Hp → VK → Prop := rIsiT K
theorem call_isiTK (h : X.K = K := by rfl) : CallR X (.builtin "isinstance") (rIsiTQ K) := by subst h; unfold rIsiTQ; exact call_isiT
theorem sl_listK (h : X.K = K := by rfl) : SlR X (rSlL K) := by subst h; exact sl_list
end
end AW
namespace AW
/-! ### least numbers -/
def mn : List Int → Int
  | [] => 0
  | [x] => x
  | x :: y :: r => min x (mn (y :: r))
theorem mn_mem : ∀ {l : List Int}, l ≠ [] → mn l ∈ l
  | [], h => (h rfl).elim
  | [x], _ => by simp [mn]
  | x :: y :: r, _ => by
    have ih := mn_mem (l := y :: r) (by simp)
    unfold mn
    rcases Int.le_total x (mn (y :: r)) with h | h
    · rw [Int.min_eq_left h]; simp
    · rw [Int.min_eq_right h]; exact List.mem_cons_of_mem _ ih
theorem mn_le : ∀ {l : List Int} {y : Int}, y ∈ l → mn l ≤ y
  | [], _, h => by simp at h
  | [x], y, h => by simp at h; subst h; exact Int.le_refl _
  | x :: z :: r, y, h => by
    unfold mn
    rcases List.mem_cons.mp h with e | e
    · subst e; exact Int.min_le_left _ _
    · exact Int.le_trans (Int.min_le_right _ _) (mn_le e)
theorem mn_eq {l : List Int} {m : Int} (h : m ∈ l) (hl : ∀ y ∈ l, m ≤ y) : m = mn l :=
  Int.le_antisymm (hl _ (mn_mem (by intro e; rw [e] at h; simp at h))) (mn_le h)
theorem mn_snoc {l : List Int} {x : Int} (h : l ≠ []) : mn (l ++ [x]) = min (mn l) x := by
  symm
  refine mn_eq ?_ ?_
  · rcases Int.le_total (mn l) x with q | q
    · rw [Int.min_eq_left q]; exact List.mem_append_left _ (mn_mem h)
    · rw [Int.min_eq_right q]; simp
  · intro y hy
    rcases List.mem_append.mp hy with e | e
    · exact Int.le_trans (Int.min_le_left _ _) (mn_le e)
    · simp at e; subst e; exact Int.min_le_right _ _
theorem mn_add (c : Int) {l : List Int} (h : l ≠ []) : mn (l.map (· + c)) = mn l + c := by
  symm
  refine mn_eq (List.mem_map.mpr ⟨_, mn_mem h, rfl⟩) ?_
  intro y hy
  obtain ⟨z, hz, rfl⟩ := List.mem_map.mp hy
  have := mn_le hz
  omega
/-- least over a list of lists is least of the leasts -/
theorem mn_le_iff {l : List Int} (h : l ≠ []) {m : Int} : m ≤ mn l ↔ ∀ y ∈ l, m ≤ y :=
  ⟨fun q y hy => Int.le_trans q (mn_le hy), fun q => q _ (mn_mem h)⟩
theorem mn_ext {l l' : List Int} (h : l ≠ []) (h' : l' ≠ []) (q : ∀ m : Int, (∀ y ∈ l, m ≤ y) ↔ (∀ y ∈ l', m ≤ y)) : mn l = mn l' :=
  Int.le_antisymm ((mn_le_iff h').mpr ((q _).mp fun y hy => mn_le hy)) ((mn_le_iff h).mpr ((q _).mpr fun y hy => mn_le hy))

/-! ### work rows -/
abbrev Tab := List (List Int)
def at2 (t : Tab) (s j : Nat) : Int := (t.getD s []).getD j 0
/-- the work behind an ask -/
def led (w : List Int) (t : Tab) : List Int := (List.range w.length).map fun j => mn ((List.range w.length).map fun s => w.getD s 0 + at2 t s j)
def low (w : List Int) : List Int := w.map (· - mn w)
def addv (a b : List Int) : List Int := List.zipWith (· + ·) a b
theorem led_len (w : List Int) (t : Tab) : (led w t).length = w.length := by simp [led]
theorem low_len (w : List Int) : (low w).length = w.length := by simp [low]
theorem led_ne {w : List Int} (h : w ≠ []) (t : Tab) : led w t ≠ [] := by
  intro e
  have := congrArg List.length e
  rw [led_len] at this
  simp at this
  exact h this
theorem led_at (w : List Int) (t : Tab) {j : Nat} (h : j < w.length) : (led w t).getD j 0 = mn ((List.range w.length).map fun s => w.getD s 0 + at2 t s j) := by
  unfold led
  rw [List.getD_eq_getElem?_getD, List.getElem?_map, List.getElem?_range h]
  rfl
theorem map_getD_add (w : List Int) (c : Int) (s : Nat) (h : s < w.length) : (w.map (· + c)).getD s 0 = w.getD s 0 + c := by
  rw [List.getD_eq_getElem?_getD, List.getD_eq_getElem?_getD, List.getElem?_map, List.getElem?_eq_getElem h]
  rfl
theorem range_ne {n : Nat} (h : 0 < n) {α : Type} (f : Nat → α) : (List.range n).map f ≠ [] := by
  intro e
  have := congrArg List.length e
  simp at this
  omega
theorem led_shift (w : List Int) (c : Int) (t : Tab) : led (w.map (· + c)) t = (led w t).map (· + c) := by
  unfold led
  rw [List.length_map, List.map_map]
  refine List.map_congr_left fun j hj => ?_
  have hj' := List.mem_range.mp hj
  show mn _ = mn _ + c
  rw [← mn_add c (range_ne (by omega) _), List.map_map]
  congr 1
  refine List.map_congr_left fun s hs => ?_
  have hs' := List.mem_range.mp hs
  show _ = _ + _ + c
  rw [map_getD_add w c s hs']
  omega
theorem low_eq (w : List Int) : low w = w.map (· + (- mn w)) := by
  unfold low
  refine List.map_congr_left fun x _ => ?_
  omega
/-- the work of the lowered -/
theorem led_low (w : List Int) (t : Tab) : led (low w) t = (led w t).map (· + (- mn w)) := by rw [low_eq, led_shift]
theorem low_shift {w : List Int} (h : w ≠ []) (c : Int) : low (w.map (· + c)) = low w := by
  unfold low
  rw [mn_add c h, List.map_map]
  refine List.map_congr_left fun x _ => ?_
  show x + c - (mn w + c) = x - mn w
  omega
theorem low_led_low {w : List Int} (h : w ≠ []) (t : Tab) : low (led (low w) t) = low (led w t) := by
  rw [led_low, low_shift (led_ne h t)]
def ledR (costs : List Tab) (w : List Int) (ks : List Nat) : List Int := ks.foldl (fun w k => led w (costs.getD k [])) w
theorem ledR_len (costs : List Tab) : ∀ (ks : List Nat) (w : List Int), (ledR costs w ks).length = w.length
  | [], w => rfl
  | k :: ks, w => by
    show (ledR costs (led w (costs.getD k [])) ks).length = _
    rw [ledR_len costs ks, led_len]
theorem ledR_shift (costs : List Tab) (c : Int) : ∀ (ks : List Nat) (w : List Int), ledR costs (w.map (· + c)) ks = (ledR costs w ks).map (· + c)
  | [], w => rfl
  | k :: ks, w => by
    show ledR costs (led (w.map (· + c)) (costs.getD k [])) ks = (ledR costs (led w (costs.getD k [])) ks).map (· + c)
    rw [led_shift, ledR_shift costs c ks]
/-- what is paid from a work row on -/
def pay (costs : List Tab) (ends : List Int) (w : List Int) (ks : List Nat) : Int := mn (addv (ledR costs w ks) ends)
theorem addv_shift (c : Int) : ∀ (a b : List Int), addv (a.map (· + c)) b = (addv a b).map (· + c)
  | [], _ => rfl
  | _ :: _, [] => rfl
  | x :: a, y :: b => by
    show (x + c + y) :: addv (a.map (· + c)) b = (x + y + c) :: (addv a b).map (· + c)
    rw [addv_shift c a b]
    congr 1
    omega
theorem addv_len (a b : List Int) (h : a.length = b.length) : (addv a b).length = a.length := by simp [addv, h]
theorem ne_of_len {α β : Type} {a : List α} {b : List β} (h : a.length = b.length) (hb : b ≠ []) : a ≠ [] := by
  intro e; subst e; exact hb (List.length_eq_zero_iff.mp h.symm)
theorem pay_shift (costs : List Tab) (ends : List Int) (c : Int) {w : List Int} (h : w ≠ []) (he : w.length = ends.length) (ks : List Nat) : pay costs ends (w.map (· + c)) ks = pay costs ends w ks + c := by
  unfold pay
  rw [ledR_shift, addv_shift, mn_add]
  refine ne_of_len (b := w) ?_ h
  rw [addv_len, ledR_len]
  rw [ledR_len, he]
theorem pay_cons (costs : List Tab) (ends w : List Int) (k : Nat) (ks : List Nat) : pay costs ends w (k :: ks) = pay costs ends (led w (costs.getD k [])) ks := rfl
theorem pay_low (costs : List Tab) (ends : List Int) {w : List Int} (h : w ≠ []) (he : w.length = ends.length) (ks : List Nat) : pay costs ends (low w) ks = pay costs ends w ks - mn w := by
  rw [low_eq, pay_shift costs ends _ h he]
  omega

/-! ### rows put for asks -/
def joined (a b : Tab) : Tab := a.map fun line => led line b
def rowTab (costs : List Tab) : List Nat → Tab
  | [] => []
  | k :: ks => ks.foldl (fun t k => joined t (costs.getD k [])) (costs.getD k [])
def Sq (n : Nat) (t : Tab) : Prop := t.length = n ∧ ∀ l ∈ t, l.length = n
theorem joined_sq {n : Nat} {a b : Tab} (h : Sq n a) : Sq n (joined a b) := by
  refine ⟨by simp [joined, h.1], fun l hl => ?_⟩
  obtain ⟨x, hx, rfl⟩ := List.mem_map.mp hl
  rw [led_len]; exact h.2 x hx
theorem at2_joined {n : Nat} {a b : Tab} (h : Sq n a) {s j : Nat} (hs : s < n) (hj : j < n) : at2 (joined a b) s j = mn ((List.range n).map fun u => at2 a s u + at2 b u j) := by
  have h1 : s < a.length := by rw [h.1]; exact hs
  have e : (joined a b).getD s [] = led (a.getD s []) b := by
    unfold joined
    rw [List.getD_eq_getElem?_getD, List.getD_eq_getElem?_getD, List.getElem?_map, List.getElem?_eq_getElem h1]
    rfl
  have hl : (a.getD s []).length = n := by
    rw [List.getD_eq_getElem?_getD, List.getElem?_eq_getElem h1]
    exact h.2 _ (List.getElem_mem h1)
  unfold at2
  rw [e, led_at _ _ (by rw [hl]; exact hj), hl]
  rfl
/-- the work behind two asks is the work behind their joined table -/
theorem led_led {n : Nat} {w : List Int} {a b : Tab} (hw : w.length = n) (h : Sq n a) : led (led w a) b = led w (joined a b) := by
  have e1 : led (led w a) b = (List.range n).map fun j => mn ((List.range n).map fun s => (led w a).getD s 0 + at2 b s j) := by
    show (List.range (led w a).length).map (fun j => mn ((List.range (led w a).length).map fun s => (led w a).getD s 0 + at2 b s j)) = _
    rw [led_len, hw]
  have e2 : led w (joined a b) = (List.range n).map fun j => mn ((List.range n).map fun s => w.getD s 0 + at2 (joined a b) s j) := by
    show (List.range w.length).map (fun j => mn ((List.range w.length).map fun s => w.getD s 0 + at2 (joined a b) s j)) = _
    rw [hw]
  rw [e1, e2]
  refine List.map_congr_left fun j hj => ?_
  have hj' := List.mem_range.mp hj
  have hn : 0 < n := by omega
  refine mn_ext (range_ne hn _) (range_ne hn _) fun m => ?_
  constructor
  · intro q y hy
    obtain ⟨s, hs, rfl⟩ := List.mem_map.mp hy
    have hs' := List.mem_range.mp hs
    rw [at2_joined h hs' hj']
    have : m - w.getD s 0 ≤ mn ((List.range n).map fun u => at2 a s u + at2 b u j) := by
      refine (mn_le_iff (range_ne hn _)).mpr fun y hy => ?_
      obtain ⟨u, hu, rfl⟩ := List.mem_map.mp hy
      have hu' := List.mem_range.mp hu
      have := q _ (List.mem_map.mpr ⟨u, hu, rfl⟩)
      rw [led_at _ _ (by rw [hw]; exact hu'), hw] at this
      have h2 : mn ((List.range n).map fun s => w.getD s 0 + at2 a s u) ≤ w.getD s 0 + at2 a s u := mn_le (List.mem_map.mpr ⟨s, hs, rfl⟩)
      omega
    omega
  · intro q y hy
    obtain ⟨u, hu, rfl⟩ := List.mem_map.mp hy
    have hu' := List.mem_range.mp hu
    rw [led_at _ _ (by rw [hw]; exact hu'), hw]
    have : m - at2 b u j ≤ mn ((List.range n).map fun s => w.getD s 0 + at2 a s u) := by
      refine (mn_le_iff (range_ne hn _)).mpr fun y hy => ?_
      obtain ⟨s, hs, rfl⟩ := List.mem_map.mp hy
      have hs' := List.mem_range.mp hs
      have := q _ (List.mem_map.mpr ⟨s, hs, rfl⟩)
      rw [at2_joined h hs' hj'] at this
      have h2 : mn ((List.range n).map fun u => at2 a s u + at2 b u j) ≤ at2 a s u + at2 b u j := mn_le (List.mem_map.mpr ⟨u, hu, rfl⟩)
      omega
    omega
theorem ledR_joinfold {n : Nat} (costs : List Tab) {w : List Int} (hw : w.length = n) : ∀ (ks : List Nat) (t : Tab), Sq n t → led w (ks.foldl (fun t k => joined t (costs.getD k [])) t) = ledR costs (led w t) ks
  | [], t, h => rfl
  | k :: ks, t, h => by
    show led w (ks.foldl (fun t k => joined t (costs.getD k [])) (joined t (costs.getD k []))) = ledR costs (led (led w t) (costs.getD k [])) ks
    rw [ledR_joinfold costs hw ks _ (joined_sq h), led_led hw h]
theorem rowTab_sq {n : Nat} {costs : List Tab} (hc : ∀ t ∈ costs, Sq n t) : ∀ {ks : List Nat}, ks ≠ [] → (∀ k ∈ ks, k < costs.length) → Sq n (rowTab costs ks)
  | [], h, _ => (h rfl).elim
  | k :: ks, _, hk => by
    have h0 : Sq n (costs.getD k []) := by
      have := hk k (by simp)
      rw [List.getD_eq_getElem?_getD, List.getElem?_eq_getElem this]
      exact hc _ (List.getElem_mem this)
    have : ∀ (ks : List Nat) (t : Tab), Sq n t → Sq n (ks.foldl (fun t k => joined t (costs.getD k [])) t) := by
      intro ks
      induction ks with
      | nil => intro t h; exact h
      | cons k ks ih => intro t h; exact ih _ (joined_sq h)
    exact this ks _ h0
theorem led_rowTab {n : Nat} {costs : List Tab} (hc : ∀ t ∈ costs, Sq n t) {w : List Int} (hw : w.length = n) {ks : List Nat} (h : ks ≠ []) (hk : ∀ k ∈ ks, k < costs.length) : led w (rowTab costs ks) = ledR costs w ks := by
  cases ks with
  | nil => exact (h rfl).elim
  | cons k ks =>
    have h0 : Sq n (costs.getD k []) := by
      have := hk k (by simp)
      rw [List.getD_eq_getElem?_getD, List.getElem?_eq_getElem this]
      exact hc _ (List.getElem_mem this)
    exact ledR_joinfold costs hw ks _ h0
theorem ledR_append (costs : List Tab) (w : List Int) (a b : List Nat) : ledR costs w (a ++ b) = ledR costs (ledR costs w a) b := by
  unfold ledR; rw [List.foldl_append]
/-- with rows put for the asks -/
theorem ledR_put {n : Nat} {costs : List Tab} (hc : ∀ t ∈ costs, Sq n t) {rows : List (List Nat)} (hr : ∀ r ∈ rows, r ≠ [] ∧ ∀ k ∈ r, k < costs.length) :
    ∀ (xs : List Nat) (w : List Int), w.length = n → (∀ x ∈ xs, x < rows.length) → ledR (rows.map (rowTab costs)) w xs = ledR costs w (xs.flatMap fun x => rows.getD x [])
  | [], w, hw, _ => rfl
  | x :: xs, w, hw, hx => by
    have hx0 := hx x (by simp)
    have e : (rows.map (rowTab costs)).getD x [] = rowTab costs (rows.getD x []) := by
      rw [List.getD_eq_getElem?_getD, List.getD_eq_getElem?_getD, List.getElem?_map, List.getElem?_eq_getElem hx0]; rfl
    have hr0 : rows.getD x [] ≠ [] ∧ ∀ k ∈ rows.getD x [], k < costs.length := by
      rw [List.getD_eq_getElem?_getD, List.getElem?_eq_getElem hx0]; exact hr _ (List.getElem_mem hx0)
    show ledR (rows.map (rowTab costs)) (led w ((rows.map (rowTab costs)).getD x [])) xs = _
    rw [List.flatMap_cons, ledR_append, e, led_rowTab hc hw hr0.1 hr0.2, ledR_put hc hr xs _ (by rw [ledR_len]; exact hw) fun y hy => hx y (by simp [hy])]
end AW
namespace AW
/-! ### machines -/
abbrev Steps := List (List (Nat × Int))
def nx (st : Steps) (i k : Nat) : Nat := ((st.getD i []).getD k (0, 0)).1
def ad (st : Steps) (i k : Nat) : Int := ((st.getD i []).getD k (0, 0)).2
def goK (st : Steps) (i : Nat) (ks : List Nat) : Nat := ks.foldl (fun i k => nx st i k) i
def gain (st : Steps) : Nat → List Nat → Int
  | _, [] => 0
  | i, k :: ks => ad st i k + gain st (nx st i k) ks
theorem goK_cons (st : Steps) (i k : Nat) (ks : List Nat) : goK st i (k :: ks) = goK st (nx st i k) ks := rfl
theorem goK_append (st : Steps) (i : Nat) (a b : List Nat) : goK st i (a ++ b) = goK st (goK st i a) b := by unfold goK; rw [List.foldl_append]
theorem gain_append (st : Steps) : ∀ (a b : List Nat) (i : Nat), gain st i (a ++ b) = gain st i a + gain st (goK st i a) b
  | [], b, i => by show gain st i b = 0 + gain st i b; omega
  | k :: a, b, i => by
    show ad st i k + gain st (nx st i k) (a ++ b) = ad st i k + gain st (nx st i k) a + gain st (goK st (nx st i k) a) b
    rw [gain_append st a b]; omega
/-- each item has a step for each ask, to a kind that there is -/
def Valid (A : Nat) (st : Steps) : Prop := ∀ i, i < st.length → (st.getD i []).length = A ∧ ∀ k, k < A → nx st i k < st.length
theorem goK_lt {A : Nat} {st : Steps} (v : Valid A st) : ∀ (ks : List Nat) (i : Nat), i < st.length → (∀ k ∈ ks, k < A) → goK st i ks < st.length
  | [], i, h, _ => h
  | k :: ks, i, h, hk => goK_lt v ks _ ((v i h).2 k (hk k (by simp))) fun j hj => hk j (by simp [hj])

/-! ### behaviours -/
abbrev Beh (A : Nat) := List (Fin A) → Int
def vals {A : Nat} (x : List (Fin A)) : List Nat := x.map Fin.val
theorem vals_lt {A : Nat} (x : List (Fin A)) : ∀ k ∈ vals x, k < A := fun k hk => by
  obtain ⟨a, _, rfl⟩ := List.mem_map.mp hk
  exact a.2
theorem vals_append {A : Nat} (x y : List (Fin A)) : vals (x ++ y) = vals x ++ vals y := by simp [vals]
def der {A : Nat} (b : Beh A) (k : Fin A) : Beh A := fun x => b (k :: x) - b [k]
def beh (A : Nat) (st : Steps) (i : Nat) : Beh A := fun x => gain st i (vals x)
theorem beh_nil {A : Nat} {st : Steps} {i : Nat} : beh A st i [] = 0 := rfl
theorem beh_one {A : Nat} {st : Steps} {i : Nat} {k : Fin A} : beh A st i [k] = ad st i k.val := by
  show ad st i k.val + 0 = _
  omega
theorem der_beh {A : Nat} {st : Steps} {i : Nat} {k : Fin A} : der (beh A st i) k = beh A st (nx st i k.val) := by
  funext x
  show ad st i k.val + gain st (nx st i k.val) (vals x) - (ad st i k.val + 0) = gain st (nx st i k.val) (vals x)
  omega
def ders {A : Nat} (b : Beh A) (x : List (Fin A)) : Beh A := x.foldl der b
theorem ders_at {A : Nat} : ∀ (x y : List (Fin A)) (b : Beh A), b [] = 0 → ders b x y = b (x ++ y) - b x
  | [], y, b, h => by show b y = b y - b []; rw [h]; omega
  | k :: x, y, b, h => by
    show ders (der b k) x y = _
    rw [ders_at x y (der b k) (by show b [k] - b [k] = 0; omega)]
    show (b (k :: (x ++ y)) - b [k]) - (b (k :: x) - b [k]) = _
    show _ = b (k :: (x ++ y)) - b (k :: x)
    omega
theorem ders_beh {A : Nat} {st : Steps} : ∀ (x : List (Fin A)) (i : Nat), ders (beh A st i) x = beh A st (goK st i (vals x))
  | [], i => rfl
  | k :: x, i => by
    show ders (der (beh A st i) k) x = _
    rw [der_beh, ders_beh x]
    rfl

/-! ### the least machine, by a search through behaviours -/
open Classical in
noncomputable def idx {A : Nat} (b : Beh A) (l : List (Beh A)) : Nat := l.findIdx fun c => decide (c = b)
theorem idx_lt {A : Nat} {b : Beh A} {l : List (Beh A)} (h : b ∈ l) : idx b l < l.length := by
  unfold idx
  exact List.findIdx_lt_length_of_exists ⟨b, h, by simp⟩
open Classical in
theorem idx_at {A : Nat} {b : Beh A} {l : List (Beh A)} (h : b ∈ l) : l[idx b l]? = some b := by
  have q := idx_lt h
  rw [List.getElem?_eq_getElem q]
  unfold idx at q ⊢
  have := List.findIdx_getElem (w := q)
  rw [decide_eq_true_iff] at this
  rw [this]
theorem idx_append {A : Nat} {b : Beh A} {l m : List (Beh A)} (h : b ∈ l) : idx b (l ++ m) = idx b l := by
  have q := idx_lt h
  unfold idx at q ⊢
  rw [List.findIdx_append, if_pos q]
structure Bf (A : Nat) where
  line : List (Beh A)
  rows : List (List (Fin A))
  items : Steps
/-- within an item: the line, the rows, the item so far -/
structure Bi (A : Nat) where
  line : List (Beh A)
  rows : List (List (Fin A))
  item : List (Nat × Int)
open Classical in
noncomputable def vis {A : Nat} (b : Beh A) (r : List (Fin A)) (s : Bi A) (k : Fin A) : Bi A :=
  if der b k ∈ s.line then ⟨s.line, s.rows, s.item ++ [(idx (der b k) s.line, b [k])]⟩
  else ⟨s.line ++ [der b k], s.rows ++ [r ++ [k]], s.item ++ [(s.line.length, b [k])]⟩
noncomputable def inn {A : Nat} (b : Beh A) (r : List (Fin A)) (line : List (Beh A)) (rows : List (List (Fin A))) : Nat → Bi A
  | 0 => ⟨line, rows, []⟩
  | j + 1 => if h : j < A then vis b r (inn b r line rows j) ⟨j, h⟩ else inn b r line rows j
noncomputable def bfs {A : Nat} (b0 : Beh A) : Nat → Bf A
  | 0 => ⟨[b0], [[]], []⟩
  | p + 1 => if p < (bfs b0 p).line.length then
      ⟨(inn ((bfs b0 p).line.getD p b0) ((bfs b0 p).rows.getD p []) (bfs b0 p).line (bfs b0 p).rows A).line,
       (inn ((bfs b0 p).line.getD p b0) ((bfs b0 p).rows.getD p []) (bfs b0 p).line (bfs b0 p).rows A).rows,
       (bfs b0 p).items ++ [(inn ((bfs b0 p).line.getD p b0) ((bfs b0 p).rows.getD p []) (bfs b0 p).line (bfs b0 p).rows A).item]⟩
    else bfs b0 p
/-- the item at p, from its beginning -/
noncomputable def innAt {A : Nat} (b0 : Beh A) (p j : Nat) : Bi A := inn ((bfs b0 p).line.getD p b0) ((bfs b0 p).rows.getD p []) (bfs b0 p).line (bfs b0 p).rows j
theorem bfs_succ {A : Nat} {b0 : Beh A} {p : Nat} (h : p < (bfs b0 p).line.length) : bfs b0 (p + 1) = ⟨(innAt b0 p A).line, (innAt b0 p A).rows, (bfs b0 p).items ++ [(innAt b0 p A).item]⟩ := by
  show (if _ then _ else _) = _
  rw [if_pos h]
  rfl
theorem innAt_zero {A : Nat} {b0 : Beh A} {p : Nat} : innAt b0 p 0 = ⟨(bfs b0 p).line, (bfs b0 p).rows, []⟩ := rfl
theorem innAt_succ {A : Nat} {b0 : Beh A} {p j : Nat} (h : j < A) : innAt b0 p (j + 1) = vis ((bfs b0 p).line.getD p b0) ((bfs b0 p).rows.getD p []) (innAt b0 p j) ⟨j, h⟩ := by
  show (if h : j < A then _ else _) = _
  rw [dif_pos h]
  rfl
/-- done: each behaviour of the line has its item -/
def Done {A : Nat} (b0 : Beh A) (p : Nat) : Prop := (bfs b0 p).line.length = p
theorem done_stay {A : Nat} {b0 : Beh A} {p : Nat} (h : Done b0 p) : ∀ q, bfs b0 (p + q) = bfs b0 p
  | 0 => rfl
  | q + 1 => by
    have ih := done_stay h q
    have e : bfs b0 (p + q + 1) = bfs b0 (p + q) := if_neg (by rw [ih, show (bfs b0 p).line.length = p from h]; omega)
    exact e.trans ih
theorem done_unique {A : Nat} {b0 : Beh A} {p q : Nat} (h : Done b0 p) (h' : Done b0 q) : p = q := by
  rcases Nat.le_total p q with l | l
  · have e := done_stay h (q - p)
    rw [Nat.add_sub_cancel' l] at e
    have h2 : (bfs b0 q).line.length = q := h'
    rw [e] at h2
    exact (show (bfs b0 p).line.length = p from h).symm.trans h2
  · have e := done_stay h' (p - q)
    rw [Nat.add_sub_cancel' l] at e
    have h2 : (bfs b0 p).line.length = p := h
    rw [e] at h2
    exact h2.symm.trans (show (bfs b0 q).line.length = q from h')
/-- what holds of a step -/
theorem vis_cases {A : Nat} (b : Beh A) (r : List (Fin A)) (s : Bi A) (k : Fin A) :
    (der b k ∈ s.line ∧ vis b r s k = ⟨s.line, s.rows, s.item ++ [(idx (der b k) s.line, b [k])]⟩) ∨
    (der b k ∉ s.line ∧ vis b r s k = ⟨s.line ++ [der b k], s.rows ++ [r ++ [k]], s.item ++ [(s.line.length, b [k])]⟩) := by
  classical
  by_cases h : der b k ∈ s.line
  · exact .inl ⟨h, by unfold vis; rw [if_pos h]⟩
  · exact .inr ⟨h, by unfold vis; rw [if_neg h]⟩
structure BiOk {A : Nat} (b : Beh A) (line0 : List (Beh A)) (s : Bi A) (j : Nat) : Prop where
  ext : ∃ m, s.line = line0 ++ m
  nd : s.line.Nodup
  len : s.rows.length = s.line.length
  ilen : s.item.length = j
  it : ∀ (k : Nat) (hk : k < A), k < j → ∃ q, s.item[k]? = some (q, b [⟨k, hk⟩]) ∧ q < s.line.length ∧ s.line[q]? = some (der b ⟨k, hk⟩)
theorem vis_ok {A : Nat} {b : Beh A} {r : List (Fin A)} {line0 : List (Beh A)} {s : Bi A} {j : Nat} (hj : j < A) (h : BiOk b line0 s j) : BiOk b line0 (vis b r s ⟨j, hj⟩) (j + 1) := by
  obtain ⟨⟨m, hm⟩, nd, len, il, it⟩ := h
  rcases vis_cases b r s ⟨j, hj⟩ with ⟨hin, e⟩ | ⟨hin, e⟩
  · rw [e]
    refine ⟨⟨m, hm⟩, nd, len, by simp [il], fun k hk hkj => ?_⟩
    by_cases hlt : k < j
    · obtain ⟨q, h1, h2, h3⟩ := it k hk hlt
      exact ⟨q, by show (s.item ++ _)[k]? = _; rw [List.getElem?_append_left (by omega)]; exact h1, h2, h3⟩
    · have : k = j := by omega
      subst this
      exact ⟨_, by show (s.item ++ _)[k]? = _; rw [List.getElem?_append_right (by omega), il]; simp, idx_lt hin, idx_at hin⟩
  · rw [e]
    refine ⟨⟨m ++ [der b ⟨j, hj⟩], by show s.line ++ _ = _; rw [hm, List.append_assoc]⟩, ?_, by simp [len], by simp [il], fun k hk hkj => ?_⟩
    · show (s.line ++ _).Nodup
      rw [List.nodup_append]
      refine ⟨nd, by simp, fun a ha c hc => ?_⟩
      simp at hc
      subst hc
      exact fun q => hin (q ▸ ha)
    · by_cases hlt : k < j
      · obtain ⟨q, h1, h2, h3⟩ := it k hk hlt
        refine ⟨q, ?_, ?_, ?_⟩
        · show (s.item ++ _)[k]? = _
          rw [List.getElem?_append_left (by omega)]; exact h1
        · show q < (s.line ++ _).length
          rw [List.length_append]; omega
        · show (s.line ++ _)[q]? = _
          rw [List.getElem?_append_left h2]; exact h3
      · have : k = j := by omega
        subst this
        refine ⟨s.line.length, ?_, ?_, ?_⟩
        · show (s.item ++ _)[k]? = _
          rw [List.getElem?_append_right (by omega), il]; simp
        · show _ < (s.line ++ _).length
          simp
        · show (s.line ++ _)[s.line.length]? = _
          rw [List.getElem?_append_right (Nat.le_refl _)]; simp
structure BfOk {A : Nat} (b0 : Beh A) (s : Bf A) (p : Nat) : Prop where
  zero : s.line[0]? = some b0
  nd : s.line.Nodup
  len : s.rows.length = s.line.length
  ilen : s.items.length = p
  ple : p ≤ s.line.length
  it : ∀ q, q < p → ∃ b, s.line[q]? = some b ∧ (s.items.getD q []).length = A ∧ ∀ (k : Nat) (hk : k < A), ∃ j, (s.items.getD q [])[k]? = some (j, b [⟨k, hk⟩]) ∧ j < s.line.length ∧ s.line[j]? = some (der b ⟨k, hk⟩)
theorem bi_zero {A : Nat} {b : Beh A} {line : List (Beh A)} {rows : List (List (Fin A))} (nd : line.Nodup) (len : rows.length = line.length) : BiOk b line (⟨line, rows, []⟩ : Bi A) 0 :=
  ⟨⟨[], by simp⟩, nd, len, rfl, fun k hk h => absurd h (Nat.not_lt_zero _)⟩
theorem innAt_ok {A : Nat} {b0 : Beh A} {p : Nat} (h : BfOk b0 (bfs b0 p) p) : ∀ j, j ≤ A → BiOk ((bfs b0 p).line.getD p b0) (bfs b0 p).line (innAt b0 p j) j
  | 0, _ => bi_zero h.nd h.len
  | j + 1, hj => by rw [innAt_succ (by omega)]; exact vis_ok (by omega) (innAt_ok h j (by omega))
theorem bfs_ok {A : Nat} {b0 : Beh A} : ∀ p, (∀ q, q < p → q < (bfs b0 q).line.length) → BfOk b0 (bfs b0 p) p
  | 0, _ => ⟨rfl, by simp [bfs], rfl, rfl, Nat.zero_le _, fun q h => absurd h (Nat.not_lt_zero _)⟩
  | p + 1, hr => by
    have ih := bfs_ok p fun q hq => hr q (by omega)
    have hp := hr p (by omega)
    have I := innAt_ok ih A (Nat.le_refl _)
    rw [bfs_succ hp]
    obtain ⟨⟨m, hm⟩, nd, len, il, it⟩ := I
    have hb : (bfs b0 p).line[p]? = some ((bfs b0 p).line.getD p b0) := by
      rw [List.getD_eq_getElem?_getD, List.getElem?_eq_getElem hp]; rfl
    refine ⟨?_, nd, len, by simp [ih.ilen], ?_, fun q hq => ?_⟩
    · show (innAt b0 p A).line[0]? = _
      rw [hm, List.getElem?_append_left (by omega)]; exact ih.zero
    · show p + 1 ≤ (innAt b0 p A).line.length
      rw [hm, List.length_append]; omega
    · by_cases hlt : q < p
      · obtain ⟨b, h1, h2, h3⟩ := ih.it q hlt
        have hq2 : q < (bfs b0 p).line.length := by omega
        have e : ((bfs b0 p).items ++ [(innAt b0 p A).item]).getD q [] = (bfs b0 p).items.getD q [] := by
          rw [List.getD_eq_getElem?_getD, List.getD_eq_getElem?_getD, List.getElem?_append_left (by rw [ih.ilen]; exact hlt)]
        refine ⟨b, ?_, by rw [e]; exact h2, fun k hk => ?_⟩
        · show (innAt b0 p A).line[q]? = _
          rw [hm, List.getElem?_append_left hq2]; exact h1
        · obtain ⟨j, h4, h5, h6⟩ := h3 k hk
          refine ⟨j, by rw [e]; exact h4, ?_, ?_⟩
          · show j < (innAt b0 p A).line.length
            rw [hm, List.length_append]; omega
          · show (innAt b0 p A).line[j]? = _
            rw [hm, List.getElem?_append_left h5]; exact h6
      · have : q = p := by omega
        subst this
        have e : ((bfs b0 q).items ++ [(innAt b0 q A).item]).getD q [] = (innAt b0 q A).item := by
          rw [List.getD_eq_getElem?_getD, List.getElem?_append_right (by rw [ih.ilen]; exact Nat.le_refl _), ih.ilen]
          simp
        refine ⟨(bfs b0 q).line.getD q b0, ?_, by rw [e]; exact il, fun k hk => ?_⟩
        · show (innAt b0 q A).line[q]? = _
          rw [hm, List.getElem?_append_left hp]; exact hb
        · obtain ⟨j, h4, h5, h6⟩ := it k hk hk
          exact ⟨j, by rw [e]; exact h4, h5, h6⟩
/-- what all behaviours of the line have -/
theorem inn_all {A : Nat} {b0 : Beh A} {p : Nat} {F : Beh A → Prop} (hd : ∀ b k, F b → F (der b k)) (h0 : ∀ b ∈ (bfs b0 p).line, F b) (hb : F ((bfs b0 p).line.getD p b0)) : ∀ j, j ≤ A → ∀ b ∈ (innAt b0 p j).line, F b
  | 0, _ => h0
  | j + 1, hj => by
    rw [innAt_succ (by omega)]
    have ih := inn_all hd h0 hb j (by omega)
    rcases vis_cases ((bfs b0 p).line.getD p b0) ((bfs b0 p).rows.getD p []) (innAt b0 p j) ⟨j, by omega⟩ with ⟨_, e⟩ | ⟨_, e⟩
    · rw [e]; exact ih
    · rw [e]
      intro b hbm
      rcases List.mem_append.mp hbm with q | q
      · exact ih b q
      · simp at q; subst q; exact hd _ _ hb
theorem bfs_all {A : Nat} {b0 : Beh A} {F : Beh A → Prop} (hd : ∀ b k, F b → F (der b k)) (h0 : F b0) : ∀ p, ∀ b ∈ (bfs b0 p).line, F b
  | 0, b, hb => by simp [bfs] at hb; subst hb; exact h0
  | p + 1, b, hb => by
    have ih := bfs_all hd h0 p
    by_cases hp : p < (bfs b0 p).line.length
    · rw [bfs_succ hp] at hb
      refine inn_all hd ih ?_ A (Nat.le_refl _) b hb
      rw [List.getD_eq_getElem?_getD, List.getElem?_eq_getElem hp]
      exact ih _ (List.getElem_mem hp)
    · rw [show bfs b0 (p + 1) = bfs b0 p from if_neg hp] at hb
      exact ih b hb
theorem zero_der {A : Nat} (b : Beh A) (k : Fin A) : der b k [] = 0 := by show b [k] - b [k] = 0; omega
/-- the done machine behaves so -/
theorem beh_items {A : Nat} {b0 : Beh A} {p : Nat} (h : BfOk b0 (bfs b0 p) p) (d : Done b0 p) (hz : b0 [] = 0) : ∀ (x : List (Fin A)) (q : Nat) (b : Beh A), (bfs b0 p).line[q]? = some b → gain (bfs b0 p).items q (vals x) = b x := by
  have hz' : ∀ b ∈ (bfs b0 p).line, b [] = 0 := bfs_all (F := fun b => b [] = 0) (fun b k _ => zero_der b k) hz p
  intro x
  induction x with
  | nil => intro q b hb; exact (hz' b (List.mem_of_getElem? hb)).symm
  | cons k x ih =>
    intro q b hb
    have hq : q < p := by
      have := (List.getElem?_eq_some_iff.mp hb).1
      rw [show (bfs b0 p).line.length = p from d] at this; exact this
    obtain ⟨b', h1, h2, h3⟩ := h.it q hq
    rw [hb] at h1
    cases h1
    obtain ⟨j, h4, h5, h6⟩ := h3 k.val k.2
    have e : ((bfs b0 p).items.getD q []).getD k.val (0, 0) = (j, b [k]) := by rw [List.getD_eq_getElem?_getD, h4]; rfl
    show ad _ q k.val + gain _ (nx _ q k.val) (vals x) = b (k :: x)
    unfold ad nx
    rw [e, ih j (der b k) h6]
    show b [k] + (b (k :: x) - b [k]) = b (k :: x)
    omega
theorem items_valid {A : Nat} {b0 : Beh A} {p : Nat} (h : BfOk b0 (bfs b0 p) p) (d : Done b0 p) : Valid A (bfs b0 p).items := by
  intro i hi
  rw [h.ilen] at hi
  obtain ⟨b, h1, h2, h3⟩ := h.it i hi
  refine ⟨h2, fun k hk => ?_⟩
  obtain ⟨j, h4, h5, h6⟩ := h3 k hk
  unfold nx
  rw [List.getD_eq_getElem?_getD (l := (bfs b0 p).items.getD i []), h4, h.ilen]
  have : (bfs b0 p).line.length = p := d
  show j < p
  omega
theorem beh_items' {A : Nat} {b0 : Beh A} {p : Nat} (h : BfOk b0 (bfs b0 p) p) (d : Done b0 p) (hz : b0 [] = 0) {q : Nat} {b : Beh A} (hb : (bfs b0 p).line[q]? = some b) : beh A (bfs b0 p).items q = b :=
  funext fun x => beh_items h d hz x q b hb
/-- the machine of the standings tells what is paid -/
structure StOk (A n : Nat) (costs : List Tab) (begins : List Int) (lots : List (List Int)) (steps : Steps) : Prop where
  zero : lots[0]? = some (low begins)
  len : steps.length = lots.length
  all : ∀ l ∈ lots, l.length = n
  it : ∀ i, i < lots.length → (steps.getD i []).length = A ∧ ∀ k, k < A → nx steps i k < lots.length ∧ lots[nx steps i k]? = some (low (led (lots.getD i []) (costs.getD k []))) ∧ ad steps i k = mn (led (lots.getD i []) (costs.getD k []))
def close (ends : List Int) (l : List Int) : Int := mn (addv l ends)
def closed (ends : List Int) (lots : List (List Int)) (steps : Steps) : Steps :=
  (List.range steps.length).map fun i => (steps.getD i []).map fun s => (s.1, s.2 + close ends (lots.getD s.1 []) - close ends (lots.getD i []))
theorem closed_len {ends : List Int} {lots : List (List Int)} {steps : Steps} : (closed ends lots steps).length = steps.length := by simp [closed]
theorem closed_at {ends : List Int} {lots : List (List Int)} {steps : Steps} {i : Nat} (hi : i < steps.length) : (closed ends lots steps).getD i [] = (steps.getD i []).map fun s => (s.1, s.2 + close ends (lots.getD s.1 []) - close ends (lots.getD i [])) := by
  unfold closed
  rw [List.getD_eq_getElem?_getD, List.getElem?_map, List.getElem?_range hi]
  rfl
theorem closed_step {ends : List Int} {lots : List (List Int)} {steps : Steps} {i k : Nat} (hi : i < steps.length) (hk : k < (steps.getD i []).length) :
    nx (closed ends lots steps) i k = nx steps i k ∧ ad (closed ends lots steps) i k = ad steps i k + close ends (lots.getD (nx steps i k) []) - close ends (lots.getD i []) := by
  unfold nx ad
  rw [closed_at hi]
  have e : ((steps.getD i []).map fun s => (s.1, s.2 + close ends (lots.getD s.1 []) - close ends (lots.getD i []))).getD k (0, 0) =
      (((steps.getD i []).getD k (0, 0)).1, ((steps.getD i []).getD k (0, 0)).2 + close ends (lots.getD ((steps.getD i []).getD k (0, 0)).1 []) - close ends (lots.getD i [])) := by
    rw [List.getD_eq_getElem?_getD, List.getElem?_map, List.getD_eq_getElem?_getD (l := steps.getD i []), List.getElem?_eq_getElem hk]
    rfl
  rw [e]
  exact ⟨rfl, rfl⟩
theorem closed_valid {A n : Nat} {costs : List Tab} {begins ends : List Int} {lots : List (List Int)} {steps : Steps} (h : StOk A n costs begins lots steps) : Valid A (closed ends lots steps) := by
  intro i hi
  rw [closed_len] at hi
  obtain ⟨h1, h2⟩ := h.it i (by rw [← h.len]; exact hi)
  refine ⟨by rw [closed_at hi, List.length_map]; exact h1, fun k hk => ?_⟩
  rw [(closed_step hi (by rw [h1]; exact hk)).1, closed_len, h.len]
  exact (h2 k hk).1
theorem closed_gain {A n : Nat} {costs : List Tab} {begins ends : List Int} {lots : List (List Int)} {steps : Steps} (h : StOk A n costs begins lots steps) (hn : 0 < n) (he : ends.length = n) :
    ∀ (ks : List Nat) (i : Nat), i < lots.length → (∀ k ∈ ks, k < A) → gain (closed ends lots steps) i ks = pay costs ends (lots.getD i []) ks - pay costs ends (lots.getD i []) []
  | [], i, _, _ => by show (0 : Int) = _; omega
  | k :: ks, i, hi, hk => by
    have hi' : i < steps.length := by rw [h.len]; exact hi
    obtain ⟨h1, h2⟩ := h.it i hi
    have hkA := hk k (by simp)
    obtain ⟨h3, h4, h5⟩ := h2 k hkA
    obtain ⟨e1, e2⟩ := closed_step (ends := ends) (lots := lots) hi' (k := k) (by rw [h1]; exact hkA)
    have hli : (lots.getD i []).length = n := by
      rw [List.getD_eq_getElem?_getD, List.getElem?_eq_getElem hi]; exact h.all _ (List.getElem_mem hi)
    have hl : lots.getD (nx steps i k) [] = low (led (lots.getD i []) (costs.getD k [])) := by rw [List.getD_eq_getElem?_getD, h4]; rfl
    have hne : led (lots.getD i []) (costs.getD k []) ≠ [] := by
      intro e
      have := congrArg List.length e
      rw [led_len, hli] at this
      simp at this; omega
    show ad _ i k + gain _ (nx _ i k) ks = _
    rw [e1, e2, closed_gain h hn he ks _ h3 fun j hj => hk j (by simp [hj]), hl, pay_cons, pay_low _ _ hne (by rw [led_len, hli, he]), h5]
    have h6 : close ends (low (led (lots.getD i []) (costs.getD k []))) = pay costs ends (low (led (lots.getD i []) (costs.getD k []))) [] := rfl
    have h7 : close ends (lots.getD i []) = pay costs ends (lots.getD i []) [] := rfl
    rw [h6, h7]
    omega
end AW
namespace AW
/-! ### lists that hold all numbers -/
theorem len_le {α : Type} [DecidableEq α] : ∀ {l m : List α}, l.Nodup → (∀ x ∈ l, x ∈ m) → l.length ≤ m.length
  | [], m, _, _ => Nat.zero_le _
  | x :: l, m, nd, h => by
    rw [List.nodup_cons] at nd
    have hx := h x (by simp)
    have ih := len_le (l := l) (m := m.erase x) nd.2 fun y hy => by
      have hne : y ≠ x := fun e => nd.1 (e ▸ hy)
      exact (List.mem_erase_of_ne hne).mpr (h y (by simp [hy]))
    rw [List.length_erase_of_mem hx] at ih
    have : 0 < m.length := List.length_pos_of_mem hx
    rw [List.length_cons]
    omega
theorem short_of {α : Type} [DecidableEq α] : ∀ {l : List α}, ¬ l.Nodup → ∃ l' : List α, l'.length + 1 = l.length ∧ ∀ x ∈ l, x ∈ l'
  | [], h => (h List.nodup_nil).elim
  | x :: l, h => by
    by_cases hx : x ∈ l
    · exact ⟨l, rfl, fun y hy => by rcases List.mem_cons.mp hy with e | e; (subst e; exact hx); exact e⟩
    · have : ¬ l.Nodup := fun n => h (List.nodup_cons.mpr ⟨hx, n⟩)
      obtain ⟨l', h1, h2⟩ := short_of this
      exact ⟨x :: l', by simp [h1], fun y hy => by rcases List.mem_cons.mp hy with e | e; (subst e; simp); exact List.mem_cons_of_mem _ (h2 y e)⟩
theorem nodup_of_surj {m : Nat} {l : List Nat} (hl : l.length = m) (h : ∀ v, v < m → v ∈ l) : l.Nodup := by
  by_cases n : l.Nodup
  · exact n
  · obtain ⟨l', h1, h2⟩ := short_of n
    have := len_le (l := List.range m) (m := l') List.nodup_range fun x hx => h2 x (h x (List.mem_range.mp hx))
    rw [List.length_range] at this
    omega
/-- each number below m comes up, and no other -/
def Dense (cl : List Nat) (m : Nat) : Prop := (∀ v ∈ cl, v < m) ∧ ∀ v, v < m → v ∈ cl
theorem dense_le {cl : List Nat} {m : Nat} (h : Dense cl m) : m ≤ cl.length := by
  have := len_le (l := List.range m) (m := cl) List.nodup_range fun x hx => h.2 x (List.mem_range.mp hx)
  rw [List.length_range] at this
  exact this
/-! ### classes by rounds -/
/-- the same gains for all rows of at most t asks -/
def Eq_t (A : Nat) (st : Steps) (t : Nat) (i j : Nat) : Prop := ∀ x : List (Fin A), x.length ≤ t → beh A st i x = beh A st j x
theorem eqt_zero {A : Nat} {st : Steps} {i j : Nat} : Eq_t A st 0 i j := fun x h => by
  have : x = [] := List.length_eq_zero_iff.mp (by omega)
  subst this; rfl
theorem eqt_mono {A : Nat} {st : Steps} {t u i j : Nat} (h : Eq_t A st u i j) (l : t ≤ u) : Eq_t A st t i j := fun x hx => h x (by omega)
theorem eqt_succ {A : Nat} {st : Steps} {t i j : Nat} : Eq_t A st (t + 1) i j ↔ Eq_t A st t i j ∧ ∀ k : Fin A, ad st i k.val = ad st j k.val ∧ Eq_t A st t (nx st i k.val) (nx st j k.val) := by
  constructor
  · intro h
    have one : ∀ k : Fin A, ad st i k.val = ad st j k.val := fun k => by
      have := h [k] (by simp)
      rw [beh_one, beh_one] at this
      exact this
    refine ⟨eqt_mono h (by omega), fun k => ⟨one k, fun x hx => ?_⟩⟩
    have h2 : beh A st i (k :: x) = beh A st j (k :: x) := h (k :: x) (by simp; omega)
    have h3 : ad st i k.val + gain st (nx st i k.val) (vals x) = ad st j k.val + gain st (nx st j k.val) (vals x) := h2
    have h4 := one k
    show gain st (nx st i k.val) (vals x) = gain st (nx st j k.val) (vals x)
    omega
  · rintro ⟨h1, h2⟩ x hx
    cases x with
    | nil => rfl
    | cons k x =>
      have h3 := (h2 k).2 x (by simp at hx; omega)
      have h4 := (h2 k).1
      show ad st i k.val + gain st (nx st i k.val) (vals x) = ad st j k.val + gain st (nx st j k.val) (vals x)
      have h5 : gain st (nx st i k.val) (vals x) = gain st (nx st j k.val) (vals x) := h3
      omega
/-- the classes of the kinds: cl after t rounds -/
structure Part (A : Nat) (st : Steps) (t : Nat) (cl : List Nat) (m : Nat) : Prop where
  len : cl.length = st.length
  iff : ∀ i j, i < st.length → j < st.length → (cl.getD i 0 = cl.getD j 0 ↔ Eq_t A st t i j)
  dense : Dense cl m
/-- what tells a kind's class behind one more round -/
def sgn (A : Nat) (st : Steps) (cl : List Nat) (i : Nat) : Nat × List (Nat × Int) := (cl.getD i 0, (List.range A).map fun k => (cl.getD (nx st i k) 0, ad st i k))
theorem map_range_inj {A : Nat} {β : Type} {f g : Nat → β} : ((List.range A).map f = (List.range A).map g) ↔ ∀ k, k < A → f k = g k := by
  constructor
  · intro h k hk
    have := congrArg (fun l => l[k]?) h
    simpa [hk] using this
  · intro h
    exact List.map_congr_left fun k hk => h k (List.mem_range.mp hk)
theorem part_sgn {A : Nat} {st : Steps} {t m : Nat} {cl : List Nat} (v : Valid A st) (p : Part A st t cl m) {i j : Nat} (hi : i < st.length) (hj : j < st.length) : sgn A st cl i = sgn A st cl j ↔ Eq_t A st (t + 1) i j := by
  rw [eqt_succ]
  unfold sgn
  rw [Prod.mk.injEq, p.iff i j hi hj, map_range_inj]
  constructor
  · rintro ⟨h1, h2⟩
    refine ⟨h1, fun k => ?_⟩
    have := h2 k.val k.2
    rw [Prod.mk.injEq] at this
    exact ⟨this.2, (p.iff _ _ ((v i hi).2 k.val k.2) ((v j hj).2 k.val k.2)).mp this.1⟩
  · rintro ⟨h1, h2⟩
    refine ⟨h1, fun k hk => ?_⟩
    obtain ⟨h3, h4⟩ := h2 ⟨k, hk⟩
    rw [Prod.mk.injEq]
    exact ⟨(p.iff _ _ ((v i hi).2 k hk) ((v j hj).2 k hk)).mpr h4, h3⟩
theorem part_next {A : Nat} {st : Steps} {t m m' : Nat} {cl cl' : List Nat} (v : Valid A st) (p : Part A st t cl m) (hl : cl'.length = st.length)
    (h : ∀ i j, i < st.length → j < st.length → (cl'.getD i 0 = cl'.getD j 0 ↔ sgn A st cl i = sgn A st cl j)) (d : Dense cl' m') : Part A st (t + 1) cl' m' :=
  ⟨hl, fun i j hi hj => (h i j hi hj).trans (part_sgn v p hi hj), d⟩
theorem getD_lt {cl : List Nat} {i : Nat} (h : i < cl.length) : cl[i]? = some (cl.getD i 0) := by
  rw [List.getD_eq_getElem?_getD, List.getElem?_eq_getElem h]; rfl
/-- the old class of a new class -/
theorem part_surj {A : Nat} {st : Steps} {t m m' : Nat} {cl cl' : List Nat} (p : Part A st t cl m) (p' : Part A st (t + 1) cl' m') : ∃ f : Nat → Nat, (∀ i, i < st.length → f (cl'.getD i 0) = cl.getD i 0) ∧ (∀ v, v < m → ∃ u, u < m' ∧ f u = v) := by
  classical
  let f : Nat → Nat := fun u => if h : ∃ i, i < st.length ∧ cl'.getD i 0 = u then cl.getD h.choose 0 else 0
  have hf : ∀ i, i < st.length → f (cl'.getD i 0) = cl.getD i 0 := fun i hi => by
    have hex : ∃ j, j < st.length ∧ cl'.getD j 0 = cl'.getD i 0 := ⟨i, hi, rfl⟩
    show (if h : _ then _ else _) = _
    rw [dif_pos hex]
    obtain ⟨h1, h2⟩ := hex.choose_spec
    exact (p.iff _ _ h1 hi).mpr (eqt_mono ((p'.iff _ _ h1 hi).mp h2) (by omega))
  refine ⟨f, hf, fun v hv => ?_⟩
  obtain ⟨i, hi⟩ := List.getElem?_of_mem (p.dense.2 v hv)
  have hl : i < st.length := by rw [← p.len]; exact (List.getElem?_eq_some_iff.mp hi).1
  refine ⟨cl'.getD i 0, p'.dense.1 _ (List.mem_of_getElem? (getD_lt (by rw [p'.len]; exact hl))), ?_⟩
  rw [hf i hl, List.getD_eq_getElem?_getD, hi]
  rfl
theorem part_le {A : Nat} {st : Steps} {t m m' : Nat} {cl cl' : List Nat} (p : Part A st t cl m) (p' : Part A st (t + 1) cl' m') : m ≤ m' := by
  obtain ⟨f, _, hs⟩ := part_surj p p'
  have := len_le (l := List.range m) (m := (List.range m').map f) List.nodup_range fun v hv => by
    obtain ⟨u, hu, rfl⟩ := hs v (List.mem_range.mp hv)
    exact List.mem_map.mpr ⟨u, List.mem_range.mpr hu, rfl⟩
  simpa using this
/-- as many classes as before: the same classes -/
theorem part_fix {A : Nat} {st : Steps} {t m : Nat} {cl cl' : List Nat} (p : Part A st t cl m) (p' : Part A st (t + 1) cl' m) {i j : Nat} (hi : i < st.length) (hj : j < st.length) (h : Eq_t A st t i j) : Eq_t A st (t + 1) i j := by
  obtain ⟨f, hf, hs⟩ := part_surj p p'
  have nd : ((List.range m).map f).Nodup := nodup_of_surj (m := m) (by simp) fun v hv => by
    obtain ⟨u, hu, rfl⟩ := hs v hv
    exact List.mem_map.mpr ⟨u, List.mem_range.mpr hu, rfl⟩
  have inj : ∀ u v, u < m → v < m → f u = f v → u = v := fun u v hu hv e => by
    have h1 : ((List.range m).map f)[u]? = some (f u) := by simp [hu]
    have h2 : ((List.range m).map f)[v]? = some (f v) := by simp [hv]
    rw [e] at h1
    exact (List.getElem?_inj (by simpa using hu) nd).mp (h1.trans h2.symm)
  refine (p'.iff i j hi hj).mp (inj _ _ (p'.dense.1 _ (List.mem_of_getElem? (getD_lt (by rw [p'.len]; exact hi)))) (p'.dense.1 _ (List.mem_of_getElem? (getD_lt (by rw [p'.len]; exact hj)))) ?_)
  rw [hf i hi, hf j hj]
  exact (p.iff i j hi hj).mpr h
theorem eqt_all {A : Nat} {st : Steps} {t : Nat} (v : Valid A st) (h : ∀ i j, i < st.length → j < st.length → Eq_t A st t i j → Eq_t A st (t + 1) i j) : ∀ u i j, i < st.length → j < st.length → Eq_t A st t i j → Eq_t A st (t + u) i j
  | 0, _, _, _, _, e => e
  | u + 1, i, j, hi, hj, e => by
    have ih := eqt_all v h u
    have e1 := h i j hi hj e
    rw [eqt_succ] at e1
    show Eq_t A st (t + u + 1) i j
    rw [eqt_succ]
    exact ⟨ih i j hi hj e, fun k => ⟨(e1.2 k).1, ih _ _ ((v i hi).2 k.val k.2) ((v j hj).2 k.val k.2) (e1.2 k).2⟩⟩
/-- the classes are the behaviours -/
structure ClOk (A : Nat) (st : Steps) (cl : List Nat) : Prop where
  len : cl.length = st.length
  iff : ∀ i j, i < st.length → j < st.length → (cl.getD i 0 = cl.getD j 0 ↔ beh A st i = beh A st j)
theorem cl_done {A : Nat} {st : Steps} {t m : Nat} {cl cl' : List Nat} (v : Valid A st) (p : Part A st t cl m) (p' : Part A st (t + 1) cl' m) : ClOk A st cl' := by
  refine ⟨p'.len, fun i j hi hj => ?_⟩
  rw [p'.iff i j hi hj]
  constructor
  · intro e
    funext x
    have fix := fun i j hi hj h => part_fix (i := i) (j := j) p p' hi hj h
    exact eqt_all v fix x.length i j hi hj (eqt_mono e (by omega)) x (by omega)
  · intro e x _
    rw [e]
end AW
namespace AW
open PySem PySem.Spec PyProof.Rows L2
/-! ### answers to the questions of readings -/
section
variable {K : PySem.W.Frag} {H : Hp} {Q : VK} {α : Type} {R : DR α}
theorem atI_of {β : Type} {xs : List β} {i : Int} {j : Nat} {v : β} (hi : i = (j : Int)) (h : xs[j]? = some v) : atI xs i = some v := by rw [hi]; exact atI_nat h
theorem ix_of {v : V} {xs : List α} {i : Int} {j : Nat} {x : α} (h : dSeq K R H v xs) (hi : i = (j : Int)) (e : xs[j]? = some x) (q : ∀ u, R H u x → Q u H) : rIxQ K v (.int i) H Q := by
  unfold rIxQ
  obtain ⟨a, vs, rfl, hq, p⟩ := h
  obtain ⟨u, hu, r⟩ := pgetR p e
  rcases hq with hq | hq
  · exact .inl ⟨a, vs, i, u, rfl, rfl, hq, atI_of hi hu, q u r⟩
  · exact .inr (.inl ⟨a, vs, i, u, rfl, rfl, hq, atI_of hi hu, q u r⟩)
theorem ixm_of {M : List Addr} {v : V} {xs : List α} {i : Int} {j : Nat} {x : α} (h : dSeq K R (mk M H) v xs) (hi : i = (j : Int)) (e : xs[j]? = some x) (q : ∀ u, R (mk M H) u x → Q u H) : rIxQ K v (.int i) H Q := by
  unfold rIxQ
  obtain ⟨a, vs, rfl, hq, p⟩ := h
  obtain ⟨u, hu, r⟩ := pgetR p e
  rcases hq with hq | hq
  · exact .inl ⟨a, vs, i, u, rfl, rfl, mk_same.seq hq, atI_of hi hu, q u r⟩
  · exact .inr (.inl ⟨a, vs, i, u, rfl, rfl, Same.tup mk_same hq, atI_of hi hu, q u r⟩)
theorem ixL_of {a : Addr} {vs : List V} {i : Int} {j : Nat} {u : V} (h : H a = some (.lst vs)) (hi : i = (j : Int)) (e : vs[j]? = some u) (q : Q u H) : rIxQ K (.ref a) (.int i) H Q := by
  unfold rIxQ
  exact .inl ⟨a, vs, i, u, rfl, rfl, .inl (.inl h), atI_of hi e, q⟩
theorem ixT_of {a : Addr} {vs : List V} {i : Int} {j : Nat} {u : V} (h : SqT K H a vs) (hi : i = (j : Int)) (e : vs[j]? = some u) (q : Q u H) : rIxQ K (.ref a) (.int i) H Q := by
  unfold rIxQ
  exact .inr (.inl ⟨a, vs, i, u, rfl, rfl, h, atI_of hi e, q⟩)
theorem ixS_of {z : Str} {i : Int} {j : Nat} {cc : Nat} (hl : z.length ≤ 1000) (hi : i = (j : Int)) (e : z.cps.toList[j]? = some cc) (q : Q (.str ⟨#[cc]⟩) H) : rIxQ K (.str z) (.int i) H Q := by
  unfold rIxQ
  exact .inr (.inr ⟨z, i, cc, rfl, rfl, le_ok (Nat.le_trans hl (by decide)), atI_of hi e, q⟩)
theorem len_of {v : V} {xs : List α} (h : dSeq K R H v xs) (q : Q (.int (xs.length : Int)) H) : rLenQ K [v] H Q := by
  unfold rLenQ
  obtain ⟨a, vs, rfl, hq, p⟩ := h
  refine ⟨a, vs, rfl, hq, ?_⟩
  rw [Paired.length p]; exact q
theorem lenL_of {a : Addr} {vs : List V} (h : H a = some (.lst vs)) (q : Q (.int (vs.length : Int)) H) : rLenQ K [.ref a] H Q := by
  unfold rLenQ
  exact ⟨a, vs, rfl, .inl (.inl (.inl h)), q⟩
theorem min_of {v : V} {ns : List Int} (h : dSeq K dInt H v ns) (hne : ns ≠ []) (q : Q (.int (mn ns)) H) : rMinQ K [v] H Q := by
  unfold rMinQ
  exact ⟨v, ns, rfl, h, List.length_pos_iff.mpr hne, fun m hm hle => by rw [mn_eq hm hle]; exact q⟩
end
theorem dLst_new {K : PySem.W.Frag} {H : Hp} {p : Addr} {ns : List Int} (h : H p = some (.lst (ns.map V.int))) : dLst K dInt H (.ref p) ns := ⟨p, _, rfl, .inl (.inl h), of_ints ns⟩
theorem getD_some {α : Type} {xs : List α} {i : Nat} (h : i < xs.length) (d : α) : xs[i]? = some (xs.getD i d) := by
  rw [List.getD_eq_getElem?_getD, List.getElem?_eq_getElem h]; rfl
/-- a row of a table -/
theorem tab_row {n : Nat} {t : Tab} (h : Sq n t) {s : Nat} (hs : s < n) : t[s]? = some (t.getD s []) ∧ (t.getD s []).length = n := by
  have h1 : s < t.length := by rw [h.1]; exact hs
  refine ⟨getD_some h1 _, ?_⟩
  rw [List.getD_eq_getElem?_getD, List.getElem?_eq_getElem h1]
  exact h.2 _ (List.getElem_mem h1)

/-! ### led -/
def sp_led (K : PySem.W.Frag) : Sp := fun vs H Q _ => ∃ (v t : V) (w : List Int) (tb : Tab), vs = [v, t] ∧ dSeq K dInt H v w ∧ dSeq K (dSeq K dInt) H t tb ∧ w ≠ [] ∧ Sq w.length tb ∧ w.length ≤ 1000 ∧
  ∀ p H', Same H H' → H p = none → H' p = some (.lst ((led w tb).map V.int)) → Q (.ref p) H'
section
variable {P : Program} {w : World} {K : PySem.W.Frag} {mg : Str → Option Value} {base : Heap} {cSt cSg cMa cVe cRl : Addr}
theorem fn_led (c : Env K mg cSt cSg cMa cVe cRl) : Fn P w K mg base "led" 1 P_led (sp_led K) := by
  refine fn_ok c.d_led sc_led (fun _ _ _ _ _ _ us hl => match us, hl with | [_, _], _ => rfl) (fun vs H Q E h => ?_) (fun f cdv A outer s H vs Q E hr h => ?_)
  · obtain ⟨_, _, _, _, rfl, _⟩ := h
    rfl
  · obtain ⟨v, t, ws, tb, rfl, hw, ht, hne, sq, hn, q⟩ := h
    refine ⟨_, (pss_cons (ps_set (i := 2) sc_led.nd rfl (Or.inl rfl) (pe_callB (call_len_seqK (K := K)) (by rfl) c.b_len (by decide +kernel) (pa_cons (pv 0) pa_nil)))
      (pss_cons (ps_set (i := 3) sc_led.nd rfl (Or.inl rfl) (pe_lst pa_nil))
      (pss_cons (ps_for PassesOwn.never rfl (pi_range1 rfl c.b_range (pa_cons (pv 2) pa_nil)) (pg_name (i := 4) sc_led.nd rfl (Or.inl rfl))
        (pss_cons (ps_set (i := 5) sc_led.nd rfl (Or.inl rfl) (pe_op op_add (pe_ix (ix_seqK (K := K)) (pv 0) pe_int (fun _ _ => rfl)) (pe_ix (ix_seqK (K := K)) (pe_ix (ix_seqK (K := K)) (pv 1) pe_int (fun _ _ => rfl)) (pv 4) (fun _ _ => rfl))))
        (pss_cons (ps_for PassesOwn.never rfl (pi_range2 rfl c.b_range (pa_cons pe_int (pa_cons (pv 2) pa_nil))) (pg_name (i := 6) sc_led.nd rfl (Or.inl rfl))
          (pss_cons (ps_set (i := 7) sc_led.nd rfl (Or.inl rfl) (pe_op op_add (pe_ix (ix_seqK (K := K)) (pv 0) (pv 6) (fun _ _ => rfl)) (pe_ix (ix_seqK (K := K)) (pe_ix (ix_seqK (K := K)) (pv 1) (pv 6) (fun _ _ => rfl)) (pv 4) (fun _ _ => rfl))))
          (pss_one (ps_if (pt_cmpR op_lt (pv 7) (pv 5) (nomark _))
            (pss_one (ps_set (i := 5) sc_led.nd rfl (Or.inl rfl) (pv 7)))
            pss_nil))))
        (pss_one (ps_expr (pe_bm PySem.F.plainAttrs_list PySem.F.slot_list_append PySem.F.type_list_append mt_append (pv 3) (pa_cons (pv 5) pa_nil)))))))
      (pss_one (ps_ret (pv 3)))))), ?_⟩
    have hpos : 0 < ws.length := List.length_pos_iff.mpr hne
    have mI := dSeq_mono (K := K) dInt_mono
    have mT := dSeq_mono (K := K) mI
    -- many, found
    refine ⟨v, rfl, len_of hw ?_⟩
    refine ⟨Nat.zero_le _, fun D hD => ?_⟩
    have s1 : Same H (upd H D (.lst [])) := same_upd hD
    refine ⟨_, rfl, (ws.length : Int), rfl, by omega, by omega, ?_⟩
    refine for_range (lo := 0) (n := ws.length) (fun i σ H' => ∃ x4 x5 x6 x7, σ = [some v, some t, some (.int (ws.length : Int)), some (.ref D), x4, x5, x6, x7] ∧ Same H H' ∧ H' D = some (.lst (((List.range i).map fun j => mn ((List.range ws.length).map fun s => ws.getD s 0 + at2 tb s j)).map V.int)))
      ⟨none, none, none, none, rfl, s1, upd_same⟩ ?_ ?_
    · rintro j σ H1 hj ⟨x4, x5, x6, x7, rfl, sH, hL⟩
      have e0 : (0 : Int) + (j : Int) = (j : Int) := Int.zero_add _
      obtain ⟨r0, l0⟩ := tab_row sq hpos
      have hw1 := mI _ _ _ _ sH hw
      have ht1 := mT _ _ _ _ sH ht
      -- best = work[0] + table[0][t]
      refine ⟨v, rfl, ix_of hw1 (j := 0) rfl (getD_some hpos 0) fun u hu => ?_⟩
      cases hu
      refine ⟨t, rfl, ix_of ht1 (j := 0) rfl r0 fun u hu => ?_⟩
      refine ⟨_, rfl, ix_of hu e0 (getD_some (by omega) 0) fun u2 hu2 => ?_⟩
      cases hu2
      refine ⟨_, _, rfl, rfl, ?_⟩
      refine ⟨_, rfl, 1, (ws.length : Int), rfl, ⟨by decide, by decide, by omega, by omega⟩, ?_⟩
      have en : ((ws.length : Int) - 1).toNat = ws.length - 1 := by omega
      refine for_range (lo := 1) (n := ((ws.length : Int) - 1).toNat) (fun i σ H' => ∃ x6 x7, σ = [some v, some t, some (.int (ws.length : Int)), some (.ref D), some (.int (0 + (j : Int))), some (.int (mn ((List.range (i + 1)).map fun s => ws.getD s 0 + at2 tb s j))), x6, x7] ∧ H' = H1)
        ⟨x6, x7, rfl, rfl⟩ ?_ ?_
      · rintro i σ H2 hi ⟨y6, y7, rfl, rfl⟩
        rw [en] at hi
        have e1 : (1 : Int) + (i : Int) = ((i + 1 : Nat) : Int) := by omega
        obtain ⟨ri, li⟩ := tab_row sq (s := i + 1) (by omega)
        refine ⟨v, rfl, _, rfl, ix_of hw1 e1 (getD_some (by omega) 0) fun u hu => ?_⟩
        cases hu
        refine ⟨t, rfl, _, rfl, ix_of ht1 e1 ri fun u hu => ?_⟩
        refine ⟨_, rfl, ix_of hu e0 (getD_some (by omega) 0) fun u2 hu2 => ?_⟩
        cases hu2
        refine ⟨_, _, rfl, rfl, ?_⟩
        have step : mn ((List.range (i + 1 + 1)).map fun s => ws.getD s 0 + at2 tb s j) = min (mn ((List.range (i + 1)).map fun s => ws.getD s 0 + at2 tb s j)) (ws.getD (i + 1) 0 + at2 tb (i + 1) j) := by
          rw [List.range_succ, List.map_append, List.map_singleton]
          exact mn_snoc (range_ne (by omega) _)
        refine ⟨_, rfl, _, rfl, _, _, rfl, rfl, _, rfl, ?_⟩
        refine ite2 (fun hlt => ?_) (fun hlt => ?_)
        · have hlt' : ws.getD (i + 1) 0 + at2 tb (i + 1) j < mn ((List.range (i + 1)).map fun s => ws.getD s 0 + at2 tb s j) := of_decide_eq_true hlt
          refine ⟨_, rfl, some (.int (1 + (i : Int))), some (.int (ws.getD (i + 1) 0 + at2 tb (i + 1) j)), ?_, rfl⟩
          rw [step, Int.min_eq_right (Int.le_of_lt hlt')]
          rfl
        · have hlt' : ¬ ws.getD (i + 1) 0 + at2 tb (i + 1) j < mn ((List.range (i + 1)).map fun s => ws.getD s 0 + at2 tb s j) := fun z => hlt (decide_eq_true z)
          refine ⟨some (.int (1 + (i : Int))), some (.int (ws.getD (i + 1) 0 + at2 tb (i + 1) j)), ?_, rfl⟩
          rw [step, Int.min_eq_left (Int.not_lt.mp hlt')]
          rfl
      · rintro σ H2 ⟨y6, y7, rfl, rfl⟩
        rw [en, show ws.length - 1 + 1 = ws.length by omega]
        refine ⟨_, rfl, .inl ⟨rfl, _, .inl (.inl hL)⟩, _, rfl, D, _, _, rfl, rfl, hL, ?_, ?_⟩
        · rw [List.length_map, List.length_map, List.length_range]
          exact len_ok (by omega)
        · refine ⟨_, _, _, _, rfl, same_upd2 sH hD, ?_⟩
          rw [upd_same, List.range_succ, List.map_append, List.map_append]
          rfl
    · rintro σ H1 ⟨x4, x5, x6, x7, rfl, sH, hL⟩
      exact ⟨_, rfl, q D H1 sH hD hL⟩
end
end AW
namespace AW
open PySem PySem.Spec PyProof.Rows L2
/-! ### asks and rows -/
def allAsks : List Str := ["ab", "bf", "acd", "ah", "a", "ce", "h", "cd", "abc", "ag", "ef"]
abbrev Asks (A : Str) : Prop := A ∈ allAsks
def cp (A : Str) (k : Nat) : Nat := A.cps.getD k 0
def sg (A : Str) (k : Nat) : Str := ⟨#[cp A k]⟩
def rowS (A : Str) (ks : List Nat) : Str := ⟨(ks.map (cp A)).toArray⟩
def letters : Str := "abcdefgh"
theorem asks_find : ∀ A ∈ allAsks, ∀ k, k < A.cps.size → Txt.find A (sg A k) = (k : Int) := by decide +kernel
theorem asks_size : ∀ A ∈ allAsks, 1 ≤ A.cps.size ∧ A.cps.size ≤ 3 := by decide +kernel
theorem asks_first : ∀ A ∈ allAsks, (-1 : Int) < Txt.find letters (sg A 0) := by decide +kernel
theorem asks_rise : ∀ A ∈ allAsks, ∀ k, k < A.cps.size - 1 → Txt.find letters (sg A k) < Txt.find letters (sg A (k + 1)) := by decide +kernel
theorem asks_len {A : Str} (h : Asks A) : 1 ≤ A.length ∧ A.length ≤ 3 := asks_size A h
theorem cps_at {A : Str} {i cc : Nat} (h : A.cps[i]? = some cc) : i < A.cps.size ∧ cc = cp A i := by
  obtain ⟨h1, h2⟩ := Array.getElem?_eq_some_iff.mp h
  refine ⟨h1, ?_⟩
  unfold cp
  rw [Array.getD_eq_getD_getElem?, h]
  rfl
theorem cp_mem {A : Str} {k : Nat} (h : k < A.cps.size) : cp A k ∈ A.cps.toList := by
  unfold cp
  rw [Array.getD_eq_getD_getElem?, Array.getElem?_eq_getElem h]
  show A.cps[k] ∈ _
  exact Array.mem_toList_iff.mpr (Array.getElem_mem h)
theorem rowS_size (A : Str) (ks : List Nat) : (rowS A ks).cps.size = ks.length := by simp [rowS]
theorem rowS_at {A : Str} {ks : List Nat} {i cc : Nat} (h : (rowS A ks).cps[i]? = some cc) : ∃ k, ks[i]? = some k ∧ cc = cp A k := by
  have h2 : (ks.map (cp A))[i]? = some cc := by
    have : ((ks.map (cp A)).toArray)[i]? = some cc := h
    simpa using this
  rw [List.getElem?_map] at h2
  obtain ⟨k, h3, h4⟩ := Option.map_eq_some_iff.mp h2
  exact ⟨k, h3, h4.symm⟩
/-! ### plain values -/
theorem ty_seq {K : PySem.W.Frag} {H : Hp} {α : Type} {R : DR α} {v : V} {xs : List α} (h : dSeq K R H v xs) : TyX K H v (.type "list") ∨ TyX K H v (.type "tuple") := by
  obtain ⟨a, vs, rfl, hq, _⟩ := h
  rcases hq with ((h | ⟨o, h⟩) | ⟨o, its, n, hk, hc, _⟩) | ((h | ⟨o, h⟩) | ⟨o, its, n, hk, hc, _⟩)
  · exact .inl (.base (.lst h))
  · exact .inl (.base (.frz h))
  · exact .inl (.kList hk hc)
  · exact .inr (.base (.tup h))
  · exact .inr (.fTuple h)
  · exact .inr (.kTuple hk hc)
theorem TyX.upd {K : PySem.W.Frag} {H H' : Hp} (s : Same H H') {v : V} {n : String} (h : TyX K H v (.type n)) : TyX K H' v (.type n) := by
  generalize e : Value.type n = t at h
  cases h with
  | base h =>
    cases h with
    | non => exact .base .non
    | bl x => exact .base (.bl x)
    | int i => exact .base (.int i)
    | str x => exact .base (.str x)
    | flt x => exact .base (.flt x)
    | lst h => exact .base (.lst (s _ _ h))
    | frz h => exact .base (.frz (s _ _ h))
    | tup h => exact .base (.tup (s _ _ h))
    | dK h => exact .base (.dK (s _ _ h))
    | dT h => exact .base (.dT (s _ _ h))
    | ins h => cases e
  | byt b => exact .byt b
  | set h => exact .set (s _ _ h)
  | kList h c => exact .kList h c
  | kTuple h c => exact .kTuple h c
  | kDict h c => exact .kDict h c
  | fTuple h => exact .fTuple (s _ _ h)
  | fDict h => exact .fDict (s _ _ h)
/-- isinstance against one built-in type -/
theorem isi_of {K : PySem.W.Frag} {H : Hp} {Q : VK} {v : V} {n m : String} {b : Bool} (h : TyX K H v (.type n)) (e : kitB n m = some b) (q : Q (.bl b) H) : rIsiQ K [v, .ty m] H Q := by
  unfold rIsiQ
  exact ⟨v, .ty m, .type n, .type m, b, rfl, .ty m, h, kit_ty e, q⟩
theorem iteD {p A B : Prop} [Decidable p] (h : p) (a : A) : if decide p = true then A else B := by rw [decide_eq_true h]; exact iteT a
theorem iteND {p A B : Prop} [Decidable p] (h : ¬ p) (b : B) : if decide p = true then A else B := by rw [decide_eq_false h]; exact iteF b
theorem iteN1 {p A B : Prop} [Decidable p] (h : p) (b : B) : if (!decide p) = true then A else B := by rw [decide_eq_true h]; exact iteF b
theorem iteN0 {p A B : Prop} [Decidable p] (h : ¬ p) (a : A) : if (!decide p) = true then A else B := by rw [decide_eq_false h]; exact iteT a
theorem q_true {Q : VK} {H : Hp} {p : Prop} [Decidable p] (h : p) (q : Q (.bl true) H) : Q (.bl (decide p)) H := by rw [decide_eq_true h]; exact q
theorem tup_list_kit {K : PySem.W.Frag} {n : String} {b : Bool} {b1 b2 : Bool} (h1 : kitB n "tuple" = some b1) (h2 : kitB n "list" = some b2) (h : b = (b1 || b2)) : PySem.W.kitAny K (.type n) [.type "tuple", .type "list"] = some b := by
  subst h
  refine kitAny_cons (b := b1) (kit_ty h1) (fun e => ?_) (fun e => by rw [e]; rfl)
  subst e
  refine kitAny_cons (b := b2) (kit_ty h2) (fun e => ?_) (fun e => by rw [e]; rfl)
  subst e
  rfl
section
variable {P : Program} {w : World} {K : PySem.W.Frag} {mg : Str → Option Value} {base : Heap} {cSt cSg cMa cVe cRl : Addr}
def sp_is_integer (K : PySem.W.Frag) : Sp := fun vs H Q _ => ∃ i, vs = [.int i] ∧ Q (.bl true) H
theorem fn_is_integer (c : Env K mg cSt cSg cMa cVe cRl) : Fn P w K mg base "is_integer" 1 P_is_integer (sp_is_integer K) := by
  refine fn_ok c.d_is_integer sc_is_integer (fun _ _ _ _ _ _ us hl => match us, hl with | [_], _ => rfl) (fun vs H Q E h => ?_) (fun f cdv A outer s H vs Q E hr h => ?_)
  · obtain ⟨i, rfl, q⟩ := h
    rfl
  · obtain ⟨i, rfl, q⟩ := h
    refine ⟨_, (pss_one (ps_ret (pe_and (pe_callB (call_isiK (K := K)) (by rfl) c.b_isinstance (by decide +kernel) (pa_cons (pv 0) (pa_cons (pe_bltn (v := .ty "int") rfl c.b_int (by decide +kernel) rfl) pa_nil))) (pe_one (pe_not (pe_callB (call_isiK (K := K)) (by rfl) c.b_isinstance (by decide +kernel) (pa_cons (pv 0) (pa_cons (pe_bltn (v := .ty "bool") rfl c.b_bool (by decide +kernel) rfl) pa_nil)))))))), ?_⟩
    refine ⟨_, rfl, isi_of (.base (.int i)) (b := true) (by decide +kernel) ⟨true, rfl, iteT ?_⟩⟩
    exact ⟨_, rfl, isi_of (.base (.int i)) (b := false) (by decide +kernel) ⟨false, rfl, q⟩⟩
def sp_is_count (K : PySem.W.Frag) : Sp := fun vs H Q _ => ∃ i lo hi : Int, vs = [.int i, .int lo, .int hi] ∧ lo ≤ i ∧ i ≤ hi ∧ Q (.bl true) H
theorem fn_is_count (c : Env K mg cSt cSg cMa cVe cRl) : Fn P w K mg base "is_count" 2 P_is_count (sp_is_count K) := by
  refine fn_ok c.d_is_count sc_is_count (fun _ _ _ _ _ _ us hl => match us, hl with | [_, _, _], _ => rfl) (fun vs H Q E h => ?_) (fun f cdv A outer s H vs Q E hr h => ?_)
  · obtain ⟨i, lo, hi, rfl, h1, h2, q⟩ := h
    rfl
  · obtain ⟨i, lo, hi, rfl, h1, h2, q⟩ := h
    refine ⟨_, (pss_one (ps_ret (pe_and (pe_fn (fn_is_integer c) (hr.mono (by decide)) rfl (pa_cons (pv 0) pa_nil)) (pe_one (pe_chain op_le op_le (pv 1) (pv 0) (pv 2)))))), ?_⟩
    refine ⟨_, rfl, i, rfl, true, rfl, iteT ?_⟩
    refine ⟨_, rfl, _, rfl, _, _, rfl, rfl, _, rfl, iteD h1 ?_⟩
    exact ⟨_, rfl, _, _, rfl, rfl, q_true h2 q⟩
/-- a list, a tuple: True; an int: False -/
def sp_is_listed (K : PySem.W.Frag) : Sp := fun vs H Q _ => ∃ (v : V) (b : Bool), vs = [v] ∧ ((b = true ∧ (TyX K H v (.type "list") ∨ TyX K H v (.type "tuple"))) ∨ (b = false ∧ ∃ i, v = .int i)) ∧ ∀ H', Same H H' → Q (.bl b) H'
theorem fn_is_listed (c : Env K mg cSt cSg cMa cVe cRl) : Fn P w K mg base "is_listed" 1 P_is_listed (sp_is_listed K) := by
  refine fn_ok c.d_is_listed sc_is_listed (fun _ _ _ _ _ _ us hl => match us, hl with | [_], _ => rfl) (fun vs H Q E h => ?_) (fun f cdv A outer s H vs Q E hr h => ?_)
  · obtain ⟨v, b, rfl, h, q⟩ := h
    rfl
  · obtain ⟨v, b, rfl, h, q⟩ := h
    refine ⟨_, (pss_one (ps_ret (pe_callB (call_isiTK (K := K)) (by rfl) c.b_isinstance (by decide +kernel) (pa_cons (pv 0) (pa_cons (pe_tup (pa_cons (pe_bltn (v := .ty "tuple") rfl c.b_tuple (by decide +kernel) rfl) (pa_cons (pe_bltn (v := .ty "list") rfl c.b_list (by decide +kernel) rfl) pa_nil))) pa_nil))))), ?_⟩
    refine ⟨v, rfl, by show 2 ≤ sizeLine; decide, fun p np => ?_⟩
    unfold rIsiTQ
    have s1 : Same H (upd H p (.tup [.ty "tuple", .ty "list"])) := same_upd np
    have hp : (upd H p (.tup [.ty "tuple", .ty "list"])) p = some (.tup [.ty "tuple", .ty "list"]) := upd_same
    have hc : Paired ClsV [.ty "tuple", .ty "list"] [.type "tuple", .type "list"] := .cons (.ty _) (.cons (.ty _) .nil)
    rcases h with ⟨rfl, h | h⟩ | ⟨rfl, i, rfl⟩
    · exact ⟨v, p, _, _, _, true, rfl, hp, hc, TyX.upd s1 h, tup_list_kit (b1 := false) (b2 := true) (by decide +kernel) (by decide +kernel) rfl, q _ s1⟩
    · exact ⟨v, p, _, _, _, true, rfl, hp, hc, TyX.upd s1 h, tup_list_kit (b1 := true) (b2 := false) (by decide +kernel) (by decide +kernel) rfl, q _ s1⟩
    · exact ⟨.int i, p, _, _, _, false, rfl, hp, hc, .base (.int i), tup_list_kit (b1 := false) (b2 := false) (by decide +kernel) (by decide +kernel) rfl, q _ s1⟩
def sp_is_asks (K : PySem.W.Frag) : Sp := fun vs H Q _ => ∃ A : Str, vs = [.str A] ∧ Asks A ∧ Q (.bl true) H
theorem fn_is_asks (c : Env K mg cSt cSg cMa cVe cRl) : Fn P w K mg base "is_asks" 1 P_is_asks (sp_is_asks K) := by
  refine fn_ok c.d_is_asks sc_is_asks (fun _ _ _ _ _ _ us hl => match us, hl with | [_], _ => rfl) (fun vs H Q E h => ?_) (fun f cdv A outer s H vs Q E hr h => ?_)
  · obtain ⟨A, rfl, hA, q⟩ := h
    rfl
  · obtain ⟨A, rfl, hA, q⟩ := h
    refine ⟨_, (pss_cons (ps_if (PW.pt (pw_or (pt_not (pt_val (pe_callB (call_isiK (K := K)) (by rfl) c.b_isinstance (by decide +kernel) (pa_cons (pv 0) (pa_cons (pe_bltn (v := .ty "str") rfl c.b_str (by decide +kernel) rfl) pa_nil))))) (pw_or1 (pt_not (pt_chain op_le op_le pe_int (pe_callB call_len_str (by rfl) c.b_len (by decide +kernel) (pa_cons (pv 0) pa_nil)) pe_int)))))
        (pss_one (ps_ret pe_bl))
        pss_nil)
      (pss_cons (ps_set (i := 1) sc_is_asks.nd rfl (Or.inl rfl) (pe_un un_neg pe_int))
      (pss_cons (ps_for PassesOwn.never rfl (pi_str (pv 0)) (pg_name (i := 2) sc_is_asks.nd rfl (Or.inl rfl))
        (pss_cons (ps_set (i := 3) sc_is_asks.nd rfl (Or.inl rfl) (pe_m1 PySem.F.slot_str_find PySem.F.type_str_find mt_find (pe_globS rfl c.g_LETTERS) (pv 2)))
        (pss_cons (ps_if (pt_cmpR op_le (pv 3) (pv 1) (nomark _))
          (pss_one (ps_ret pe_bl))
          pss_nil)
        (pss_one (ps_set (i := 1) sc_is_asks.nd rfl (Or.inl rfl) (pv 3))))))
      (pss_one (ps_ret pe_bl))))), ?_⟩
    obtain ⟨l1, l2⟩ := asks_len hA
    refine ⟨_, rfl, isi_of (.base (.str A)) (b := true) (by decide +kernel) ⟨true, rfl, iteF ?_⟩⟩
    refine ⟨_, rfl, A, rfl, le_ok (by omega), ?_⟩
    refine ⟨_, _, rfl, rfl, _, rfl, iteD (show (1 : Int) ≤ (A.length : Int) by omega) ?_⟩
    refine ⟨_, _, rfl, rfl, _, rfl, iteN1 (show (A.length : Int) ≤ 4 by omega) ?_⟩
    refine ⟨1, rfl, ?_⟩
    refine ⟨_, rfl, A, rfl, ?_⟩
    refine for_it (walk_str) (fun i σ H' => ∃ x2 x3, σ = [some (.str A), some (.int (if i = 0 then -1 else Txt.find letters (sg A (i - 1)))), x2, x3] ∧ H' = H) ⟨none, none, rfl, rfl⟩ (fun _ _ _ _ _ => trivial) ?_ ?_
    · rintro i x σ H1 H2 hi ⟨x2, x3, rfl, rfl⟩ ⟨rfl, cc, hc, rfl⟩
      obtain ⟨_, rfl⟩ := cps_at hc
      refine ⟨⟨_, rfl⟩, _, rfl, _, _, rfl, rfl, ?_⟩
      have hlt : (if i = 0 then -1 else Txt.find letters (sg A (i - 1))) < Txt.find letters (sg A i) := by
        cases i with
        | zero => rw [if_pos rfl]; exact asks_first A hA
        | succ i => rw [if_neg (Nat.succ_ne_zero i)]; exact asks_rise A hA i (by omega)
      refine ⟨_, rfl, _, rfl, _, _, rfl, rfl, _, rfl, iteND (Int.not_le.mpr hlt) ?_⟩
      · refine ⟨_, rfl, some (.str ⟨#[cp A i]⟩), some (.int (Txt.find letters (sg A i))), ?_, rfl⟩
        rfl
    · rintro σ H1 ⟨x2, x3, rfl, rfl⟩
      exact q
def sp_check_asks (K : PySem.W.Frag) : Sp := fun vs H Q _ => ∃ A : Str, vs = [.str A] ∧ Asks A ∧ Q .non H
theorem fn_check_asks (c : Env K mg cSt cSg cMa cVe cRl) : Fn P w K mg base "check_asks" 2 P_check_asks (sp_check_asks K) := by
  refine fn_ok c.d_check_asks sc_check_asks (fun _ _ _ _ _ _ us hl => match us, hl with | [_], _ => rfl) (fun vs H Q E h => ?_) (fun f cdv A outer s H vs Q E hr h => ?_)
  · obtain ⟨A, rfl, hA, q⟩ := h
    rfl
  · obtain ⟨A, rfl, hA, q⟩ := h
    refine ⟨_, (pss_one (ps_if (pt_not (pt_val (pe_fn (fn_is_asks c) (hr.mono (by decide)) rfl (pa_cons (pv 0) pa_nil))))
        (pss_one ps_never)
        pss_nil)), ?_⟩
    exact ⟨_, rfl, A, rfl, hA, true, rfl, iteF q⟩
def sp_row_over (K : PySem.W.Frag) : Sp := fun vs H Q _ => ∃ (A : Str) (ks : List Nat), vs = [.str A, .str (rowS A ks)] ∧ (∀ k ∈ ks, k < A.cps.size) ∧ ks.length ≤ 2000 ∧ Q (.bl true) H
theorem fn_row_over (c : Env K mg cSt cSg cMa cVe cRl) : Fn P w K mg base "row_over" 1 P_row_over (sp_row_over K) := by
  refine fn_ok c.d_row_over sc_row_over (fun _ _ _ _ _ _ us hl => match us, hl with | [_, _], _ => rfl) (fun vs H Q E h => ?_) (fun f cdv A outer s H vs Q E hr h => ?_)
  · obtain ⟨A, ks, rfl, hk, hl, q⟩ := h
    rfl
  · obtain ⟨A, ks, rfl, hk, hl, q⟩ := h
    refine ⟨_, (pss_cons (ps_if (PW.pt (pw_or (pt_not (pt_val (pe_callB (call_isiK (K := K)) (by rfl) c.b_isinstance (by decide +kernel) (pa_cons (pv 1) (pa_cons (pe_bltn (v := .ty "str") rfl c.b_str (by decide +kernel) rfl) pa_nil))))) (pw_or1 (pt_cmpR op_gt (pe_callB call_len_str (by rfl) c.b_len (by decide +kernel) (pa_cons (pv 1) pa_nil)) (pe_globI rfl c.g_LONGEST) (nomark _)))))
        (pss_one (ps_ret pe_bl))
        pss_nil)
      (pss_cons (ps_for PassesOwn.never rfl (pi_str (pv 1)) (pg_name (i := 2) sc_row_over.nd rfl (Or.inl rfl))
        (pss_one (ps_if (pt_cmpR op_notIn_sign (pv 2) (pv 0) rfl)
          (pss_one (ps_ret pe_bl))
          pss_nil)))
      (pss_one (ps_ret pe_bl)))), ?_⟩
    have e : (rowS A ks).length = ks.length := rowS_size A ks
    refine ⟨_, rfl, isi_of (.base (.str _)) (b := true) (by decide +kernel) ⟨true, rfl, iteF ?_⟩⟩
    refine ⟨_, rfl, _, rfl, le_ok (by omega), ?_⟩
    refine ⟨_, _, rfl, rfl, _, rfl, iteND (show ¬ (((rowS A ks).length : Nat) : Int) > 2000 by omega) ?_⟩
    refine ⟨_, rfl, _, rfl, ?_⟩
    refine for_it (walk_str) (fun i σ H' => ∃ x2, σ = [some (.str A), some (.str (rowS A ks)), x2] ∧ H' = H) ⟨none, rfl, rfl⟩ (fun _ _ _ _ _ => trivial) ?_ ?_
    · rintro i x σ H1 H2 hi ⟨x2, rfl, rfl⟩ ⟨rfl, cc, hc, rfl⟩
      obtain ⟨k, hk1, rfl⟩ := rowS_at hc
      refine ⟨_, rfl, _, rfl, _, _, rfl, rfl, _, rfl, iteN1 (cp_mem (hk k (List.mem_of_getElem? hk1))) ⟨_, rfl, rfl⟩⟩
    · rintro σ H1 ⟨x2, rfl, rfl⟩
      exact q
def sp_check_row (K : PySem.W.Frag) : Sp := fun vs H Q _ => ∃ (A : Str) (ks : List Nat), vs = [.str A, .str (rowS A ks)] ∧ (∀ k ∈ ks, k < A.cps.size) ∧ ks.length ≤ 2000 ∧ Q .non H
theorem fn_check_row (c : Env K mg cSt cSg cMa cVe cRl) : Fn P w K mg base "check_row" 2 P_check_row (sp_check_row K) := by
  refine fn_ok c.d_check_row sc_check_row (fun _ _ _ _ _ _ us hl => match us, hl with | [_, _], _ => rfl) (fun vs H Q E h => ?_) (fun f cdv A outer s H vs Q E hr h => ?_)
  · obtain ⟨A, ks, rfl, hk, hl, q⟩ := h
    rfl
  · obtain ⟨A, ks, rfl, hk, hl, q⟩ := h
    refine ⟨_, (pss_one (ps_if (pt_not (pt_val (pe_fn (fn_row_over c) (hr.mono (by decide)) rfl (pa_cons (pv 0) (pa_cons (pv 1) pa_nil)))))
        (pss_one ps_never)
        pss_nil)), ?_⟩
    exact ⟨_, rfl, _, rfl, A, ks, rfl, hk, hl, true, rfl, iteF q⟩
def sp_integers (K : PySem.W.Frag) : Sp := fun vs H Q _ => ∃ (v : V) (xs : List Int), vs = [v, .int (xs.length : Int)] ∧ dSeq K dInt H v xs ∧ ∀ H', Same H H' → Q (.bl true) H'
theorem fn_integers (c : Env K mg cSt cSg cMa cVe cRl) : Fn P w K mg base "integers" 2 P_integers (sp_integers K) := by
  refine fn_ok c.d_integers sc_integers (fun _ _ _ _ _ _ us hl => match us, hl with | [_, _], _ => rfl) (fun vs H Q E h => ?_) (fun f cdv A outer s H vs Q E hr h => ?_)
  · obtain ⟨v, xs, rfl, hx, q⟩ := h
    rfl
  · obtain ⟨v, xs, rfl, hx, q⟩ := h
    refine ⟨_, (pss_cons (ps_if (PW.pt (pw_or (pt_not (pt_val (pe_fn (fn_is_listed c) (hr.mono (by decide)) rfl (pa_cons (pv 0) pa_nil)))) (pw_or1 (pt_cmpR op_ne (pe_callB (call_len_seqK (K := K)) (by rfl) c.b_len (by decide +kernel) (pa_cons (pv 0) pa_nil)) (pv 1) (nomark _)))))
        (pss_one (ps_ret pe_bl))
        pss_nil)
      (pss_cons (ps_for PassesOwn.never rfl (pi_seqK (K := K) (pv 0)) (pg_name (i := 2) sc_integers.nd rfl (Or.inl rfl))
        (pss_one (ps_if (pt_not (pt_val (pe_fn (fn_is_integer c) (hr.mono (by decide)) rfl (pa_cons (pv 2) pa_nil))))
          (pss_one (ps_ret pe_bl))
          pss_nil)))
      (pss_one (ps_ret pe_bl)))), ?_⟩
    have mI := dSeq_mono (K := K) dInt_mono
    refine ⟨v, rfl, v, true, rfl, .inl ⟨rfl, ty_seq hx⟩, fun H1 s1 => ?_⟩
    have h1 := mI _ _ _ _ s1 hx
    refine ⟨true, rfl, iteF ?_⟩
    refine ⟨v, rfl, len_of h1 ?_⟩
    refine ⟨_, rfl, rfl, _, rfl, iteN1 rfl ?_⟩
    obtain ⟨a, us, rfl, hq, p⟩ := id h1
    have turn : ∀ (i : Nat) (x : V), us[i]? = some x → ∃ z, x = .int z := fun i x hx => by
      obtain ⟨z, _, e⟩ := pget p hx
      exact ⟨z, e⟩
    rcases hq with hq | hq
    · refine ⟨_, rfl, a, us, rfl, .inl ⟨hq, ?_⟩⟩
      refine for_list (K := K) (a := a) (xs := us) (fun i σ H' => ∃ x2, σ = [some (.ref a), some (.int (xs.length : Int)), x2] ∧ H' = H1) ⟨none, rfl, rfl⟩ (fun i σ H' _ ⟨_, _, e⟩ => by rw [e]; exact hq) ?_ ?_
      · rintro i x σ H2 hi ⟨x2, rfl, rfl⟩
        obtain ⟨z, rfl⟩ := turn i x hi
        exact ⟨_, rfl, z, rfl, true, rfl, iteF ⟨_, rfl, rfl⟩⟩
      · rintro σ H2 ⟨x2, rfl, rfl⟩
        exact q _ s1
    · refine ⟨_, rfl, a, us, rfl, .inr ⟨hq, ?_⟩⟩
      refine for_tup (K := K) (a := a) (xs := us) (fun i σ H' => ∃ x2, σ = [some (.ref a), some (.int (xs.length : Int)), x2] ∧ H' = H1) ⟨none, rfl, rfl⟩ (fun i σ H' _ ⟨_, _, e⟩ => by rw [e]; exact hq) ?_ ?_
      · rintro i x σ H2 hi ⟨x2, rfl, rfl⟩
        obtain ⟨z, rfl⟩ := turn i x hi
        exact ⟨_, rfl, z, rfl, true, rfl, iteF ⟨_, rfl, rfl⟩⟩
      · rintro σ H2 ⟨x2, rfl, rfl⟩
        exact q _ s1
end
end AW
namespace AW
open PySem PySem.Spec PyProof.Rows L2
/-! ### comprehensions over a sequence -/
section
variable {α β : Type} {K : PySem.W.Frag}
theorem map_range_getD {β : Type} (d : β) (ys : List β) : (List.range ys.length).map (fun i => ys.getD i d) = ys := by
  refine List.ext_getElem (by simp) fun i h1 h2 => ?_
  rw [List.getElem_map, List.getElem_range, List.getD_eq_getElem?_getD, List.getElem?_eq_getElem h2]
  rfl
/-- [e for x in us] where each turn gives g of its datum: J is a walk of us -/
theorem lc_map [Inhabited β] {J : It} {us : List V} {G : Hp → Prop} (w : Walk J us.length G (YAt us)) {te : TE} {j : Nat} {σ : L2.St} {H1 : Hp} {D : Addr} {Qd : Hp → Prop} {M : List Addr} {xs : List α} {S : DR α} {R : DR β} (g : α → β)
    (mS : Mono S) (mR : Mono R) (hp : Paired (S (mk M H1)) us xs) (hD : H1 D = none) (hM : ∀ a ∈ M, H1 a ≠ none) (hn : us.length ≤ 16000000) (hG : ∀ H, Same H1 H → G H)
    (he : ∀ u x H, x ∈ xs → Same H1 H → Same (mk M H1) (mk (D :: M) H) → S (mk (D :: M) H) u x → (∀ a ∈ D :: M, H a ≠ none) → ∀ Q : VK, (∀ y H4, Same H H4 → R (mk (D :: M) H4) y (g x) → Q y H4) → te ((wipe σ [j]).set j (some u)) H Q)
    (hd : ∀ H, Same H1 H → (∃ ys, H D = some (.lst ys) ∧ Paired (R (mk M H)) ys (xs.map g)) → Qd H) :
    ∃ W : Nat → Nat → Hp → Prop, (∃ m, W 0 m (upd H1 D (.lst []))) ∧ ∀ i m H, W i m H →
      (J.stop i H ∧ Qd H) ∨ (J.go i H ∧ ∃ Nx : Hp → Prop, (∀ H', Nx H' → ∃ m', m' < m ∧ W (i + 1) m' H') ∧ ∀ x H', J.yld i H x H' → gName j x (wipe σ [j]) H' fun σ2 H2 => wipe σ2 [j] = wipe σ [j] ∧ tYes σ2 H2 fun b H3 =>
        if b = true then te σ2 H3 fun y H4 => ∃ acc, H4 D = some (.lst acc) ∧ acc.length < sizeLine ∧ Nx (upd H4 D (.lst (acc ++ [y]))) else Nx H3) := by
  have hl := Paired.length hp
  refine lc_gen w (fun i => (xs.map g).getD i default) mR hD hM hn hG ?_ ?_
  · rintro i x H H' hi s1 s2 hDn hMn ⟨rfl, hx⟩
    obtain ⟨z, hz, r⟩ := pget hp hx
    refine ⟨(wipe σ [j]).set j (some x), _, fun k q => q, ?_, fun Q q => ?_⟩
    · show ((((σ.set j none).set j (some x)).set j none) = σ.set j none)
      rw [List.set_set, List.set_set]
    · refine he x z _ (List.mem_of_getElem? hz) s1 s2 (mS _ _ _ _ s2 r) ?_ Q fun y H4 s4 r4 => q y H4 s4 ?_
      · intro a ha
        rcases List.mem_cons.mp ha with e | e
        · subst e; exact hDn
        · exact hMn a e
      · have e : (xs.map g).getD i default = g z := by
          rw [List.getD_eq_getElem?_getD, List.getElem?_map, hz]; rfl
        rw [e]; exact r4
  · intro H s1 ⟨ys, h1, h2⟩
    refine hd H s1 ⟨ys, h1, ?_⟩
    have e : (List.range us.length).map (fun i => (xs.map g).getD i default) = xs.map g := by
      have := map_range_getD (default : β) (xs.map g)
      rw [List.length_map] at this
      rw [hl]; exact this
    rw [e] at h2
    exact h2
end
/-- the new list, as data behind the mask -/
theorem lst_at {α : Type} {K : PySem.W.Frag} {R : DR α} {M : List Addr} {H : Hp} {D : Addr} {ys : List V} {xs : List α} (h : H D = some (.lst ys)) (hn : D ∉ M) (p : Paired (R (mk M H)) ys xs) : dLst K R (mk M H) (.ref D) xs :=
  ⟨D, ys, rfl, .inl (.inl (by rw [mk_out hn]; exact h)), p⟩
theorem tup_at {α : Type} {K : PySem.W.Frag} {R : DR α} {M : List Addr} {H : Hp} {D : Addr} {ys : List V} {xs : List α} (h : H D = some (.tup ys)) (hn : D ∉ M) (p : Paired (R (mk M H)) ys xs) : dTup K R (mk M H) (.ref D) xs :=
  ⟨D, ys, rfl, .inl (.inl (by rw [mk_out hn]; exact h)), p⟩
theorem tuple_of {K : PySem.W.Frag} {H : Hp} {Q : VK} {a : Addr} {vs : List V} (h : H a = some (.lst vs)) (q : ∀ l, H l = none → Q (.ref l) (upd H l (.tup vs))) : rTupQ K [.ref a] H Q := by
  unfold rTupQ
  exact ⟨a, vs, rfl, .inl ⟨.inl (.inl h), q⟩⟩
/-- a tuple made of a list, as data behind the mask -/
theorem tup_new {α : Type} {K : PySem.W.Frag} {R : DR α} {M : List Addr} {H : Hp} {l : Addr} {ys : List V} {xs : List α} (mR : Mono R) (hl : H l = none) (hn : l ∉ M) (p : Paired (R (mk M H)) ys xs) : dTup K R (mk M (upd H l (.tup ys))) (.ref l) xs :=
  ⟨l, ys, rfl, .inl (.inl (by rw [mk_out hn]; exact upd_same)), Paired.mono (fun _ _ => mR _ _ _ _ (mk_mono (same_upd hl))) p⟩
/-- a mutable thing made of new data -/
theorem seq_cases {α : Type} {K : PySem.W.Frag} {R : DR α} {H : Hp} {v : V} {xs : List α} (h : dSeq K R H v xs) : ∃ a us, v = .ref a ∧ Paired (R H) us xs ∧ (SqL K H a us ∨ SqT K H a us) := let ⟨a, us, e, q, p⟩ := h; ⟨a, us, e, p, q⟩
section
variable {P : Program} {w : World} {K : PySem.W.Frag} {mg : Str → Option Value} {base : Heap} {cSt cSg cMa cVe cRl : Addr}
def sp_is_table (K : PySem.W.Frag) : Sp := fun vs H Q _ => ∃ (v : V) (n : Nat) (t : Tab), vs = [v, .int (n : Int)] ∧ dSeq K (dSeq K dInt) H v t ∧ Sq n t ∧ ∀ H', Same H H' → Q (.bl true) H'
theorem fn_is_table (c : Env K mg cSt cSg cMa cVe cRl) : Fn P w K mg base "is_table" 3 P_is_table (sp_is_table K) := by
  refine fn_ok c.d_is_table sc_is_table (fun _ _ _ _ _ _ us hl => match us, hl with | [_, _], _ => rfl) (fun vs H Q E h => ?_) (fun f cdv A outer s H vs Q E hr h => ?_)
  · obtain ⟨v, n, t, rfl, ht, sq, q⟩ := h
    rfl
  · obtain ⟨v, n, t, rfl, ht, sq, q⟩ := h
    refine ⟨_, (pss_cons (ps_if (PW.pt (pw_or (pt_not (pt_val (pe_fn (fn_is_listed c) (hr.mono (by decide)) rfl (pa_cons (pv 0) pa_nil)))) (pw_or1 (pt_cmpR op_ne (pe_callB (call_len_seqK (K := K)) (by rfl) c.b_len (by decide +kernel) (pa_cons (pv 0) pa_nil)) (pv 1) (nomark _)))))
        (pss_one (ps_ret pe_bl))
        pss_nil)
      (pss_cons (ps_for PassesOwn.never rfl (pi_seqK (K := K) (pv 0)) (pg_name (i := 2) sc_is_table.nd rfl (Or.inl rfl))
        (pss_one (ps_if (pt_not (pt_val (pe_fn (fn_integers c) (hr.mono (by decide)) rfl (pa_cons (pv 2) (pa_cons (pv 1) pa_nil)))))
          (pss_one (ps_ret pe_bl))
          pss_nil)))
      (pss_one (ps_ret pe_bl)))), ?_⟩
    have mI := dSeq_mono (K := K) dInt_mono
    have mT := dSeq_mono (K := K) mI
    refine ⟨v, rfl, v, true, rfl, .inl ⟨rfl, ty_seq ht⟩, fun H1 s1 => ?_⟩
    have h1 := mT _ _ _ _ s1 ht
    refine ⟨true, rfl, iteF ?_⟩
    refine ⟨v, rfl, len_of h1 ?_⟩
    rw [sq.1]
    refine ⟨_, rfl, rfl, _, rfl, iteN1 rfl ?_⟩
    obtain ⟨a, us, rfl, p, hq⟩ := seq_cases h1
    have turn : ∀ (i : Nat) (x : V) (H2 : Hp), us[i]? = some x → Same H1 H2 → ∃ z : List Int, z.length = n ∧ dSeq K dInt H2 x z := fun i x H2 hx s => by
      obtain ⟨z, hz, e⟩ := pget p hx
      exact ⟨z, sq.2 z (List.mem_of_getElem? hz), mI _ _ _ _ s e⟩
    rcases hq with hq | hq
    · refine ⟨_, rfl, a, us, rfl, .inl ⟨hq, ?_⟩⟩
      refine for_list (K := K) (a := a) (xs := us) (fun i σ H' => ∃ x2, σ = [some (.ref a), some (.int (n : Int)), x2] ∧ Same H1 H') ⟨none, rfl, Same.refl _⟩ (fun i σ H' _ ⟨_, _, e⟩ => e.seq hq) ?_ ?_
      · rintro i x σ H2 hi ⟨x2, rfl, s2⟩
        obtain ⟨z, hz, dz⟩ := turn i x H2 hi s2
        refine ⟨_, rfl, _, rfl, x, z, by rw [hz]; rfl, dz, fun H3 s3 => ?_⟩
        exact ⟨true, rfl, iteF ⟨_, rfl, s2.trans s3⟩⟩
      · rintro σ H2 ⟨x2, rfl, s2⟩
        exact q _ (s1.trans s2)
    · refine ⟨_, rfl, a, us, rfl, .inr ⟨hq, ?_⟩⟩
      refine for_tup (K := K) (a := a) (xs := us) (fun i σ H' => ∃ x2, σ = [some (.ref a), some (.int (n : Int)), x2] ∧ Same H1 H') ⟨none, rfl, Same.refl _⟩ (fun i σ H' _ ⟨_, _, e⟩ => Same.tup e hq) ?_ ?_
      · rintro i x σ H2 hi ⟨x2, rfl, s2⟩
        obtain ⟨z, hz, dz⟩ := turn i x H2 hi s2
        refine ⟨_, rfl, _, rfl, x, z, by rw [hz]; rfl, dz, fun H3 s3 => ?_⟩
        exact ⟨true, rfl, iteF ⟨_, rfl, s2.trans s3⟩⟩
      · rintro σ H2 ⟨x2, rfl, s2⟩
        exact q _ (s1.trans s2)
def sp_are_costs (K : PySem.W.Frag) : Sp := fun vs H Q _ => ∃ (v : V) (A : Str) (n : Nat) (cs : List Tab), vs = [v, .str A, .int (n : Int)] ∧ A.length ≤ 1000 ∧ dSeq K (dSeq K (dSeq K dInt)) H v cs ∧ cs.length = A.length ∧ (∀ t ∈ cs, Sq n t) ∧ ∀ H', Same H H' → Q (.bl true) H'
theorem fn_are_costs (c : Env K mg cSt cSg cMa cVe cRl) : Fn P w K mg base "are_costs" 4 P_are_costs (sp_are_costs K) := by
  refine fn_ok c.d_are_costs sc_are_costs (fun _ _ _ _ _ _ us hl => match us, hl with | [_, _, _], _ => rfl) (fun vs H Q E h => ?_) (fun f cdv A outer s H vs Q E hr h => ?_)
  · obtain ⟨v, A, n, cs, rfl, hA, ht, hl, sq, q⟩ := h
    rfl
  · obtain ⟨v, A, n, cs, rfl, hA, ht, hl, sq, q⟩ := h
    refine ⟨_, (pss_cons (ps_if (PW.pt (pw_or (pt_not (pt_val (pe_fn (fn_is_listed c) (hr.mono (by decide)) rfl (pa_cons (pv 0) pa_nil)))) (pw_or1 (pt_cmpR op_ne (pe_callB (call_len_seqK (K := K)) (by rfl) c.b_len (by decide +kernel) (pa_cons (pv 0) pa_nil)) (pe_callB call_len_str (by rfl) c.b_len (by decide +kernel) (pa_cons (pv 1) pa_nil)) (nomark _)))))
        (pss_one (ps_ret pe_bl))
        pss_nil)
      (pss_cons (ps_for PassesOwn.never rfl (pi_seqK (K := K) (pv 0)) (pg_name (i := 3) sc_are_costs.nd rfl (Or.inl rfl))
        (pss_one (ps_if (pt_not (pt_val (pe_fn (fn_is_table c) (hr.mono (by decide)) rfl (pa_cons (pv 3) (pa_cons (pv 2) pa_nil)))))
          (pss_one (ps_ret pe_bl))
          pss_nil)))
      (pss_one (ps_ret pe_bl)))), ?_⟩
    have mI := dSeq_mono (K := K) dInt_mono
    have mT := dSeq_mono (K := K) mI
    have mC := dSeq_mono (K := K) mT
    refine ⟨v, rfl, v, true, rfl, .inl ⟨rfl, ty_seq ht⟩, fun H1 s1 => ?_⟩
    have h1 := mC _ _ _ _ s1 ht
    refine ⟨true, rfl, iteF ?_⟩
    refine ⟨v, rfl, len_of h1 ?_⟩
    rw [hl]
    refine ⟨_, rfl, A, rfl, le_ok (by omega), ?_⟩
    refine ⟨rfl, _, rfl, iteN1 rfl ?_⟩
    obtain ⟨a, us, rfl, p, hq⟩ := seq_cases h1
    have turn : ∀ (i : Nat) (x : V) (H2 : Hp), us[i]? = some x → Same H1 H2 → ∃ z : Tab, Sq n z ∧ dSeq K (dSeq K dInt) H2 x z := fun i x H2 hx s => by
      obtain ⟨z, hz, e⟩ := pget p hx
      exact ⟨z, sq z (List.mem_of_getElem? hz), mT _ _ _ _ s e⟩
    rcases hq with hq | hq
    · refine ⟨_, rfl, a, us, rfl, .inl ⟨hq, ?_⟩⟩
      refine for_list (K := K) (a := a) (xs := us) (fun i σ H' => ∃ x2, σ = [some (.ref a), some (.str A), some (.int (n : Int)), x2] ∧ Same H1 H') ⟨none, rfl, Same.refl _⟩ (fun i σ H' _ ⟨_, _, e⟩ => e.seq hq) ?_ ?_
      · rintro i x σ H2 hi ⟨x2, rfl, s2⟩
        obtain ⟨z, hz, dz⟩ := turn i x H2 hi s2
        refine ⟨_, rfl, _, rfl, x, n, z, rfl, dz, hz, fun H3 s3 => ?_⟩
        exact ⟨true, rfl, iteF ⟨_, rfl, s2.trans s3⟩⟩
      · rintro σ H2 ⟨x2, rfl, s2⟩
        exact q _ (s1.trans s2)
    · refine ⟨_, rfl, a, us, rfl, .inr ⟨hq, ?_⟩⟩
      refine for_tup (K := K) (a := a) (xs := us) (fun i σ H' => ∃ x2, σ = [some (.ref a), some (.str A), some (.int (n : Int)), x2] ∧ Same H1 H') ⟨none, rfl, Same.refl _⟩ (fun i σ H' _ ⟨_, _, e⟩ => Same.tup e hq) ?_ ?_
      · rintro i x σ H2 hi ⟨x2, rfl, s2⟩
        obtain ⟨z, hz, dz⟩ := turn i x H2 hi s2
        refine ⟨_, rfl, _, rfl, x, n, z, rfl, dz, hz, fun H3 s3 => ?_⟩
        exact ⟨true, rfl, iteF ⟨_, rfl, s2.trans s3⟩⟩
      · rintro σ H2 ⟨x2, rfl, s2⟩
        exact q _ (s1.trans s2)
/-- a new list of ints -/
def NewInts (H : Hp) (ns : List Int) (Q : VK) : Prop := ∀ p H', Same H H' → H p = none → H' p = some (.lst (ns.map V.int)) → Q (.ref p) H'
def sp_numbers_of (K : PySem.W.Frag) : Sp := fun vs H Q _ => ∃ (A : Str) (ks : List Nat), vs = [.str A, .str (rowS A ks)] ∧ Asks A ∧ (∀ k ∈ ks, k < A.cps.size) ∧ ks.length ≤ 2000 ∧ NewInts H (ks.map fun (k : Nat) => (k : Int)) Q
theorem fn_numbers_of (c : Env K mg cSt cSg cMa cVe cRl) : Fn P w K mg base "numbers_of" 1 P_numbers_of (sp_numbers_of K) := by
  refine fn_ok c.d_numbers_of sc_numbers_of (fun _ _ _ _ _ _ us hl => match us, hl with | [_, _], _ => rfl) (fun vs H Q E h => ?_) (fun f cdv A outer s H vs Q E hr h => ?_)
  · obtain ⟨A, ks, rfl, hA, hk, hl, q⟩ := h
    rfl
  · obtain ⟨A, ks, rfl, hA, hk, hl, q⟩ := h
    refine ⟨_, (pss_one (ps_ret (pe_lc (own := [("letter", 2)]) (g := gName 2) (tt := tYes) rfl sc_numbers_of.nd (pi_str (pv 1)) (blkOk_by (N := N_numbers_of) (sc := defScope s_numbers_of) (own := [("letter", 2)]) (by decide +kernel)) (fun _ _ _ _ _ => (pg_name (i := 2) sc_numbers_of.nd rfl (by first | exact Or.inl rfl | exact Or.inr rfl))) (fun _ _ _ _ _ => pts_nil) (fun _ _ _ _ _ => (pe_m1 PySem.F.slot_str_find PySem.F.type_str_find mt_find (pv 0) (pv 2)))))), ?_⟩
    refine ⟨_, rfl, _, rfl, fun D hD => ?_⟩
    refine lc_gen (walk_str) (fun i => ((ks.getD i 0 : Nat) : Int)) (M := []) (R := dInt) dInt_mono hD (fun _ h => nomatch h) (by rw [rowS_size]; omega) (fun _ _ => trivial) ?_ ?_
    · rintro i x H1 H2 hi s1 _ _ _ ⟨rfl, cc, hc, rfl⟩
      obtain ⟨k, hk1, rfl⟩ := rowS_at hc
      refine ⟨_, _, fun k q => q, rfl, fun Q2 q2 => ?_⟩
      refine ⟨_, rfl, ⟨_, rfl⟩, _, rfl, _, _, rfl, rfl, ?_⟩
      have e := asks_find A hA k (hk k (List.mem_of_getElem? hk1))
      have e2 : Txt.find A ⟨#[cp A k]⟩ = (k : Int) := e
      rw [e2]
      refine q2 _ _ (Same.refl _) ?_
      have e3 : ks.getD i 0 = k := by rw [List.getD_eq_getElem?_getD, hk1]; rfl
      rw [e3]
      rfl
    · rintro H1 s1 ⟨ys, h1, p1⟩
      refine q D H1 s1 hD ?_
      have e := ints_of p1
      rw [h1, e, rowS_size]
      congr 2
      have e2 := map_range_getD (0 : Nat) ks
      conv => rhs; rw [← e2]
      simp only [List.map_map, Function.comp_def]
def sp_joined_tables (K : PySem.W.Frag) : Sp := fun vs H Q _ => ∃ (M : List Addr) (n : Nat) (v t : V) (a b : Tab), vs = [v, t] ∧ (∀ p ∈ M, H p ≠ none) ∧ dSeq K (dSeq K dInt) (mk M H) v a ∧ dSeq K (dSeq K dInt) (mk M H) t b ∧ 0 < n ∧ n ≤ 1000 ∧ Sq n a ∧ Sq n b ∧ Ret M H (dLst K (dLst K dInt)) (joined a b) Q
theorem fn_joined_tables (c : Env K mg cSt cSg cMa cVe cRl) : Fn P w K mg base "joined_tables" 2 P_joined_tables (sp_joined_tables K) := by
  refine fn_ok c.d_joined_tables sc_joined_tables (fun _ _ _ _ _ _ us hl => match us, hl with | [_, _], _ => rfl) (fun vs H Q E h => ?_) (fun f cdv A outer s H vs Q E hr h => ?_)
  · obtain ⟨M, n, v, t, a, b, rfl, hM, ha, hb, h0, hn, sa, sb, q⟩ := h
    rfl
  · obtain ⟨M, n, v, t, a, b, rfl, hM, ha, hb, h0, hn, sa, sb, q⟩ := h
    refine ⟨_, (pss_one (ps_ret (pe_lc (own := [("line", 2)]) (g := gName 2) (tt := tYes) rfl sc_joined_tables.nd (pi_seqK (K := K) (pv 0)) (blkOk_by (N := N_joined_tables) (sc := defScope s_joined_tables) (own := [("line", 2)]) (by decide +kernel)) (fun _ _ _ _ _ => (pg_name (i := 2) sc_joined_tables.nd rfl (by first | exact Or.inl rfl | exact Or.inr rfl))) (fun _ _ _ _ _ => pts_nil) (fun _ _ _ _ _ => (pe_fn (fn_led c) (hr.mono (by decide)) rfl (pa_cons (pv 2) (pa_cons (pv 1) pa_nil))))))), ?_⟩
    have mI := dSeq_mono (K := K) dInt_mono
    have mT := dSeq_mono (K := K) mI
    obtain ⟨ad, us, rfl, p, hq⟩ := seq_cases ha
    have hl : us.length = n := by rw [Paired.length p]; exact sa.1
    have turn : ∀ (D : Addr) (u : V) (x : List Int) (H2 : Hp), x ∈ a → Same H H2 → (∀ p ∈ D :: M, H2 p ≠ none) → Same (mk M H) (mk (D :: M) H2) → dSeq K dInt (mk (D :: M) H2) u x → ∀ Q2 : VK, (∀ y H4, Same H2 H4 → dLst K dInt (mk (D :: M) H4) y (led x b) → Q2 y H4) →
        tCall (sp_led K) [] E0 (tCons (tVar 2) (tCons (tVar 1) tNil)) [some (.ref ad), some t, some u] H2 Q2 := fun D u x H2 hx s2 hM2 s3 hu Q2 q2 => by
      refine ⟨_, rfl, _, rfl, u, t, x, b, rfl, mI _ _ _ _ mk_same hu, mT _ _ _ _ mk_same (mT _ _ _ _ s3 hb), ?_, ?_, ?_, fun pp H4 s4 hp4 e4 => q2 _ _ s4 ?_⟩
      · have := sa.2 x hx
        intro e; rw [e] at this; simp at this; omega
      · rw [sa.2 x hx]; exact sb
      · rw [sa.2 x hx]; exact hn
      · exact lst_at e4 (notin_of hM2 hp4) (of_ints _)
    have fin : ∀ D, H D = none → ∀ H2, Same H H2 → (∃ ys, H2 D = some (.lst ys) ∧ Paired (dLst K dInt (mk M H2)) ys (a.map fun x => led x b)) → Q (.ref D) H2 := fun D hD H2 s2 ⟨ys, h1, h2⟩ =>
      q _ _ s2 (lst_at h1 (notin_of hM hD) h2)
    rcases hq with hq | hq
    · refine ⟨_, rfl, ad, us, rfl, .inl ⟨mk_same.seq hq, fun D hD => ?_⟩⟩
      exact lc_map (j := 2) (σ := [some (.ref ad), some t, none]) walk_list (S := dSeq K dInt) (R := dLst K dInt) (fun x => led x b) mI (dLst_mono dInt_mono) p hD hM (by omega) (fun H2 s2 => s2.seq (mk_same.seq hq)) (fun u x H2 hx s2 s3 hu hM2 Q2 q2 => turn D u x H2 hx s2 hM2 s3 hu Q2 q2) (fin D hD)
    · refine ⟨_, rfl, ad, us, rfl, .inr ⟨Same.tup mk_same hq, fun D hD => ?_⟩⟩
      exact lc_map (j := 2) (σ := [some (.ref ad), some t, none]) walk_tup (S := dSeq K dInt) (R := dLst K dInt) (fun x => led x b) mI (dLst_mono dInt_mono) p hD hM (by omega) (fun H2 s2 => Same.tup s2 (Same.tup mk_same hq)) (fun u x H2 hx s2 s3 hu hM2 Q2 q2 => turn D u x H2 hx s2 hM2 s3 hu Q2 q2) (fin D hD)
end
end AW
namespace AW
open PySem PySem.Spec PyProof.Rows L2
theorem pair_tgt {K : PySem.W.Frag} {i j : Nat} {T : Addr} {x y : V} {σ : L2.St} {H : Hp} {k : L2.St → Hp → Prop} (h : H T = some (.tup [x, y])) (q : k ((σ.set i (some x)).set j (some y)) H) :
    gTup K 2 (gCons (gName i) (gCons (gName j) gNil)) (.ref T) σ H k :=
  ⟨T, [x, y], rfl, .inl (.inl h), rfl, x, [y], rfl, y, [], rfl, rfl, q⟩
theorem zipWith_range (a b : List Int) (h : a.length = b.length) : (List.range a.length).map (fun i => a.getD i 0 + b.getD i 0) = addv a b := by
  refine List.ext_getElem (by simp [addv, h]) fun i h1 h2 => ?_
  have h3 : i < a.length := by simpa using h1
  have h4 : i < b.length := by omega
  simp [addv, h3, h4]
def DD : Nat → Type
  | 0 => Int
  | n + 1 => List (DD n)
instance : ∀ n, Inhabited (DD n)
  | 0 => ⟨(0 : Int)⟩
  | n + 1 => ⟨([] : List (DD n))⟩
def rS (K : PySem.W.Frag) : (n : Nat) → DR (DD n)
  | 0 => dInt
  | n + 1 => dSeq K (rS K n)
def rT (K : PySem.W.Frag) : (n : Nat) → DR (DD n)
  | 0 => dInt
  | n + 1 => dTup K (rT K n)
def smallD : (n : Nat) → DD n → Prop
  | 0, _ => True
  | n + 1, l => (show List (DD n) from l).length ≤ 1000 ∧ ∀ x ∈ (show List (DD n) from l), smallD n x
theorem rS_mono (K : PySem.W.Frag) : ∀ n, Mono (rS K n)
  | 0 => dInt_mono
  | n + 1 => dSeq_mono (rS_mono K n)
theorem rT_mono (K : PySem.W.Frag) : ∀ n, Mono (rT K n)
  | 0 => dInt_mono
  | n + 1 => dTup_mono (rT_mono K n)
section
variable {P : Program} {w : World} {K : PySem.W.Frag} {mg : Str → Option Value} {base : Heap} {cSt cSg cMa cVe cRl : Addr}
def sp_added (K : PySem.W.Frag) : Sp := fun vs H Q _ => ∃ (v u : V) (a b : List Int), vs = [v, u] ∧ dTup K dInt H v a ∧ dTup K dInt H u b ∧ a.length = b.length ∧ a.length ≤ 1000 ∧ NewInts H (addv a b) Q
theorem fn_added (c : Env K mg cSt cSg cMa cVe cRl) : Fn P w K mg base "added" 1 P_added (sp_added K) := by
  refine fn_ok c.d_added sc_added (fun _ _ _ _ _ _ us hl => match us, hl with | [_, _], _ => rfl) (fun vs H Q E h => ?_) (fun f cdv A outer s H vs Q E hr h => ?_)
  · obtain ⟨v, u, a, b, rfl, ⟨p1, us, rfl, hq1, pa⟩, ⟨p2, ws, rfl, hq2, pb⟩, hl, hn, q⟩ := h
    rfl
  · obtain ⟨v, u, a, b, rfl, ⟨p1, us, rfl, hq1, pa⟩, ⟨p2, ws, rfl, hq2, pb⟩, hl, hn, q⟩ := h
    refine ⟨_, (pss_one (ps_ret (pe_lc (own := [("x", 2), ("y", 3)]) (g := gTup K 2 (gCons (gName 2) (gCons (gName 3) gNil))) (tt := tYes) rfl sc_added.nd (pi_zipAK (K := K) rfl c.b_zip (pa_cons (pv 0) (pa_cons (pv 1) pa_nil))) (blkOk_by (N := N_added) (sc := defScope s_added) (own := [("x", 2), ("y", 3)]) (by decide +kernel)) (fun _ _ _ _ _ => (pg_tup rfl (pgs_cons (pg_name (i := 2) sc_added.nd rfl (by first | exact Or.inl rfl | exact Or.inr rfl)) (pgs_cons (pg_name (i := 3) sc_added.nd rfl (by first | exact Or.inl rfl | exact Or.inr rfl)) pgs_nil)))) (fun _ _ _ _ _ => pts_nil) (fun _ _ _ _ _ => (pe_op op_add (pv 2) (pv 3)))))), ?_⟩
    cases ints_of pa
    cases ints_of pb
    refine ⟨_, rfl, _, rfl, p1, p2, _, _, rfl, .inr ⟨hq1, hq2, fun D hD => ?_⟩⟩
    refine lc_gen (n := a.length) (walk_zipTT (n := a.length) (xs := a.map V.int) (ys := b.map V.int) (by simp) (by simp [hl])) (fun i => a.getD i 0 + b.getD i 0) (M := []) (R := dInt) dInt_mono hD (fun _ h => nomatch h) (by omega) (fun H1 s1 => ⟨Same.tup s1 hq1, Same.tup s1 hq2⟩) ?_ ?_
    · rintro i x H1 H2 hi s1 _ _ _ ⟨T, x1, y1, rfl, nT, rfl, hx, hy⟩
      refine ⟨_, _, fun k q => pair_tgt upd_same q, rfl, fun Q2 q2 => ?_⟩
      have e1 : x1 = .int (a.getD i 0) := by
        have := getD_some (d := (0 : Int)) hi
        simp only [List.getElem?_map, this] at hx
        exact (Option.some.inj hx).symm
      have e2 : y1 = .int (b.getD i 0) := by
        have := getD_some (xs := b) (i := i) (by omega) (0 : Int)
        simp only [List.getElem?_map, this] at hy
        exact (Option.some.inj hy).symm
      subst e1 e2
      exact ⟨_, rfl, _, rfl, _, _, rfl, rfl, q2 _ _ (same_upd nT) rfl⟩
    · rintro H1 s1 ⟨ys, h1, p⟩
      refine q D H1 s1 hD ?_
      have e := ints_of p
      rw [h1, e, zipWith_range a b hl]
def sp_lowered (K : PySem.W.Frag) : Sp := fun vs H Q _ => ∃ (v : V) (xs : List Int), vs = [v] ∧ dSeq K dInt H v xs ∧ xs ≠ [] ∧ xs.length ≤ 1000 ∧
  ∀ p q H', Same H H' → H p = none → H q = none → H' q = some (.tup ((low xs).map V.int)) → H' p = some (.tup [.ref q, .int (mn xs)]) → Q (.ref p) H'
theorem fn_lowered (c : Env K mg cSt cSg cMa cVe cRl) : Fn P w K mg base "lowered" 1 P_lowered (sp_lowered K) := by
  refine fn_ok c.d_lowered sc_lowered (fun _ _ _ _ _ _ us hl => match us, hl with | [_], _ => rfl) (fun vs H Q E h => ?_) (fun f cdv A outer s H vs Q E hr h => ?_)
  · obtain ⟨v, xs, rfl, hx, hne, hn, q⟩ := h
    rfl
  · obtain ⟨v, xs, rfl, hx, hne, hn, q⟩ := h
    refine ⟨_, (pss_cons (ps_set (i := 1) sc_lowered.nd rfl (Or.inr rfl) (pe_callB (cr_minSK (K := K) rfl) (by rfl) c.b_min (by decide +kernel) (pa_cons (pv 0) pa_nil)))
      (pss_one (ps_ret (pe_tup (pa_cons (pe_callTy (call_tuple_ofK (K := K)) (by rfl) c.b_tuple (by decide +kernel) (pa_cons (pe_lc (own := [("number", 2)]) (g := gName 2) (tt := tYes) rfl sc_lowered.nd (pi_seqK (K := K) (pv 0)) (blkOk_by (N := N_lowered) (sc := defScope s_lowered) (own := [("number", 2)]) (by decide +kernel)) (fun _ _ _ _ _ => (pg_name (i := 2) sc_lowered.nd rfl (by first | exact Or.inl rfl | exact Or.inr rfl))) (fun _ _ _ _ _ => pts_nil) (fun _ _ _ _ _ => (pe_op op_sub (pv 2) (pv 1)))) pa_nil)) (pa_cons (pv 1) pa_nil)))))), ?_⟩
    refine ⟨v, rfl, min_of hx hne ?_⟩
    obtain ⟨a, us, rfl, p, hq⟩ := seq_cases hx
    have hlen := Paired.length p
    have turn : ∀ (u : V) (x : Int) (H2 : Hp), dInt H2 u x → ∀ Q2 : VK, (∀ y H4, Same H2 H4 → dInt H4 y (x - mn xs) → Q2 y H4) →
        tOp (rI0 fun i j => .int (i - j)) (tVar 2) (tVar 1) [some (.ref a), some (.int (mn xs)), some u] H2 Q2 := fun u x H2 hu Q2 q2 => by
      cases hu
      exact ⟨_, rfl, _, rfl, _, _, rfl, rfl, q2 _ _ (Same.refl _) rfl⟩
    have fin : ∀ (D : Addr) (H2 : Hp), H D = none → Same H H2 → (∃ ys, H2 D = some (.lst ys) ∧ Paired (dInt (mk [] H2)) ys (xs.map fun x => x - mn xs)) →
        tNil [some (.ref a), some (.int (mn xs)), none] H2 fun vs H3 => rTupQ K (V.ref D :: vs) H3 fun x H1 => tCons (tVar 1) tNil [some (.ref a), some (.int (mn xs)), none] H1 fun xs H2 => (x :: xs).length ≤ sizeLine ∧ ∀ p, H2 p = none → Q (.ref p) (upd H2 p (.tup (x :: xs))) := fun D H2 hD s2 ⟨ys, h1, p2⟩ => by
      have e := ints_of p2
      subst e
      refine tuple_of h1 fun l hl => ⟨_, rfl, by show 2 ≤ sizeLine; decide, fun pp hp => ?_⟩
      have s3 : Same H (upd H2 l (.tup ((xs.map fun x => x - mn xs).map V.int))) := s2.trans (same_upd hl)
      refine q pp l _ (s3.trans (same_upd hp)) (s3.free hp) (s2.free hl) ?_ upd_same
      have hne : l ≠ pp := fun z => by rw [← z, upd_same] at hp; cases hp
      rw [upd_ne hne, upd_same]
      rfl
    rcases hq with hq | hq
    · refine ⟨_, rfl, a, us, rfl, .inl ⟨hq, fun D hD => ?_⟩⟩
      exact lc_map (j := 2) (M := []) (σ := [some (.ref a), some (.int (mn xs)), none]) walk_list (S := dInt) (R := dInt) (fun x => x - mn xs) dInt_mono dInt_mono (p) hD (fun _ h => nomatch h) (by omega) (fun H2 s2 => s2.seq hq) (fun u x H2 hx2 s2 s3 hu hM2 Q2 q2 => turn u x H2 hu Q2 q2) (fun H2 s2 h => fin D H2 hD s2 h)
    · refine ⟨_, rfl, a, us, rfl, .inr ⟨hq, fun D hD => ?_⟩⟩
      exact lc_map (j := 2) (M := []) (σ := [some (.ref a), some (.int (mn xs)), none]) walk_tup (S := dInt) (R := dInt) (fun x => x - mn xs) dInt_mono dInt_mono (p) hD (fun _ h => nomatch h) (by omega) (fun H2 s2 => Same.tup s2 hq) (fun u x H2 hx2 s2 s3 hu hM2 Q2 q2 => turn u x H2 hu Q2 q2) (fun H2 s2 h => fin D H2 hD s2 h)
def sp_deep (K : PySem.W.Frag) (n : Nat) : Sp := fun vs H Q _ => ∃ (M : List Addr) (v : V) (x : DD n), vs = [v] ∧ (∀ p ∈ M, H p ≠ none) ∧ rS K n (mk M H) v x ∧ smallD n x ∧ Ret M H (rT K n) x Q
theorem fn_deep (c : Env K mg cSt cSg cMa cVe cRl) : ∀ n, Fn P w K mg base "deep" (n + 2) P_deep (sp_deep K n)
  | 0 => by
    refine fn_ok c.d_deep sc_deep (fun _ _ _ _ _ _ us hl => match us, hl with | [_], _ => rfl) (fun vs H Q E h => ?_) (fun f cdv A outer s H vs Q E hr h => ?_)
    · obtain ⟨_, _, _, rfl, _⟩ := h
      rfl
    · obtain ⟨M, v, x, rfl, hM, hv, hs, q⟩ := h
      refine ⟨_, (pss_cons (ps_if (pt_val (pe_fn (fn_is_listed c) (hr.mono (by decide)) rfl (pa_cons (pv 0) pa_nil))) (pss_one ps_never) pss_nil) (pss_one (ps_ret (pv 0)))), ?_⟩
      have hv' : v = .int x := hv
      subst hv'
      refine ⟨_, rfl, _, false, rfl, .inr ⟨rfl, x, rfl⟩, fun H1 s1 => ⟨false, rfl, iteF ?_⟩⟩
      exact ⟨_, rfl, q _ _ s1 rfl⟩
  | n + 1 => by
    refine fn_ok c.d_deep sc_deep (fun _ _ _ _ _ _ us hl => match us, hl with | [_], _ => rfl) (fun vs H Q E h => ?_) (fun f cdv A outer s H vs Q E hr h => ?_)
    · obtain ⟨_, _, _, rfl, _⟩ := h
      rfl
    · obtain ⟨M, v, x, rfl, hM, hv, hs, q⟩ := h
      refine ⟨_, (pss_cons (ps_if (pt_val (pe_fn (fn_is_listed c) (hr.mono (by omega)) rfl (pa_cons (pv 0) pa_nil)))
        (pss_one (ps_ret (pe_callTy (call_tuple_ofK (K := K)) (by rfl) c.b_tuple (by decide +kernel) (pa_cons (pe_lc (own := [("part", 1)]) (g := gName 1) (tt := tYes) rfl sc_deep.nd (pi_seqK (K := K) (pv 0)) (blkOk_by (N := N_deep) (sc := defScope s_deep) (own := [("part", 1)]) (by decide +kernel)) (fun _ _ _ _ _ => (pg_name (i := 1) sc_deep.nd rfl (by first | exact Or.inl rfl | exact Or.inr rfl))) (fun _ _ _ _ _ => pts_nil) (fun _ _ _ _ _ => (pe_fn (fn_deep c n) (hr.mono (by omega)) rfl (pa_cons (pv 1) pa_nil)))) pa_nil))))
        pss_nil)
        (pss_one (ps_ret (pv 0)))), ?_⟩
      have hv' : dSeq K (rS K n) (mk M H) v (show List (DD n) from x) := hv
      have hs' : (show List (DD n) from x).length ≤ 1000 ∧ ∀ y ∈ (show List (DD n) from x), smallD n y := hs
      have mS := rS_mono K n
      have mT := rT_mono K n
      refine ⟨v, rfl, v, true, rfl, .inl ⟨rfl, (ty_seq hv').imp (fun h => TyX.upd mk_same h) (fun h => TyX.upd mk_same h)⟩, fun H1 s1 => ⟨true, rfl, iteT ?_⟩⟩
      have h1 := dSeq_mono mS _ _ _ _ (mk_mono (M := M) s1) hv'
      have hM1 := dom_same hM s1
      obtain ⟨a, us, rfl, p, hq⟩ := seq_cases h1
      have hlen : us.length = (show List (DD n) from x).length := Paired.length p
      have turn : ∀ (D : Addr) (u : V) (y : DD n) (H2 : Hp), y ∈ (show List (DD n) from x) → Same H1 H2 → (∀ p ∈ D :: M, H2 p ≠ none) → rS K n (mk (D :: M) H2) u y → ∀ Q2 : VK, (∀ z H4, Same H2 H4 → rT K n (mk (D :: M) H4) z y → Q2 z H4) →
          tCall (sp_deep K n) [] E0 (tCons (tVar 1) tNil) [some (.ref a), some u] H2 Q2 := fun D u y H2 hy s2 hM2 hu Q2 q2 =>
        ⟨_, rfl, D :: M, u, y, rfl, hM2, hu, hs'.2 y hy, q2⟩
      have fin : ∀ D, H1 D = none → ∀ H2, Same H1 H2 → (∃ ys, H2 D = some (.lst ys) ∧ Paired (rT K n (mk M H2)) ys ((show List (DD n) from x).map fun y => y)) → tNil [some (.ref a), none] H2 fun vs H3 => rTupQ K (V.ref D :: vs) H3 Q := fun D hD H2 s2 ⟨ys, h2, p2⟩ => by
        refine tuple_of h2 fun l hl => ?_
        refine q _ _ (s1.trans (s2.trans (same_upd hl))) ?_
        rw [List.map_id'] at p2
        exact tup_new mT hl (notin_of (dom_same hM1 s2) hl) p2
      rcases hq with hq | hq
      · refine ⟨_, rfl, a, us, rfl, .inl ⟨mk_same.seq hq, fun D hD => ?_⟩⟩
        exact lc_map (j := 1) (σ := [some (.ref a), none]) walk_list (S := rS K n) (R := rT K n) (fun y => y) mS mT p hD hM1 (by omega) (fun H2 s2 => s2.seq (mk_same.seq hq)) (fun u y H2 hy s2 s3 hu hM2 Q2 q2 => turn D u y H2 hy s2 hM2 hu Q2 q2) (fin D hD)
      · refine ⟨_, rfl, a, us, rfl, .inr ⟨Same.tup mk_same hq, fun D hD => ?_⟩⟩
        exact lc_map (j := 1) (σ := [some (.ref a), none]) walk_tup (S := rS K n) (R := rT K n) (fun y => y) mS mT p hD hM1 (by omega) (fun H2 s2 => Same.tup s2 (Same.tup mk_same hq)) (fun u y H2 hy s2 s3 hu hM2 Q2 q2 => turn D u y H2 hy s2 hM2 hu Q2 q2) (fin D hD)
end
end AW
namespace AW
open PySem PySem.Spec PyProof.Rows L2
/-! ### stores -/
structure Wd where
  asks : Str
  begins : List Int
  costs : List Tab
  ends : List Int
structure Wf (d : Wd) : Prop where
  asks : Asks d.asks
  pos : 0 < d.begins.length
  le : d.begins.length ≤ 1000
  cl : d.costs.length = d.asks.cps.size
  sq : ∀ t ∈ d.costs, Sq d.begins.length t
  el : d.ends.length = d.begins.length
def dStore (K : PySem.W.Frag) (cSt : Addr) : DR Wd := fun H v d => ∃ a dx fs vb vc ve, v = .ref a ∧ H a = some (.ins cSt dx fs) ∧ fs.lookup ("asks" : Str) = some (.str d.asks) ∧ fs.lookup ("begins" : Str) = some vb ∧ fs.lookup ("costs" : Str) = some vc ∧ fs.lookup ("ends" : Str) = some ve ∧
  dTup K dInt H vb d.begins ∧ dTup K (dTup K (dTup K dInt)) H vc d.costs ∧ dTup K dInt H ve d.ends
section
variable {K : PySem.W.Frag} {cSt : Addr}
theorem mT1 : Mono (dTup K dInt) := dTup_mono dInt_mono
theorem mT2 : Mono (dTup K (dTup K dInt)) := dTup_mono mT1
theorem mT3 : Mono (dTup K (dTup K (dTup K dInt))) := dTup_mono mT2
theorem mS1 : Mono (dSeq K dInt) := dSeq_mono dInt_mono
theorem mS2 : Mono (dSeq K (dSeq K dInt)) := dSeq_mono mS1
theorem mS3 : Mono (dSeq K (dSeq K (dSeq K dInt))) := dSeq_mono mS2
theorem dStore_mono : Mono (dStore K cSt) := fun H H' v d s ⟨a, dx, fs, vb, vc, ve, e, h, h1, h2, h3, h4, h5, h6, h7⟩ => ⟨a, dx, fs, vb, vc, ve, e, s _ _ h, h1, h2, h3, h4, mT1 _ _ _ _ s h5, mT3 _ _ _ _ s h6, mT1 _ _ _ _ s h7⟩
theorem seq2 {H : Hp} {v : V} {t : Tab} (h : dTup K (dTup K dInt) H v t) : dSeq K (dSeq K dInt) H v t := dSeq_imp (seq_tup h) fun u x _ => seq_tup
theorem seq3 {H : Hp} {v : V} {t : List Tab} (h : dTup K (dTup K (dTup K dInt)) H v t) : dSeq K (dSeq K (dSeq K dInt)) H v t := dSeq_imp (seq_tup h) fun u x _ => seq2
end
theorem small1 (l : List Int) (h : l.length ≤ 1000) : smallD 1 l := ⟨h, fun _ _ => trivial⟩
theorem small2 (n : Nat) (hn : n ≤ 1000) (t : Tab) (h : Sq n t) : smallD 2 t := ⟨by show List.length (α := List Int) t ≤ 1000; rw [h.1]; exact hn, fun l hl => small1 l (by rw [h.2 l hl]; exact hn)⟩
theorem small3 {d : Wd} (wf : Wf d) : smallD 3 d.costs := ⟨by
  show List.length (α := Tab) d.costs ≤ 1000
  rw [wf.cl]
  have : d.asks.cps.size ≤ 3 := (asks_len wf.asks).2
  omega, fun t ht => small2 _ wf.le t (wf.sq t ht)⟩
/-- the attributes one by one -/
def stFs (A : Str) (vb vc ve : V) : List (Str × V) := putF "ends" ve (putF "costs" vc (putF "begins" vb (putF "asks" (.str A) [])))
theorem stFs_asks {A : Str} {vb vc ve : V} : (stFs A vb vc ve).lookup ("asks" : Str) = some (.str A) := by
  unfold stFs
  rw [lookup_putF, if_neg (by decide +kernel), lookup_putF, if_neg (by decide +kernel), lookup_putF, if_neg (by decide +kernel), lookup_putF, if_pos rfl]
theorem stFs_begins {A : Str} {vb vc ve : V} : (stFs A vb vc ve).lookup ("begins" : Str) = some vb := by
  unfold stFs
  rw [lookup_putF, if_neg (by decide +kernel), lookup_putF, if_neg (by decide +kernel), lookup_putF, if_pos rfl]
theorem stFs_costs {A : Str} {vb vc ve : V} : (stFs A vb vc ve).lookup ("costs" : Str) = some vc := by
  unfold stFs
  rw [lookup_putF, if_neg (by decide +kernel), lookup_putF, if_pos rfl]
theorem stFs_ends {A : Str} {vb vc ve : V} : (stFs A vb vc ve).lookup ("ends" : Str) = some ve := by
  unfold stFs
  rw [lookup_putF, if_pos rfl]
theorem putF_len (f : Str) (v : V) : ∀ fs : List (Str × V), (putF f v fs).length ≤ fs.length + 1
  | [] => Nat.le_refl _
  | (g, x) :: r => by
    show (if g = f then (g, v) :: r else (g, x) :: putF f v r).length ≤ _
    by_cases h : g = f
    · rw [if_pos h]; simp
    · rw [if_neg h]
      have := putF_len f v r
      simp; omega
theorem few {f : Str} {v : V} {fs : List (Str × V)} {n : Nat} (h : fs.length ≤ n) : (putF f v fs).length ≤ n + 1 := by
  have := putF_len f v fs
  omega
theorem few0 : ([] : List (Str × V)).length ≤ 0 := Nat.le_refl _
/-- an instance made by its __init__: behind it all that stood stands -/
theorem make_same {H1 H2 : Hp} {x dx : Addr} {o : HO} (nx : H1 x = none) (ndx : H1 dx = none) (s : Same (mk [x] (upd (upd H1 dx (.own x)) x o)) H2) : Same H1 H2 := fun b ob e => by
  have nb : b ≠ x := ne_of_none e nx
  have nd : b ≠ dx := ne_of_none e ndx
  refine s b ob ?_
  rw [mk_out (by simpa using nb), upd_ne nb, upd_ne nd]
  exact e
theorem make_mask {H1 : Hp} {x dx : Addr} {o : HO} {M : List Addr} (nx : H1 x = none) (ndx : H1 dx = none) : Same (mk M H1) (mk (x :: M) (upd (upd H1 dx (.own x)) x o)) := fun b ob e => by
  by_cases hm : b ∈ M
  · rw [mk_in hm] at e; cases e
  · rw [mk_out hm] at e
    have nb : b ≠ x := ne_of_none e nx
    rw [mk_out (by simp [nb, hm]), upd_ne nb, upd_ne (ne_of_none e ndx)]
    exact e
theorem make_dom {H1 : Hp} {x dx : Addr} {o : HO} {M : List Addr} (hM : ∀ p ∈ M, H1 p ≠ none) : ∀ p ∈ x :: M, upd (upd H1 dx (.own x)) x o p ≠ none := fun p hp => by
  rcases List.mem_cons.mp hp with e | e
  · subst e; rw [upd_same]; exact fun z => nomatch z
  · exact dom_upd (dom_upd hM) p e
theorem mask1 {M : List Addr} {x : Addr} {H : Hp} {o : HO} : mk (x :: M) (upd H x o) = mk (x :: M) H := mk_upd_in (by simp)
section
variable {P : Program} {w : World} {K : PySem.W.Frag} {mg : Str → Option Value} {base : Heap} {cSt cSg cMa cVe cRl : Addr}
def sp_Store_init (K : PySem.W.Frag) (cSt : Addr) : Sp := fun vs H Q _ => ∃ (M : List Addr) (x dx : Addr) (d : Wd) (vb vc ve : V), vs = [.ref x, .str d.asks, vb, vc, ve] ∧ Wf d ∧ H x = some (.ins cSt dx []) ∧ x ∉ M ∧ (∀ p ∈ M, H p ≠ none) ∧
  dSeq K dInt (mk (x :: M) H) vb d.begins ∧ dSeq K (dSeq K (dSeq K dInt)) (mk (x :: M) H) vc d.costs ∧ dSeq K dInt (mk (x :: M) H) ve d.ends ∧
  ∀ H', Same (mk [x] H) H' → dStore K cSt (mk M H') (.ref x) d → Q .non H'
theorem ini_Store (c : Env K mg cSt cSg cMa cVe cRl) : Ini P w K mg base "Store" cSt 6 P_Store_init (sp_Store_init K cSt) := by
  refine ini_ok c.k_Store sc_Store_init (fun _ _ _ _ _ _ us hl => match us, hl with | [_, _, _, _, _], _ => rfl) (fun vs H Q E h => ?_) (fun f cdv A outer s H vs Q E hr h => ?_)
  · obtain ⟨M, x, dx, d, vb, vc, ve, rfl, wf, hx, hxM, hM, hb, hc, he, q⟩ := h
    rfl
  · obtain ⟨M, x, dx, d, vb, vc, ve, rfl, wf, hx, hxM, hM, hb, hc, he, q⟩ := h
    refine ⟨_, (pss_cons (ps_expr (pe_fn (fn_check_asks c) (hr.mono (by decide)) rfl (pa_cons (pv 1) pa_nil)))
      (pss_cons (ps_if (PW.pt (pw_or (pt_not (pt_val (pe_fn (fn_is_listed c) (hr.mono (by decide)) rfl (pa_cons (pv 2) pa_nil)))) (pw_or (pt_not (pt_chain op_le op_le pe_int (pe_callB (call_len_seqK (K := K)) (by rfl) c.b_len (by decide +kernel) (pa_cons (pv 2) pa_nil)) (pe_globI rfl c.g_MOST_STATES))) (pw_or1 (pt_not (pt_val (pe_fn (fn_integers c) (hr.mono (by decide)) rfl (pa_cons (pv 2) (pa_cons (pe_callB (call_len_seqK (K := K)) (by rfl) c.b_len (by decide +kernel) (pa_cons (pv 2) pa_nil)) pa_nil)))))))))
        (pss_one ps_never)
        pss_nil)
      (pss_cons (ps_if (pt_not (pt_val (pe_fn (fn_are_costs c) (hr.mono (by decide)) rfl (pa_cons (pv 3) (pa_cons (pv 1) (pa_cons (pe_callB (call_len_seqK (K := K)) (by rfl) c.b_len (by decide +kernel) (pa_cons (pv 2) pa_nil)) pa_nil))))))
        (pss_one ps_never)
        pss_nil)
      (pss_cons (ps_if (pt_not (pt_val (pe_fn (fn_integers c) (hr.mono (by decide)) rfl (pa_cons (pv 4) (pa_cons (pe_callB (call_len_seqK (K := K)) (by rfl) c.b_len (by decide +kernel) (pa_cons (pv 2) pa_nil)) pa_nil)))))
        (pss_one ps_never)
        pss_nil)
      (pss_cons (ps_fld (pv 0) (pv 1) rfl)
      (pss_cons (ps_fld (pv 0) (pe_fn (fn_deep c 1) (hr.mono (by decide)) rfl (pa_cons (pv 2) pa_nil)) rfl)
      (pss_cons (ps_fld (pv 0) (pe_fn (fn_deep c 3) (hr.mono (by decide)) rfl (pa_cons (pv 3) pa_nil)) rfl)
      (pss_one (ps_fld (pv 0) (pe_fn (fn_deep c 1) (hr.mono (by decide)) rfl (pa_cons (pv 4) pa_nil)) rfl))))))))), ?_⟩
    obtain ⟨l1, l2⟩ := asks_len wf.asks
    have hpos := wf.pos
    have hle := wf.le
    refine ⟨_, rfl, d.asks, rfl, wf.asks, ?_⟩
    -- begins
    refine ⟨vb, rfl, vb, true, rfl, .inl ⟨rfl, (ty_seq hb).imp (fun h => TyX.upd mk_same h) (fun h => TyX.upd mk_same h)⟩, fun H1 s1 => ⟨true, rfl, iteF ?_⟩⟩
    have hb1 := mS1 _ _ _ _ s1 (mS1 _ _ _ _ mk_same hb)
    refine ⟨vb, rfl, len_of hb1 ⟨_, _, rfl, rfl, _, rfl, iteD (show (1 : Int) ≤ (d.begins.length : Int) by omega) ?_⟩⟩
    refine ⟨_, _, rfl, rfl, _, rfl, iteN1 (show (d.begins.length : Int) ≤ 1000 by omega) ?_⟩
    refine ⟨vb, rfl, vb, rfl, len_of hb1 ⟨vb, d.begins, rfl, hb1, fun H2 s2 => ⟨true, rfl, iteF ?_⟩⟩⟩
    -- costs
    have s12 := s1.trans s2
    have hb2 := mS1 _ _ _ _ s2 hb1
    have hc2 := mS3 _ _ _ _ s12 (mS3 _ _ _ _ mk_same hc)
    refine ⟨vc, rfl, _, rfl, vb, rfl, len_of hb2 ⟨vc, d.asks, d.begins.length, d.costs, rfl, by omega, hc2, wf.cl, wf.sq, fun H3 s3 => ⟨true, rfl, iteF ?_⟩⟩⟩
    -- ends
    have s13 := s12.trans s3
    have hb3 := mS1 _ _ _ _ s3 hb2
    have he3 := mS1 _ _ _ _ s13 (mS1 _ _ _ _ mk_same he)
    refine ⟨ve, rfl, vb, rfl, len_of hb3 ?_⟩
    refine ⟨ve, d.ends, by rw [wf.el]; rfl, he3, fun H4 s4 => ⟨true, rfl, iteF ?_⟩⟩
    have s14 := s13.trans s4
    have cl := c.k_Store.cl
    have hM4 : ∀ p ∈ x :: M, H4 p ≠ none := dom_same (dom_cons hM hx) s14
    -- self.asks
    refine ⟨_, rfl, _, rfl, x, cSt, dx, _, rfl, s14 _ _ hx, cl, c.n_Store_asks, Nat.lt_of_le_of_lt few0 (by decide), ?_⟩
    -- self.begins = deep(begins)
    have m4 : ∀ {o : HO}, mk (x :: M) (upd H4 x o) = mk (x :: M) H4 := mask1
    refine ⟨vb, rfl, x :: M, vb, d.begins, rfl, dom_upd hM4, by rw [m4]; exact mS1 _ _ _ _ (mk_mono s14) hb, ⟨by show d.begins.length ≤ 1000; omega, fun _ _ => trivial⟩, fun ub H5 s5 hub => ?_⟩
    have hub' : dTup K dInt (mk (x :: M) H5) ub d.begins := hub
    have m45 : Same (mk (x :: M) H4) (mk (x :: M) H5) := by rw [← m4]; exact mk_mono s5
    refine ⟨_, rfl, x, cSt, dx, _, rfl, s5 _ _ upd_same, cl, c.n_Store_begins, Nat.lt_of_le_of_lt (few few0) (by decide), ?_⟩
    have m5 : ∀ {o : HO}, mk (x :: M) (upd H5 x o) = mk (x :: M) H5 := mask1
    have hM5 : ∀ p ∈ x :: M, H5 p ≠ none := dom_same (dom_upd hM4) s5
    refine ⟨vc, rfl, x :: M, vc, d.costs, rfl, dom_upd hM5, by rw [m5]; exact mS3 _ _ _ _ m45 (mS3 _ _ _ _ (mk_mono s14) hc), small3 wf, fun uc H6 s6 huc => ?_⟩
    have huc' : dTup K (dTup K (dTup K dInt)) (mk (x :: M) H6) uc d.costs := huc
    have m56 : Same (mk (x :: M) H5) (mk (x :: M) H6) := by rw [← m5]; exact mk_mono s6
    refine ⟨_, rfl, x, cSt, dx, _, rfl, s6 _ _ upd_same, cl, c.n_Store_costs, Nat.lt_of_le_of_lt (few (few few0)) (by decide), ?_⟩
    have m6 : ∀ {o : HO}, mk (x :: M) (upd H6 x o) = mk (x :: M) H6 := mask1
    have hM6 : ∀ p ∈ x :: M, H6 p ≠ none := dom_same (dom_upd hM5) s6
    refine ⟨ve, rfl, x :: M, ve, d.ends, rfl, dom_upd hM6, by rw [m6]; exact mS1 _ _ _ _ m56 (mS1 _ _ _ _ m45 (mS1 _ _ _ _ (mk_mono s14) he)), ⟨by show d.ends.length ≤ 1000; rw [wf.el]; omega, fun _ _ => trivial⟩, fun ue H7 s7 hue => ?_⟩
    have hue' : dTup K dInt (mk (x :: M) H7) ue d.ends := hue
    have m67 : Same (mk (x :: M) H6) (mk (x :: M) H7) := by rw [← m6]; exact mk_mono s7
    refine ⟨_, rfl, x, cSt, dx, _, rfl, s7 _ _ upd_same, cl, c.n_Store_ends, Nat.lt_of_le_of_lt (few (few (few few0))) (by decide), ?_⟩
    have m7 : Same (mk (x :: M) H7) (mk M (upd H7 x (.ins cSt dx (stFs d.asks ub uc ue)))) := fun b o e => by
      by_cases hb : b ∈ x :: M
      · rw [mk_in hb] at e; cases e
      · rw [mk_out hb] at e
        have h1 : b ≠ x := fun z => hb (by simp [z])
        rw [mk_out (fun z => hb (List.mem_cons_of_mem _ z)), upd_ne h1]; exact e
    refine q _ (fun b o e => ?_) ⟨x, dx, stFs d.asks ub uc ue, ub, uc, ue, rfl, by rw [mk_out hxM]; exact upd_same, stFs_asks, stFs_begins, stFs_costs, stFs_ends, ?_, ?_, ?_⟩
    · have nb : b ≠ x := fun z => by rw [z, mk_in (by simp)] at e; cases e
      rw [mk_out (by simpa using nb)] at e
      rw [upd_ne nb]
      refine s7 _ _ ?_
      rw [upd_ne nb]
      refine s6 _ _ ?_
      rw [upd_ne nb]
      refine s5 _ _ ?_
      rw [upd_ne nb]
      exact s14 _ _ e
    · exact mT1 _ _ _ _ m7 (mT1 _ _ _ _ m67 (mT1 _ _ _ _ m56 hub'))
    · exact mT3 _ _ _ _ m7 (mT3 _ _ _ _ m67 huc')
    · exact mT1 _ _ _ _ m7 hue'
end
end AW
namespace AW
open PySem PySem.Spec PyProof.Rows L2
theorem cut1 (xs : List V) : cutV xs (some 1) none = xs.drop 1 := by
  unfold cutV
  rw [show HT.sIx xs.length 0 (some 1) = min 1 xs.length from HT.sIx_nat xs.length 0 1, HT.sIx_none]
  cases xs with
  | nil => rfl
  | cons x r =>
    rw [show min 1 (x :: r).length = 1 by
      rw [List.length_cons]
      omega]
    show (List.take ((x :: r).length - 1) r) = r
    rw [List.length_cons, Nat.add_sub_cancel]
    exact List.take_length
/-- the attributes of a store, as they are read -/
theorem st_begins {K : PySem.W.Frag} {cSt : Addr} {M : List Addr} {H : Hp} {v : V} {d : Wd} {Q : VK} (cl : Cls K cSt) (n : NoAttr K cSt "begins") (h : dStore K cSt (mk M H) v d) (q : ∀ u, dTup K dInt (mk M H) u d.begins → Q u H) : rFldQ K "begins" v H Q := by
  unfold rFldQ
  obtain ⟨a, dx, fs, vb, vc, ve, e, h0, h1, h2, h3, h4, h5, h6, h7⟩ := h
  exact ⟨a, cSt, dx, fs, _, e, mk_same _ _ h0, cl, n, h2, q _ h5⟩
theorem st_costs {K : PySem.W.Frag} {cSt : Addr} {M : List Addr} {H : Hp} {v : V} {d : Wd} {Q : VK} (cl : Cls K cSt) (n : NoAttr K cSt "costs") (h : dStore K cSt (mk M H) v d) (q : ∀ u, dTup K (dTup K (dTup K dInt)) (mk M H) u d.costs → Q u H) : rFldQ K "costs" v H Q := by
  unfold rFldQ
  obtain ⟨a, dx, fs, vb, vc, ve, e, h0, h1, h2, h3, h4, h5, h6, h7⟩ := h
  exact ⟨a, cSt, dx, fs, _, e, mk_same _ _ h0, cl, n, h3, q _ h6⟩
theorem st_ends {K : PySem.W.Frag} {cSt : Addr} {M : List Addr} {H : Hp} {v : V} {d : Wd} {Q : VK} (cl : Cls K cSt) (n : NoAttr K cSt "ends") (h : dStore K cSt (mk M H) v d) (q : ∀ u, dTup K dInt (mk M H) u d.ends → Q u H) : rFldQ K "ends" v H Q := by
  unfold rFldQ
  obtain ⟨a, dx, fs, vb, vc, ve, e, h0, h1, h2, h3, h4, h5, h6, h7⟩ := h
  exact ⟨a, cSt, dx, fs, _, e, mk_same _ _ h0, cl, n, h4, q _ h7⟩
theorem st_asks {K : PySem.W.Frag} {cSt : Addr} {M : List Addr} {H : Hp} {v : V} {d : Wd} {Q : VK} (cl : Cls K cSt) (n : NoAttr K cSt "asks") (h : dStore K cSt (mk M H) v d) (q : Q (.str d.asks) H) : rFldQ K "asks" v H Q := by
  unfold rFldQ
  obtain ⟨a, dx, fs, vb, vc, ve, e, h0, h1, h2, h3, h4, h5, h6, h7⟩ := h
  exact ⟨a, cSt, dx, fs, _, e, mk_same _ _ h0, cl, n, h1, q⟩
/-- what is data behind the mask is data -/
theorem off {α : Type} {R : DR α} (m : Mono R) {M : List Addr} {H : Hp} {v : V} {x : α} (h : R (mk M H) v x) : R H v x := m _ _ _ _ mk_same h
theorem rowTab_snoc (costs : List Tab) (k : Nat) (ks : List Nat) (i : Nat) (hi : i < ks.length) : rowTab costs (k :: ks.take (i + 1)) = joined (rowTab costs (k :: ks.take i)) (costs.getD (ks.getD i 0) []) := by
  show ((ks.take (i + 1)).foldl _ _) = joined ((ks.take i).foldl _ _) _
  have e : ks.getD i 0 = ks[i] := by rw [List.getD_eq_getElem?_getD, List.getElem?_eq_getElem hi]; rfl
  rw [List.take_add_one, List.getElem?_eq_getElem hi, List.foldl_append, e]
  rfl
section
variable {P : Program} {w : World} {K : PySem.W.Frag} {mg : Str → Option Value} {base : Heap} {cSt cSg cMa cVe cRl : Addr}
def sp_row_table (K : PySem.W.Frag) (cSt : Addr) : Sp := fun vs H Q _ => ∃ (M : List Addr) (v : V) (d : Wd) (ks : List Nat), vs = [v, .str (rowS d.asks ks)] ∧ Wf d ∧ (∀ p ∈ M, H p ≠ none) ∧ dStore K cSt (mk M H) v d ∧ ks ≠ [] ∧ (∀ k ∈ ks, k < d.asks.cps.size) ∧ ks.length ≤ 100 ∧
  Ret M H (dSeq K (dSeq K dInt)) (rowTab d.costs ks) Q
theorem fn_row_table (c : Env K mg cSt cSg cMa cVe cRl) : Fn P w K mg base "row_table" 3 P_row_table (sp_row_table K cSt) := by
  refine fn_ok c.d_row_table sc_row_table (fun _ _ _ _ _ _ us hl => match us, hl with | [_, _], _ => rfl) (fun vs H Q E h => ?_) (fun f cdv A outer s H vs Q E hr h => ?_)
  · obtain ⟨M, v, d, ks, rfl, wf, hM, hd, hne, hk, hl, q⟩ := h
    rfl
  · obtain ⟨M, v, d, ks, rfl, wf, hM, hd, hne, hk, hl, q⟩ := h
    refine ⟨_, (pss_cons (ps_set (i := 2) sc_row_table.nd rfl (Or.inl rfl) (pe_fn (fn_numbers_of c) (hr.mono (by decide)) rfl (pa_cons (pe_fldK (K := K) (pv 0)) (pa_cons (pv 1) pa_nil))))
      (pss_cons (ps_set (i := 3) sc_row_table.nd rfl (Or.inl rfl) (pe_ix (ix_seqK (K := K)) (pe_fldK (K := K) (pv 0)) (pe_ix (ix_seqK (K := K)) (pv 2) pe_int (fun _ _ => rfl)) (fun _ _ => rfl)))
      (pss_cons (ps_for PassesOwn.never rfl (pi_listK (K := K) (pe_slice (sl_listK (K := K)) (pv 2) (po_some pe_int) po_none)) (pg_name (i := 4) sc_row_table.nd rfl (Or.inl rfl))
        (pss_one (ps_set (i := 3) sc_row_table.nd rfl (Or.inl rfl) (pe_fn (fn_joined_tables c) (hr.mono (by decide)) rfl (pa_cons (pv 3) (pa_cons (pe_ix (ix_seqK (K := K)) (pe_fldK (K := K) (pv 0)) (pv 4) (fun _ _ => rfl)) pa_nil))))))
      (pss_one (ps_ret (pv 3)))))), ?_⟩
    have cl := c.k_Store.cl
    refine ⟨v, rfl, st_asks cl c.n_Store_asks hd ?_⟩
    refine ⟨_, rfl, d.asks, ks, rfl, wf.asks, hk, by omega, fun L H1 s1 nL hL => ?_⟩
    have hd1 := dStore_mono _ _ _ _ (mk_mono (M := M) s1) hd
    have hM1 := dom_same hM s1
    cases ks with
    | nil => exact (hne rfl).elim
    | cons k ks =>
    have hkc : k < d.costs.length := by rw [wf.cl]; exact hk k (by simp)
    have hpos := wf.pos
    have hle := wf.le
    -- table = store.costs[numbers[0]]
    refine ⟨v, rfl, st_costs cl c.n_Store_costs hd1 fun uc hc => ?_⟩
    refine ⟨_, rfl, ixL_of hL (j := 0) rfl rfl ?_⟩
    refine ixm_of (seq_tup hc) (j := k) rfl (getD_some hkc []) fun ut hut => ?_
    -- for number in numbers[1:]
    refine ⟨_, rfl, 1, rfl, L, _, rfl, .inl (.inl hL), fun L2 nL2 => ?_⟩
    have s2 : Same H1 (upd H1 L2 (.lst (cutV (((k :: ks).map fun (k : Nat) => (k : Int)).map V.int) (some 1) none))) := same_upd nL2
    have eL2 : cutV (((k :: ks).map fun (k : Nat) => (k : Int)).map V.int) (some 1) none = (ks.map fun (k : Nat) => (k : Int)).map V.int := cut1 _
    rw [eL2] at s2 ⊢
    generalize hH2 : upd H1 L2 (.lst ((ks.map fun (k : Nat) => (k : Int)).map V.int)) = H2 at s2 ⊢
    have hL2 : H2 L2 = some (.lst ((ks.map fun (k : Nat) => (k : Int)).map V.int)) := by rw [← hH2]; exact upd_same
    refine ⟨_, rfl, ⟨_, .inl (.inl hL2)⟩, ?_⟩
    have sq0 : Sq d.begins.length (d.costs.getD k []) := (show _ ∧ _ from ⟨wf.sq _ (List.mem_of_getElem? (getD_some hkc [])), trivial⟩).1
    refine for_list (K := K) (a := L2) (xs := (ks.map fun (k : Nat) => (k : Int)).map V.int) (fun i σ H' => ∃ vt x4, σ = [some v, some (.str (rowS d.asks (k :: ks))), some (.ref L), some vt, x4] ∧ Same H2 H' ∧ dSeq K (dSeq K dInt) (mk M H') vt (rowTab d.costs (k :: ks.take i)))
      ⟨ut, none, rfl, Same.refl _, mS2 _ _ _ _ (mk_mono s2) (seq2 hut)⟩ (fun i σ H' _ ⟨_, _, _, s, _⟩ => s.seq (.inl (.inl hL2))) ?_ ?_
    · rintro i x σ H3 hi ⟨vt, x4, rfl, s3, ht⟩
      have hlt : i < ks.length := by
        have := (List.getElem?_eq_some_iff.mp hi).1
        simpa using this
      have ex : x = .int ((ks.getD i 0 : Nat) : Int) := by
        simp only [List.getElem?_map, getD_some hlt 0] at hi
        exact (Option.some.inj hi).symm
      subst ex
      have hki : ks.getD i 0 < d.costs.length := by
        rw [wf.cl]
        exact hk _ (List.mem_cons_of_mem _ (List.mem_of_getElem? (getD_some hlt 0)))
      have hd3 := dStore_mono _ _ _ _ (mk_mono (M := M) (s2.trans s3)) hd1
      have hM3 := dom_same hM1 (s2.trans s3)
      refine ⟨_, rfl, v, rfl, st_costs cl c.n_Store_costs hd3 fun uc3 hc3 => ?_⟩
      refine ⟨_, rfl, ixm_of (seq_tup hc3) (j := ks.getD i 0) rfl (getD_some hki []) fun u3 hu3 => ?_⟩
      refine ⟨M, d.begins.length, vt, u3, rowTab d.costs (k :: ks.take i), d.costs.getD (ks.getD i 0) [], rfl, hM3, ht, seq2 hu3, hpos, hle, ?_, wf.sq _ (List.mem_of_getElem? (getD_some hki [])), fun vr H4 s4 hr => ?_⟩
      · refine rowTab_sq wf.sq (by simp) fun j hj => ?_
        rw [wf.cl]
        rcases List.mem_cons.mp hj with e | e
        · subst e; exact hk _ (by simp)
        · exact hk j (List.mem_cons_of_mem _ (List.mem_of_mem_take e))
      · refine ⟨vr, some (.int ((ks.getD i 0 : Nat) : Int)), rfl, s3.trans s4, ?_⟩
        rw [rowTab_snoc d.costs k ks i hlt]
        exact dSeq_imp (seq_lst hr) fun u x _ => seq_lst
    · rintro σ H3 ⟨vt, x4, rfl, s3, ht⟩
      refine ⟨_, rfl, q _ _ (s1.trans (s2.trans s3)) ?_⟩
      rw [List.length_map, List.length_map, List.take_length] at ht
      exact ht
end
end AW
namespace AW
open PySem PySem.Spec PyProof.Rows L2
theorem rowS_ne {A : Str} {ks : List Nat} (h : ks ≠ []) : ¬ V.str (rowS A ks) = V.str "" := fun e => by
  injection e with e
  have h2 := rowS_size A ks
  rw [e] at h2
  have : ks.length = 0 := by rw [← h2]; rfl
  exact h (List.length_eq_zero_iff.mp this)
/-- a row over the asks A -/
def dRow (A : Str) : DR (List Nat) := fun _ v r => v = .str (rowS A r)
theorem dRow_mono (A : Str) : Mono (dRow A) := fun _ _ _ _ _ h => h
def putD (d : Wd) (F : Str) (R : List (List Nat)) : Wd := ⟨F, d.begins, R.map (rowTab d.costs), d.ends⟩
structure RowsOk (d : Wd) (F : Str) (R : List (List Nat)) : Prop where
  asks : Asks F
  len : R.length = F.cps.size
  all : ∀ r ∈ R, r ≠ [] ∧ (∀ k ∈ r, k < d.asks.cps.size) ∧ r.length ≤ 100
theorem putD_wf {d : Wd} {F : Str} {R : List (List Nat)} (wf : Wf d) (h : RowsOk d F R) : Wf (putD d F R) :=
  ⟨h.asks, wf.pos, wf.le, by show (R.map _).length = _; rw [List.length_map]; exact h.len, fun t ht => by
    obtain ⟨r, hr, rfl⟩ := List.mem_map.mp ht
    exact rowTab_sq wf.sq (h.all r hr).1 fun k hk => by rw [wf.cl]; exact (h.all r hr).2.1 k hk, wf.el⟩
section
variable {P : Program} {w : World} {K : PySem.W.Frag} {mg : Str → Option Value} {base : Heap} {cSt cSg cMa cVe cRl : Addr}
def sp_put_for (K : PySem.W.Frag) (cSt : Addr) : Sp := fun vs H Q _ => ∃ (M : List Addr) (v vr : V) (d : Wd) (F : Str) (R : List (List Nat)), vs = [v, .str F, vr] ∧ Wf d ∧ RowsOk d F R ∧ (∀ p ∈ M, H p ≠ none) ∧ dStore K cSt (mk M H) v d ∧ dLst K (dRow d.asks) (mk M H) vr R ∧
  Ret M H (dStore K cSt) (putD d F R) Q
theorem fn_put_for (c : Env K mg cSt cSg cMa cVe cRl) : Fn P w K mg base "put_for" 8 P_put_for (sp_put_for K cSt) := by
  refine fn_ok c.d_put_for sc_put_for (fun _ _ _ _ _ _ us hl => match us, hl with | [_, _, _], _ => rfl) (fun vs H Q E h => ?_) (fun f cdv A outer s H vs Q E hr h => ?_)
  · obtain ⟨M, v, vr, d, F, R, rfl, wf, ro, hM, hd, hr0, q⟩ := h
    rfl
  · obtain ⟨M, v, vr, d, F, R, rfl, wf, ro, hM, hd, hr0, q⟩ := h
    refine ⟨_, (pss_cons (ps_expr (pe_fn (fn_check_asks c) (hr.mono (by decide)) rfl (pa_cons (pv 1) pa_nil)))
      (pss_cons (ps_if (PW.pt (pw_or (pt_not (pt_val (pe_fn (fn_is_listed c) (hr.mono (by decide)) rfl (pa_cons (pv 2) pa_nil)))) (pw_or1 (pt_cmpR op_ne (pe_callB (call_len_seqK (K := K)) (by rfl) c.b_len (by decide +kernel) (pa_cons (pv 2) pa_nil)) (pe_callB call_len_str (by rfl) c.b_len (by decide +kernel) (pa_cons (pv 1) pa_nil)) (nomark _)))))
        (pss_one ps_never)
        pss_nil)
      (pss_cons (ps_for PassesOwn.never rfl (pi_listK (K := K) (pv 2)) (pg_name (i := 3) sc_put_for.nd rfl (Or.inl rfl))
        (pss_one (ps_if (PW.pt (pw_or (pt_not (pt_val (pe_fn (fn_row_over c) (hr.mono (by decide)) rfl (pa_cons (pe_fldK (K := K) (pv 0)) (pa_cons (pv 3) pa_nil))))) (pw_or1 (pt_cmpR op_eq (pv 3) pe_str (nomark _)))))
          (pss_one ps_never)
          pss_nil)))
      (pss_one (ps_ret (pe_ini (ini_Store c) (hr.mono (by decide)) rfl (pa_cons (pv 1) (pa_cons (pe_fldK (K := K) (pv 0)) (pa_cons (pe_lc (own := [("row", 3)]) (g := gName 3) (tt := tYes) rfl sc_put_for.nd (pi_listK (K := K) (pv 2)) (blkOk_by (N := N_put_for) (sc := defScope s_put_for) (own := [("row", 3)]) (by decide +kernel)) (fun _ _ _ _ _ => (pg_name (i := 3) sc_put_for.nd rfl (by first | exact Or.inl rfl | exact Or.inr rfl))) (fun _ _ _ _ _ => pts_nil) (fun _ _ _ _ _ => (pe_fn (fn_row_table c) (hr.mono (by decide)) rfl (pa_cons (pv 0) (pa_cons (pv 3) pa_nil))))) (pa_cons (pe_fldK (K := K) (pv 0)) pa_nil)))))))))), ?_⟩
    have cl := c.k_Store.cl
    refine ⟨_, rfl, F, rfl, ro.asks, ?_⟩
    refine ⟨_, rfl, vr, true, rfl, .inl ⟨rfl, (ty_seq (seq_lst hr0)).imp (fun h => TyX.upd mk_same h) (fun h => TyX.upd mk_same h)⟩, fun H1 s1 => ⟨true, rfl, iteF ?_⟩⟩
    have hd1 := dStore_mono _ _ _ _ (mk_mono (M := M) s1) hd
    have hM1 := dom_same hM s1
    have hr1 := dLst_mono (K := K) (dRow_mono d.asks) _ _ _ _ (mk_mono (M := M) s1) hr0
    obtain ⟨lF1, lF2⟩ := asks_len ro.asks
    refine ⟨_, rfl, len_of (seq_lst (off (dLst_mono (dRow_mono d.asks)) hr1)) ?_⟩
    rw [ro.len]
    refine ⟨_, rfl, F, rfl, le_ok (by omega), rfl, _, rfl, iteN1 rfl ?_⟩
    obtain ⟨a, us, rfl, hq, p⟩ := id hr1
    have hlen := Paired.length p
    have hsz : F.cps.size ≤ 3 := lF2
    have hrl := ro.len
    -- for row in rows
    refine ⟨_, rfl, a, rfl, ⟨_, mk_same.seq hq⟩, ?_⟩
    refine for_list (K := K) (a := a) (xs := us) (fun i σ H' => ∃ x3, σ = [some v, some (.str F), some (.ref a), x3] ∧ H' = H1) ⟨none, rfl, rfl⟩ (fun i σ H' _ ⟨_, _, e⟩ => by rw [e]; exact mk_same.seq hq) ?_ ?_
    · rintro i x σ H2 hi ⟨x3, rfl, rfl⟩
      obtain ⟨r, hr, e⟩ := pget p hi
      have e' : x = .str (rowS d.asks r) := e
      subst e'
      obtain ⟨r1, r2, r3⟩ := ro.all r (List.mem_of_getElem? hr)
      refine ⟨v, rfl, st_asks cl c.n_Store_asks hd1 ⟨_, rfl, d.asks, r, rfl, r2, by omega, true, rfl, iteF ?_⟩⟩
      exact ⟨_, rfl, rfl, _, rfl, iteND (rowS_ne r1) ⟨_, rfl, rfl⟩⟩
    · rintro σ H2 ⟨x3, rfl, rfl⟩
      -- return Store(..)
      refine ⟨_, rfl, v, rfl, st_begins cl c.n_Store_begins hd1 fun ub hb => ?_⟩
      refine ⟨_, rfl, a, rfl, ⟨_, mk_same.seq hq⟩, fun D hD => ?_⟩
      refine lc_map (j := 3) (M := M) (σ := [some v, some (.str F), some (.ref a), x3]) walk_list (S := dRow d.asks) (R := dSeq K (dSeq K dInt)) (rowTab d.costs) (dRow_mono _) mS2 p hD hM1 (by omega) (fun H3 s3 => s3.seq (mk_same.seq hq)) (fun u r H3 hr s3 m3 hu hM3 Q2 q2 => ?_) (fun H3 s3 ⟨ys, h3, p3⟩ => ?_)
      · have e' : u = .str (rowS d.asks r) := hu
        subst e'
        obtain ⟨r1, r2, r3⟩ := ro.all r hr
        exact ⟨v, rfl, _, rfl, D :: M, v, d, r, rfl, wf, hM3, dStore_mono _ _ _ _ m3 hd1, r1, r2, r3, q2⟩
      · have hd3 := dStore_mono _ _ _ _ (mk_mono (M := M) s3) hd1
        refine ⟨v, rfl, st_ends cl c.n_Store_ends hd3 fun ue he => fun x dx nx ndx ned => ?_⟩
        have mm : Same (mk M H3) (mk (x :: M) (upd (upd H3 dx (.own x)) x (.ins cSt dx []))) := make_mask nx ndx
        have hD3 : D ∉ M := notin_of hM1 hD
        refine ⟨M, x, dx, putD d F R, ub, .ref D, ue, rfl, putD_wf wf ro, upd_same, notin_of (dom_same hM1 s3) nx, dom_upd (dom_upd (dom_same hM1 s3)), mS1 _ _ _ _ mm (mS1 _ _ _ _ (mk_mono s3) (seq_tup hb)), ?_, mS1 _ _ _ _ mm (seq_tup he), fun H4 s4 hd4 => ⟨rfl, ?_⟩⟩
        · refine mS3 _ _ _ _ mm (seq_lst ⟨D, ys, rfl, .inl (.inl ?_), p3⟩)
          rw [mk_out hD3]; exact h3
        · exact q _ _ (s1.trans (s3.trans (make_same nx ndx s4))) hd4
/-! ### standings -/
structure Sd where
  lots : List (List Int)
  rows : List (List Nat)
  steps : Steps
/-- pairs of a kind and a number -/
abbrev dSteps (K : PySem.W.Frag) : DR Steps := dTup K (dTup K (dPair K dNat dInt))
theorem mPair {K : PySem.W.Frag} : Mono (dPair K dNat dInt) := dPair_mono dNat_mono dInt_mono
theorem mSteps {K : PySem.W.Frag} : Mono (dSteps K) := dTup_mono (dTup_mono mPair)
def dStand (K : PySem.W.Frag) (cSg : Addr) (A : Str) : DR Sd := fun H v d => ∃ a dx fs vl vr vs, v = .ref a ∧ H a = some (.ins cSg dx fs) ∧ fs.lookup ("lots" : Str) = some vl ∧ fs.lookup ("rows" : Str) = some vr ∧ fs.lookup ("steps" : Str) = some vs ∧
  dTup K (dTup K dInt) H vl d.lots ∧ dTup K (dRow A) H vr d.rows ∧ dSteps K H vs d.steps
def sgFs (vl vr vs : V) : List (Str × V) := putF "steps" vs (putF "rows" vr (putF "lots" vl []))
theorem sgFs_lots {vl vr vs : V} : (sgFs vl vr vs).lookup ("lots" : Str) = some vl := by
  unfold sgFs
  rw [lookup_putF, if_neg (by decide +kernel), lookup_putF, if_neg (by decide +kernel), lookup_putF, if_pos rfl]
theorem sgFs_rows {vl vr vs : V} : (sgFs vl vr vs).lookup ("rows" : Str) = some vr := by
  unfold sgFs
  rw [lookup_putF, if_neg (by decide +kernel), lookup_putF, if_pos rfl]
theorem sgFs_steps {vl vr vs : V} : (sgFs vl vr vs).lookup ("steps" : Str) = some vs := by
  unfold sgFs
  rw [lookup_putF, if_pos rfl]
def sp_Standings_init (K : PySem.W.Frag) (cSg : Addr) : Sp := fun vs H Q _ => ∃ (x dx : Addr) (vl vr vt : V), vs = [.ref x, vl, vr, vt] ∧ H x = some (.ins cSg dx []) ∧ Q .non (upd H x (.ins cSg dx (sgFs vl vr vt)))
theorem ini_Standings (c : Env K mg cSt cSg cMa cVe cRl) : Ini P w K mg base "Standings" cSg 1 P_Standings_init (sp_Standings_init K cSg) := by
  refine ini_ok c.k_Standings sc_Standings_init (fun _ _ _ _ _ _ us hl => match us, hl with | [_, _, _, _], _ => rfl) (fun vs H Q E h => ?_) (fun f cdv A outer s H vs Q E hr h => ?_)
  · obtain ⟨x, dx, vl, vr, vt, rfl, hx, q⟩ := h
    rfl
  · obtain ⟨x, dx, vl, vr, vt, rfl, hx, q⟩ := h
    refine ⟨_, (pss_cons (ps_fld (pv 0) (pv 1) rfl)
      (pss_cons (ps_fld (pv 0) (pv 2) rfl)
      (pss_one (ps_fld (pv 0) (pv 3) rfl)))), ?_⟩
    have cl := c.k_Standings.cl
    refine ⟨_, rfl, _, rfl, x, cSg, dx, _, rfl, hx, cl, c.n_Standings_lots, Nat.lt_of_le_of_lt few0 (by decide), ?_⟩
    refine ⟨_, rfl, _, rfl, x, cSg, dx, _, rfl, upd_same, cl, c.n_Standings_rows, Nat.lt_of_le_of_lt (few few0) (by decide), ?_⟩
    refine ⟨_, rfl, _, rfl, x, cSg, dx, _, rfl, upd_same, cl, c.n_Standings_steps, Nat.lt_of_le_of_lt (few (few few0)) (by decide), ?_⟩
    rw [upd_upd, upd_upd]
    exact q
end
end AW
namespace AW
open PySem PySem.Spec PyProof.Rows L2
/-! ### ways that meet behind an if -/
def tCutW (t u : TS) : TS := fun D σ H => ∃ Mid : L2.St → Hp → Prop, t { D with nx := Mid } σ H ∧ ∀ σ' H', Mid σ' H' → u D σ' H'
theorem pss_cutW {X : Cx} {st : Stmt} {rest : List Stmt} {t u : TS} (h1 : PS X st t) (h2 : PSs X rest u) : PSs X (st :: rest) (tCutW t u) := by
  have h3 := pss_cons h1 h2
  refine ⟨fun pins s σ H D I h => ?_⟩
  obtain ⟨Mid, k1, k2⟩ := h
  refine wpAny_execs_cons (thn (h1.run pins s σ H _ I k1) fun f s1 q1 => ?_)
  cases f with
  | next =>
    obtain ⟨σ', H', I', m⟩ := q1
    exact h2.run pins s1 σ' H' D I' (k2 σ' H' m)
  | brk => exact q1
  | cont => exact q1
  | ret v => exact q1
/-! ### dicts that number their keys -/
section
variable {κ : Type} [DecidableEq κ]
def kvsO : Nat → List κ → List (κ × V)
  | _, [] => []
  | o, k :: ks => (k, .int (o : Int)) :: kvsO (o + 1) ks
def kvsI (ks : List κ) : List (κ × V) := kvsO 0 ks
theorem kvsO_len : ∀ (o : Nat) (ks : List κ), (kvsO o ks).length = ks.length
  | _, [] => rfl
  | o, k :: ks => by show (kvsO (o + 1) ks).length + 1 = ks.length + 1; rw [kvsO_len]
theorem kvsI_len (ks : List κ) : (kvsI ks).length = ks.length := kvsO_len 0 ks
theorem valV_kvsO_none {k : κ} : ∀ (o : Nat) (ks : List κ), k ∉ ks → valV (kvsO o ks) k = none
  | _, [], _ => rfl
  | o, j :: ks, h => by
    show valV ((j, V.int (o : Int)) :: kvsO (o + 1) ks) k = none
    rw [valV_neg (fun e => h (by simp [show j = k from e])), valV_kvsO_none (o + 1) ks fun q => h (by simp [q])]
theorem valV_kvsO_some {k : κ} : ∀ (o : Nat) (ks : List κ) (i : Nat), ks.Nodup → ks[i]? = some k → valV (kvsO o ks) k = some (.int ((o + i : Nat) : Int))
  | _, [], _, _, h => by simp at h
  | o, j :: ks, 0, nd, h => by
    simp at h
    subst h
    show valV ((j, V.int (o : Int)) :: kvsO (o + 1) ks) j = _
    rw [valV_pos rfl]
    rfl
  | o, j :: ks, i + 1, nd, h => by
    rw [List.nodup_cons] at nd
    have h' : ks[i]? = some k := by simpa using h
    have hne : ¬ j = k := fun e => nd.1 (e ▸ List.mem_of_getElem? h')
    show valV ((j, V.int (o : Int)) :: kvsO (o + 1) ks) k = _
    rw [valV_neg hne, valV_kvsO_some (o + 1) ks i nd.2 h']
    congr 3
    omega
theorem valV_none {k : κ} {ks : List κ} (h : k ∉ ks) : valV (kvsI ks) k = none := valV_kvsO_none 0 ks h
theorem valV_some {k : κ} {ks : List κ} {i : Nat} (nd : ks.Nodup) (h : ks[i]? = some k) : valV (kvsI ks) k = some (.int (i : Int)) := by
  have := valV_kvsO_some 0 ks i nd h
  rw [Nat.zero_add] at this
  exact this
theorem kvsO_snoc (k : κ) : ∀ (o : Nat) (ks : List κ), kvsO o ks ++ [(k, V.int ((o + ks.length : Nat) : Int))] = kvsO o (ks ++ [k])
  | o, [] => rfl
  | o, j :: ks => by
    show (j, V.int (o : Int)) :: (kvsO (o + 1) ks ++ _) = (j, V.int (o : Int)) :: kvsO (o + 1) (ks ++ [k])
    rw [← kvsO_snoc k (o + 1) ks]
    rw [show o + (j :: ks).length = o + 1 + ks.length by simp; omega]
theorem putK_kvsI {k : κ} {ks : List κ} (h : k ∉ ks) : putK (kvsI ks) k (.int (ks.length : Int)) = kvsI (ks ++ [k]) := by
  rw [putK_new _ (valV_none h)]
  have := kvsO_snoc k 0 ks
  rw [Nat.zero_add] at this
  exact this
end
/-! ### lots as keys -/
def lotKey (l : List Int) : NestedKey := .tup (l.map .num)
theorem lotKey_inj {a b : List Int} (h : lotKey a = lotKey b) : a = b := by
  injection h with h
  have : ∀ (a b : List Int), a.map NestedKey.num = b.map NestedKey.num → a = b := by
    intro a
    induction a with
    | nil => intro b h; cases b with
      | nil => rfl
      | cons _ _ => cases h
    | cons x a ih => intro b h; cases b with
      | nil => cases h
      | cons y b =>
        rw [List.map_cons, List.map_cons] at h
        injection h with h1 h2
        injection h1 with h1
        rw [h1, ih b h2]
  exact this a b h
theorem depthAll_num : ∀ (l : List Int), NestedKey.depthAll (l.map .num) ≤ 1
  | [] => by show NestedKey.depthAll [] ≤ 1; simp [NestedKey.depthAll]
  | x :: l => by
    have := depthAll_num l
    show NestedKey.depthAll (.num x :: l.map .num) ≤ 1
    simp [NestedKey.depthAll, NestedKey.depth]
    omega
theorem lotKey_depth (l : List Int) : (lotKey l).depth ≤ 8 := by
  have := depthAll_num l
  unfold lotKey
  simp [NestedKey.depth]
  omega
theorem nks_num {K : PySem.W.Frag} {H : Hp} : ∀ (l : List Int), NKs K H (l.map .num) (l.map V.int)
  | [] => .nil
  | x :: l => .cons (.num x) (nks_num l)
theorem nk_lot {K : PySem.W.Frag} {H : Hp} {a : Addr} {l : List Int} (h : SqT K H a (l.map V.int)) : NK K H (lotKey l) (.ref a) := .tup h (nks_num l)
theorem nk_lot' {K : PySem.W.Frag} {H : Hp} {u : V} {l : List Int} (h : dTup K dInt H u l) : ∃ a, u = .ref a ∧ NK K H (lotKey l) (.ref a) := by
  obtain ⟨a, vs, e, hq, p⟩ := h
  cases ints_of p
  exact ⟨a, e, nk_lot hq⟩
theorem mem_lotKey {lots : List (List Int)} {l : List Int} : lotKey l ∈ lots.map lotKey ↔ l ∈ lots := by
  constructor
  · intro h
    obtain ⟨x, hx, e⟩ := List.mem_map.mp h
    rw [← lotKey_inj e]; exact hx
  · exact fun h => List.mem_map.mpr ⟨l, h, rfl⟩
theorem nodup_lotKey {lots : List (List Int)} (h : lots.Nodup) : (lots.map lotKey).Nodup := by
  induction lots with
  | nil => exact List.nodup_nil
  | cons l lots ih =>
    rw [List.nodup_cons] at h
    rw [List.map_cons, List.nodup_cons]
    exact ⟨fun q => h.1 (mem_lotKey.mp q), ih h.2⟩
/-! ### what holds while standings are found -/
def StepOk (costs : List Tab) (lots : List (List Int)) (lot : List Int) (j : Nat) (s : Nat × Int) : Prop := lots[s.1]? = some (low (led lot (costs.getD j []))) ∧ s.2 = mn (led lot (costs.getD j []))
theorem StepOk.ext {costs : List Tab} {lots : List (List Int)} {lot : List Int} {j : Nat} {s : Nat × Int} (h : StepOk costs lots lot j s) (m : List (List Int)) : StepOk costs (lots ++ m) lot j s :=
  ⟨by rw [List.getElem?_append_left (List.getElem?_eq_some_iff.mp h.1).1]; exact h.1, h.2⟩
def RowOk (A : Nat) (costs : List Tab) (lots : List (List Int)) (lot : List Int) (row : List (Nat × Int)) : Prop := row.length = A ∧ ∀ j s, row[j]? = some s → StepOk costs lots lot j s
structure LotsOk (n A : Nat) (costs : List Tab) (b0 : List Int) (S lots : List (List Int)) (steps : Steps) : Prop where
  nd : lots.Nodup
  sub : ∀ l ∈ lots, l ∈ S
  zero : lots[0]? = some (low b0)
  all : ∀ l ∈ lots, l.length = n
  it : ∀ i row, steps[i]? = some row → RowOk A costs lots (lots.getD i []) row
  sl : steps.length ≤ lots.length
theorem LotsOk.done {n A : Nat} {costs : List Tab} {b0 : List Int} {S lots : List (List Int)} {steps : Steps} (h : LotsOk n A costs b0 S lots steps) (e : steps.length = lots.length) : StOk A n costs b0 lots steps := by
  refine ⟨h.zero, e, h.all, fun i hi => ?_⟩
  have hr := getD_some (xs := steps) (i := i) (by omega) []
  obtain ⟨h1, h2⟩ := h.it i _ hr
  refine ⟨h1, fun k hk => ?_⟩
  have hs := getD_some (xs := steps.getD i []) (i := k) (by omega) (0, 0)
  obtain ⟨h3, h4⟩ := h2 k _ hs
  exact ⟨(List.getElem?_eq_some_iff.mp h3).1, h3, h4⟩
theorem getD_app {α : Type} {xs : List α} {i : Nat} {d : α} (h : i < xs.length) (m : List α) : (xs ++ m).getD i d = xs.getD i d := by
  rw [List.getD_eq_getElem?_getD, List.getD_eq_getElem?_getD, List.getElem?_append_left h]
/-- a new lot -/
theorem LotsOk.more {n A : Nat} {costs : List Tab} {b0 : List Int} {S lots : List (List Int)} {steps : Steps} (h : LotsOk n A costs b0 S lots steps) {l : List Int} (hn : l ∉ lots) (hS : l ∈ S) (hl : l.length = n) : LotsOk n A costs b0 S (lots ++ [l]) steps := by
  refine ⟨?_, ?_, ?_, ?_, fun i row hr => ?_, ?_⟩
  · rw [List.nodup_append]
    exact ⟨h.nd, by simp, fun a ha b hb => by simp at hb; subst hb; exact fun e => hn (e ▸ ha)⟩
  · intro x hx
    rcases List.mem_append.mp hx with q | q
    · exact h.sub x q
    · simp at q; subst q; exact hS
  · rw [List.getElem?_append_left (List.getElem?_eq_some_iff.mp h.zero).1]; exact h.zero
  · intro x hx
    rcases List.mem_append.mp hx with q | q
    · exact h.all x q
    · simp at q; subst q; exact hl
  · obtain ⟨h1, h2⟩ := h.it i row hr
    have hi := (List.getElem?_eq_some_iff.mp hr).1
    have := h.sl
    rw [getD_app (by omega)]
    exact ⟨h1, fun j s hs => (h2 j s hs).ext [l]⟩
  · rw [List.length_append]
    have := h.sl
    omega
/-- a new item -/
theorem LotsOk.item {n A : Nat} {costs : List Tab} {b0 : List Int} {S lots : List (List Int)} {steps : Steps} (h : LotsOk n A costs b0 S lots steps) {row : List (Nat × Int)} (hlt : steps.length < lots.length) (hr : RowOk A costs lots (lots.getD steps.length []) row) : LotsOk n A costs b0 S lots (steps ++ [row]) := by
  refine ⟨h.nd, h.sub, h.zero, h.all, fun i r hi => ?_, by rw [List.length_append]; simp; omega⟩
  by_cases hl : i < steps.length
  · rw [List.getElem?_append_left hl] at hi
    exact h.it i r hi
  · rw [List.getElem?_append_right (by omega)] at hi
    have : i - steps.length = 0 := by
      have := (List.getElem?_eq_some_iff.mp hi).1
      simp at this; omega
    rw [this] at hi
    simp at hi
    subst hi
    have : i = steps.length := by omega
    subst this
    exact hr
theorem LotsOk.small {n A : Nat} {costs : List Tab} {b0 : List Int} {S lots : List (List Int)} {steps : Steps} (h : LotsOk n A costs b0 S lots steps) : lots.length ≤ S.length := len_le h.nd h.sub
theorem LotsOk.room {n A : Nat} {costs : List Tab} {b0 : List Int} {S lots : List (List Int)} {steps : Steps} (h : LotsOk n A costs b0 S lots steps) {l : List Int} (hn : l ∉ lots) (hS : l ∈ S) : lots.length < S.length := by
  have := len_le (l := lots ++ [l]) (m := S) (by
    rw [List.nodup_append]
    exact ⟨h.nd, by simp, fun a ha b hb => by simp at hb; subst hb; exact fun e => hn (e ▸ ha)⟩) fun x hx => by
      rcases List.mem_append.mp hx with q | q
      · exact h.sub x q
      · simp at q; subst q; exact hS
  simp at this
  omega
end AW
namespace AW
open PySem PySem.Spec PyProof.Rows L2
/-- lots and steps of a Standings -/
structure Sd2 where
  lots : List (List Int)
  steps : Steps
def dStand2 (K : PySem.W.Frag) (cSg : Addr) : DR Sd2 := fun H v d => ∃ a dx fs vl vs, v = .ref a ∧ H a = some (.ins cSg dx fs) ∧ fs.lookup ("lots" : Str) = some vl ∧ fs.lookup ("steps" : Str) = some vs ∧ dTup K (dTup K dInt) H vl d.lots ∧ dSteps K H vs d.steps
theorem app_of {H : Hp} {Q : VK} {l : Addr} {xs : List V} {y : V} (h : H l = some (.lst xs)) (hl : xs.length ≤ 16000) (q : Q .non (upd H l (.lst (xs ++ [y])))) : rAppend (.ref l) [y] H Q :=
  ⟨l, xs, y, rfl, rfl, h, len_ok (by omega), q⟩
theorem ty_lst {K : PySem.W.Frag} {H : Hp} {p : Addr} {xs : List V} (h : H p = some (.lst xs)) : tyV K "list" (.ref p) H := .inl ⟨rfl, _, .inl (.inl h)⟩
theorem mut_lst {H : Hp} {p : Addr} {xs : List V} (h : H p = some (.lst xs)) : Mut (H p) := by rw [h]; exact True.intro
theorem mut_nd {P : Program} {w : World} {K : PySem.W.Frag} {H : Hp} {a : Addr} {kvs : List (NestedKey × V)} (d : ND P w K H a kvs) : Mut (H a) := by
  obtain ⟨φ, h⟩ := d.mut
  rw [h]; exact True.intro
/-- nothing behind the mask is changed -/
theorem mk_pre {M : List Addr} {H H' : Hp} (s : Same H H') : Same (mk M H) (mk M H') := mk_mono s
theorem ne_lst_nd {P : Program} {w : World} {K : PySem.W.Frag} {H : Hp} {a p : Addr} {kvs : List (NestedKey × V)} {xs : List V} (d : ND P w K H a kvs) (h : H p = some (.lst xs)) : p ≠ a := fun e => by
  obtain ⟨φ, hφ⟩ := d.mut
  rw [← e, h] at hφ
  cases hφ
theorem map_snoc {α β : Type} (f : α → β) (xs : List α) (x : α) : xs.map f ++ [f x] = (xs ++ [x]).map f := by rw [List.map_append]; rfl
section
variable {P : Program} {w : World} {K : PySem.W.Frag} {mg : Str → Option Value} {base : Heap} {cSt cSg cMa cVe cRl : Addr}
def Closed (d : Wd) (S : List (List Int)) : Prop := low d.begins ∈ S ∧ (∀ l ∈ S, ∀ t ∈ d.costs, low (led l t) ∈ S) ∧ S.length ≤ 1000
def sp_standings (K : PySem.W.Frag) (cSt cSg : Addr) : Sp := fun vs H Q _ => ∃ (M : List Addr) (v : V) (d : Wd) (S : List (List Int)), vs = [v] ∧ Wf d ∧ (∀ p ∈ M, H p ≠ none) ∧ dStore K cSt (mk M H) v d ∧ Closed d S ∧
  ∀ (x : Sd2) (u : V) (H' : Hp), StOk d.asks.cps.size d.begins.length d.costs d.begins x.lots x.steps → x.lots.length ≤ S.length → Same H H' → dStand2 K cSg (mk M H') u x → Q u H'
/-- the state of the while -/
structure SW (P : Program) (w : World) (K : PySem.W.Frag) (H0 H : Hp) (M : List Addr) (L Rw Dp St : Addr) (vsL vsS : List V) (zs : List Str) (lots : List (List Int)) (steps : Steps) : Prop where
  same : Same H0 H
  l : H L = some (.lst vsL)
  pl : Paired (dTup K dInt (mk (L :: Rw :: Dp :: St :: M) H)) vsL lots
  r : H Rw = some (.lst (zs.map V.str))
  zl : zs.length = lots.length
  zb : ∀ (i : Nat) (z : Str), zs[i]? = some z → z.length ≤ i
  dp : ND P w K H Dp (kvsI (lots.map lotKey))
  s : H St = some (.lst vsS)
  ps : Paired (dTup K (dPair K dNat dInt) (mk (L :: Rw :: Dp :: St :: M) H)) vsS steps
/-- the four stand apart, and are new -/
structure SC (H0 : Hp) (L Rw Dp St : Addr) : Prop where
  LR : L ≠ Rw
  LD : L ≠ Dp
  LS : L ≠ St
  RD : Rw ≠ Dp
  RS : Rw ≠ St
  DS : Dp ≠ St
  nL : H0 L = none
  nR : H0 Rw = none
  nD : H0 Dp = none
  nS : H0 St = none
section
variable {H0 H : Hp} {M : List Addr} {L Rw Dp St : Addr} {vsL vsS : List V} {zs : List Str} {lots : List (List Int)} {steps : Steps}
theorem sw_dom (sw : SW P w K H0 H M L Rw Dp St vsL vsS zs lots steps) (hM : ∀ a ∈ M, H a ≠ none) : ∀ a ∈ L :: Rw :: Dp :: St :: M, H a ≠ none := fun a ha e => by
  obtain ⟨φ, hφ⟩ := sw.dp.mut
  simp at ha
  rcases ha with h | h | h | h | h
  · subst h; rw [sw.l] at e; cases e
  · subst h; rw [sw.r] at e; cases e
  · subst h; rw [hφ] at e; cases e
  · subst h; rw [sw.s] at e; cases e
  · exact hM a h e
theorem sw_mono (sw : SW P w K H0 H M L Rw Dp St vsL vsS zs lots steps) {H' : Hp} (s : Same H H') : SW P w K H0 H' M L Rw Dp St vsL vsS zs lots steps := by
  obtain ⟨φ, hφ⟩ := sw.dp.mut
  exact ⟨sw.same.trans s, s _ _ sw.l, Paired.mono (fun _ _ => mT1 _ _ _ _ (mk_mono s)) sw.pl, s _ _ sw.r, sw.zl, sw.zb, sw.dp.keeps (Tups.of_same s) ((s _ _ hφ).trans hφ.symm), s _ _ sw.s, Paired.mono (fun _ _ => dTup_mono mPair _ _ _ _ (mk_mono s)) sw.ps⟩
theorem sw_mask (sw : SW P w K H0 H M L Rw Dp St vsL vsS zs lots steps) {M' : List Addr} (s : Same (mk (L :: Rw :: Dp :: St :: M) H) (mk (L :: Rw :: Dp :: St :: M') H)) : SW P w K H0 H M' L Rw Dp St vsL vsS zs lots steps :=
  ⟨sw.same, sw.l, Paired.mono (fun _ _ => mT1 _ _ _ _ s) sw.pl, sw.r, sw.zl, sw.zb, sw.dp, sw.s, Paired.mono (fun _ _ => dTup_mono mPair _ _ _ _ s) sw.ps⟩
theorem sw_other (sw : SW P w K H0 H M L Rw Dp St vsL vsS zs lots steps) {It : Addr} {xs : List V} {o : HO} (h : H It = some (.lst xs)) (hm : It ∈ M) (n0 : H0 It = none) (hL : L ≠ It) (hR : Rw ≠ It) (hS : St ≠ It) : SW P w K H0 (upd H It o) M L Rw Dp St vsL vsS zs lots steps := by
  have hD : Dp ≠ It := Ne.symm (ne_lst_nd sw.dp h)
  have e : mk (L :: Rw :: Dp :: St :: M) (upd H It o) = mk (L :: Rw :: Dp :: St :: M) H := mk_upd_in (by simp [hm])
  refine ⟨same_upd2 sw.same n0, by rw [upd_ne hL]; exact sw.l, by rw [e]; exact sw.pl, by rw [upd_ne hR]; exact sw.r, sw.zl, sw.zb, sw.dp.keeps (Tups.mut (mut_lst h)) (upd_ne hD), by rw [upd_ne hS]; exact sw.s, by rw [e]; exact sw.ps⟩
theorem sw_lot (sc : SC H0 L Rw Dp St) (sw : SW P w K H0 H M L Rw Dp St vsL vsS zs lots steps) {ob : HO} {u : V} {l : List Int} {z : Str} (hn : l ∉ lots) (hu : dTup K dInt (mk (L :: Rw :: Dp :: St :: M) H) u l) (hz : z.length ≤ zs.length)
    (nd : ND P w K (upd H Dp ob) Dp (putK (kvsI (lots.map lotKey)) (lotKey l) (.int (lots.length : Int)))) :
    SW P w K H0 (upd (upd (upd H Dp ob) L (.lst (vsL ++ [u]))) Rw (.lst ((zs ++ [z]).map V.str))) M L Rw Dp St (vsL ++ [u]) vsS (zs ++ [z]) (lots ++ [l]) steps := by
  have e : mk (L :: Rw :: Dp :: St :: M) (upd (upd (upd H Dp ob) L (.lst (vsL ++ [u]))) Rw (.lst ((zs ++ [z]).map V.str))) = mk (L :: Rw :: Dp :: St :: M) H := by
    rw [mk_upd_in (by simp), mk_upd_in (by simp), mk_upd_in (by simp)]
  have hl : (lots.map lotKey).length = lots.length := by simp
  rw [← hl, putK_kvsI (fun q => hn (mem_lotKey.mp q)), map_snoc] at nd
  have hL1 : (upd H Dp ob) L = some (.lst vsL) := by rw [upd_ne sc.LD]; exact sw.l
  have hR1 : (upd (upd H Dp ob) L (.lst (vsL ++ [u]))) Rw = some (.lst (zs.map V.str)) := by rw [upd_ne (Ne.symm sc.LR), upd_ne sc.RD]; exact sw.r
  refine ⟨same_upd2 (same_upd2 (same_upd2 sw.same sc.nD) sc.nL) sc.nR, by rw [upd_ne sc.LR, upd_same], by rw [e]; exact Paired.snoc sw.pl hu, upd_same, by simp [sw.zl], fun i y hy => ?_, ?_, ?_, by rw [e]; exact sw.ps⟩
  · by_cases hi : i < zs.length
    · rw [List.getElem?_append_left hi] at hy; exact sw.zb i y hy
    · rw [List.getElem?_append_right (by omega)] at hy
      have := (List.getElem?_eq_some_iff.mp hy).1
      have h0 : i - zs.length = 0 := by simp at this; omega
      rw [h0] at hy
      simp at hy
      subst hy
      omega
  · exact (nd.keeps (Tups.mut (mut_lst hL1)) (upd_ne (Ne.symm sc.LD))).keeps (Tups.mut (mut_lst hR1)) (upd_ne (Ne.symm sc.RD))
  · rw [upd_ne (Ne.symm sc.RS), upd_ne (Ne.symm sc.LS), upd_ne (Ne.symm sc.DS)]; exact sw.s
theorem sw_step (sc : SC H0 L Rw Dp St) (sw : SW P w K H0 H M L Rw Dp St vsL vsS zs lots steps) {u : V} {row : List (Nat × Int)} (hu : dTup K (dPair K dNat dInt) (mk (L :: Rw :: Dp :: St :: M) H) u row) :
    SW P w K H0 (upd H St (.lst (vsS ++ [u]))) M L Rw Dp St vsL (vsS ++ [u]) zs lots (steps ++ [row]) := by
  have e : mk (L :: Rw :: Dp :: St :: M) (upd H St (.lst (vsS ++ [u]))) = mk (L :: Rw :: Dp :: St :: M) H := mk_upd_in (by simp)
  exact ⟨same_upd2 sw.same sc.nS, by rw [upd_ne sc.LS]; exact sw.l, by rw [e]; exact sw.pl, by rw [upd_ne sc.RS]; exact sw.r, sw.zl, sw.zb, sw.dp.keeps (Tups.mut (mut_lst sw.s)) (upd_ne sc.DS), upd_same, by rw [e]; exact Paired.snoc sw.ps hu⟩
end
def StIv (P : Program) (w : World) (K : PySem.W.Frag) (H0 : Hp) (M : List Addr) (v : V) (L Rw Dp St : Addr) (d : Wd) (S : List (List Int)) (p : Nat) : L2.St → Hp → Prop := fun σ H' =>
  ∃ (vsL vsS : List V) (zs : List Str) (lots : List (List Int)) (steps : Steps) (x5 x6 x7 x8 x9 x10 x11 : Option V), steps.length = p ∧ σ = [some v, some (.ref L), some (.ref Rw), some (.ref Dp), some (.ref St), x5, x6, x7, x8, x9, x10, x11] ∧
    SW P w K H0 H' M L Rw Dp St vsL vsS zs lots steps ∧ LotsOk d.begins.length d.asks.cps.size d.costs d.begins S lots steps
/-- the mask grows by a new thing -/
theorem mk_grow {M M' : List Addr} {H : Hp} {D : Addr} {o : HO} (n : H D = none) (h : ∀ a ∈ M', a = D ∨ a ∈ M) : Same (mk M H) (mk M' (upd H D o)) := fun b ob e => by
  by_cases hm : b ∈ M
  · rw [mk_in hm] at e; cases e
  · rw [mk_out hm] at e
    have nb : b ≠ D := ne_of_none e n
    rw [mk_out (fun q => (h b q).elim nb hm), upd_ne nb]
    exact e
theorem stepsOk_ext {costs : List Tab} {lots : List (List Int)} {lot : List Int} {item : List (Nat × Int)} (m : List (List Int)) (h : ∀ j s, item[j]? = some s → StepOk costs lots lot j s) : ∀ j s, item[j]? = some s → StepOk costs (lots ++ m) lot j s := fun j s hs => (h j s hs).ext m
theorem snoc_get {α : Type} {xs : List α} {x y : α} {j : Nat} (h : (xs ++ [x])[j]? = some y) : (j < xs.length ∧ xs[j]? = some y) ∨ (j = xs.length ∧ y = x) := by
  by_cases hj : j < xs.length
  · rw [List.getElem?_append_left hj] at h
    exact .inl ⟨hj, h⟩
  · rw [List.getElem?_append_right (by omega)] at h
    have h2 := (List.getElem?_eq_some_iff.mp h).1
    have h0 : j - xs.length = 0 := by simp at h2; omega
    rw [h0] at h
    simp at h
    exact .inr ⟨by omega, h.symm⟩
theorem fn_standings (c : Env K mg cSt cSg cMa cVe cRl) : Fn P w K mg base "standings" 3 P_standings (sp_standings K cSt cSg) := by
  refine fn_ok c.d_standings sc_standings (fun _ _ _ _ _ _ us hl => match us, hl with | [_], _ => rfl) (fun vs H Q E h => ?_) (fun f cdv A outer s H vs Q E hr h => ?_)
  · obtain ⟨M, v, d, S, rfl, wf, hM, hd, hS, q⟩ := h
    rfl
  · obtain ⟨M, v, d, S, rfl, wf, hM, hd, hS, q⟩ := h
    refine ⟨_, (pss_cons (ps_set (i := 1) sc_standings.nd rfl (Or.inl rfl) (pe_lst (pa_cons (pe_ix (ix_seqK (K := K)) (pe_fn (fn_lowered c) (hr.mono (by decide)) rfl (pa_cons (pe_fldK (K := K) (pv 0)) pa_nil)) pe_int (fun _ _ => rfl)) pa_nil)))
      (pss_cons (ps_set (i := 2) sc_standings.nd rfl (Or.inl rfl) (pe_lst (pa_cons pe_str pa_nil)))
      (pss_cons (ps_set (i := 3) sc_standings.nd rfl (Or.inl rfl) (pe_ndisp hr.units (pe_ix (ix_seqK (K := K)) (pv 1) pe_int (fun _ _ => rfl)) pe_int))
      (pss_cons (ps_set (i := 4) sc_standings.nd rfl (Or.inl rfl) (pe_lst pa_nil))
      (pss_cons (ps_while PassesOwn.never (pt_cmpR op_lt (pe_callB (call_len_seqK (K := K)) (by rfl) c.b_len (by decide +kernel) (pa_cons (pv 4) pa_nil)) (pe_callB (call_len_seqK (K := K)) (by rfl) c.b_len (by decide +kernel) (pa_cons (pv 1) pa_nil)) (nomark _))
        (pss_cons (ps_set (i := 5) sc_standings.nd rfl (Or.inl rfl) (pe_ix (ix_seqK (K := K)) (pv 1) (pe_callB (call_len_seqK (K := K)) (by rfl) c.b_len (by decide +kernel) (pa_cons (pv 4) pa_nil)) (fun _ _ => rfl)))
        (pss_cons (ps_set (i := 6) sc_standings.nd rfl (Or.inl rfl) (pe_ix (ix_seqK (K := K)) (pv 2) (pe_callB (call_len_seqK (K := K)) (by rfl) c.b_len (by decide +kernel) (pa_cons (pv 4) pa_nil)) (fun _ _ => rfl)))
        (pss_cons (ps_set (i := 7) sc_standings.nd rfl (Or.inl rfl) (pe_lst pa_nil))
        (pss_cons (ps_for PassesOwn.never rfl (pi_enumS rfl c.b_enumerate (pa_cons (pe_fldK (K := K) (pv 0)) pa_nil)) (pg_tup rfl (pgs_cons (pg_name (i := 8) sc_standings.nd rfl (Or.inl rfl)) (pgs_cons (pg_name (i := 9) sc_standings.nd rfl (Or.inl rfl)) pgs_nil)))
          (pss_cons (ps_asg (pe_fn (fn_lowered c) (hr.mono (by decide)) rfl (pa_cons (pe_fn (fn_led c) (hr.mono (by decide)) rfl (pa_cons (pv 5) (pa_cons (pe_ix (ix_seqK (K := K)) (pe_fldK (K := K) (pv 0)) (pv 8) (fun _ _ => rfl)) pa_nil))) pa_nil)) (pg_tup rfl (pgs_cons (pg_name (i := 10) sc_standings.nd rfl (Or.inl rfl)) (pgs_cons (pg_name (i := 11) sc_standings.nd rfl (Or.inl rfl)) pgs_nil))))
          (pss_cutW (ps_if (pt_cmp (pc_nnotin hr.units (pv 10) (pv 3)))
            (pss_cons (ps_if (pt_cmpR op_eq (pe_callB (call_len_seqK (K := K)) (by rfl) c.b_len (by decide +kernel) (pa_cons (pv 1) pa_nil)) (pe_globI rfl c.g_MOST_STANDINGS) (nomark _))
              (pss_one ps_never)
              pss_nil)
            (pss_cons (ps_nput hr.units (pv 3) (pv 10) (pe_callB (call_len_seqK (K := K)) (by rfl) c.b_len (by decide +kernel) (pa_cons (pv 1) pa_nil)) rfl)
            (pss_cons (ps_expr (pe_bm PySem.F.plainAttrs_list PySem.F.slot_list_append PySem.F.type_list_append mt_append (pv 1) (pa_cons (pv 10) pa_nil)))
            (pss_one (ps_expr (pe_bm PySem.F.plainAttrs_list PySem.F.slot_list_append PySem.F.type_list_append mt_append (pv 2) (pa_cons (pe_op op_add_str (pv 6) (pv 9)) pa_nil)))))))
            pss_nil)
          (pss_one (ps_expr (pe_bm PySem.F.plainAttrs_list PySem.F.slot_list_append PySem.F.type_list_append mt_append (pv 7) (pa_cons (pe_tup (pa_cons (pe_nget hr.units (pv 3) (pv 10) (fun _ _ => rfl)) (pa_cons (pv 11) pa_nil))) pa_nil)))))))
        (pss_one (ps_expr (pe_bm PySem.F.plainAttrs_list PySem.F.slot_list_append PySem.F.type_list_append mt_append (pv 4) (pa_cons (pe_callTy (call_tuple_ofK (K := K)) (by rfl) c.b_tuple (by decide +kernel) (pa_cons (pv 7) pa_nil)) pa_nil)))))))))
      (pss_one (ps_ret (pe_ini (ini_Standings c) (hr.mono (by decide)) rfl (pa_cons (pe_callTy (call_tuple_ofK (K := K)) (by rfl) c.b_tuple (by decide +kernel) (pa_cons (pv 1) pa_nil)) (pa_cons (pe_callTy (call_tuple_ofK (K := K)) (by rfl) c.b_tuple (by decide +kernel) (pa_cons (pv 2) pa_nil)) (pa_cons (pe_callTy (call_tuple_ofK (K := K)) (by rfl) c.b_tuple (by decide +kernel) (pa_cons (pv 4) pa_nil)) pa_nil))))))))))), ?_⟩
    have cl := c.k_Store.cl
    have hpos := wf.pos
    have hle := wf.le
    have hbne : d.begins ≠ [] := List.length_pos_iff.mp hpos
    obtain ⟨hS0, hS1, hS2⟩ := hS
    -- lots = [lowered(store.begins)[0]]
    refine ⟨v, rfl, st_begins cl c.n_Store_begins hd fun ub hb => ?_⟩
    refine ⟨ub, d.begins, rfl, off mS1 (seq_tup hb), hbne, by omega, fun p1 q1 H1 s1 np1 nq1 hq1 hp1 => ?_⟩
    refine ixT_of (.inl (.inl hp1)) (j := 0) rfl rfl ?_
    refine ⟨by show 1 ≤ sizeLine; exact le_ok (by omega), fun L nL => ?_⟩
    -- rows = ['']
    refine ⟨by show 1 ≤ sizeLine; exact le_ok (by omega), fun Rw nRw => ?_⟩
    have hLR : L ≠ Rw := fun e => by rw [← e, upd_same] at nRw; cases nRw
    have sL : Same H1 (upd H1 L (.lst [.ref q1])) := same_upd nL
    have sR := same_upd (o := .lst [.str ""]) nRw
    -- places = {lots[0]: 0}
    intro Dp ob nDp nd0
    have sD : Same (upd (upd H1 L (.lst [.ref q1])) Rw (.lst [.str ""])) (upd (upd (upd H1 L (.lst [.ref q1])) Rw (.lst [.str ""])) Dp ob) := same_upd nDp
    have hLv : (upd (upd (upd H1 L (.lst [.ref q1])) Rw (.lst [.str ""])) Dp ob) L = some (.lst [.ref q1]) := sD _ _ (sR _ _ upd_same)
    have hRv : (upd (upd (upd H1 L (.lst [.ref q1])) Rw (.lst [.str ""])) Dp ob) Rw = some (.lst [.str ""]) := sD _ _ upd_same
    have hqv : (upd (upd (upd H1 L (.lst [.ref q1])) Rw (.lst [.str ""])) Dp ob) q1 = some (.tup ((low d.begins).map V.int)) := sD _ _ (sR _ _ (sL _ _ hq1))
    refine ⟨_, rfl, ixL_of hLv (j := 0) rfl rfl ?_⟩
    refine ⟨q1, lotKey (low d.begins), rfl, nd0, nk_lot (.inl (.inl hqv)), lotKey_depth _, fun ob2 nd1 => ?_⟩
    have hDL : Dp ≠ L := fun e => by rw [e] at nDp; rw [upd_ne hLR, upd_same] at nDp; cases nDp
    have hDR : Dp ≠ Rw := fun e => by rw [e] at nDp; rw [upd_same] at nDp; cases nDp
    have hDq : q1 ≠ Dp := ne_of_none (sR _ _ (sL _ _ hq1)) nDp
    have hLq : q1 ≠ L := ne_of_none hq1 nL
    have hRq : q1 ≠ Rw := ne_of_none (sL _ _ hq1) nRw
    rw [upd_upd] at nd1 ⊢
    -- steps = []
    refine ⟨Nat.zero_le _, fun St nSt => ?_⟩
    generalize hHw : upd (upd (upd (upd H1 L (.lst [.ref q1])) Rw (.lst [.str ""])) Dp ob2) St (.lst []) = Hw
    have hSD : St ≠ Dp := fun e => by rw [e, upd_same] at nSt; cases nSt
    have hSL : St ≠ L := fun e => by rw [e, upd_ne (Ne.symm hDL), upd_ne hLR, upd_same] at nSt; cases nSt
    have hSR : St ≠ Rw := fun e => by rw [e, upd_ne (Ne.symm hDR), upd_same] at nSt; cases nSt
    have sD2 : Same (upd (upd H1 L (.lst [.ref q1])) Rw (.lst [.str ""])) (upd (upd (upd H1 L (.lst [.ref q1])) Rw (.lst [.str ""])) Dp ob2) := same_upd nDp
    have hSq : q1 ≠ St := ne_of_none (sD2 _ _ (sR _ _ (sL _ _ hq1))) nSt
    have sHw : Same H Hw := by
      rw [← hHw]
      exact s1.trans (sL.trans (sR.trans (sD2.trans (same_upd nSt))))
    have n1 : ∀ {a : Addr}, H1 a = none → H a = none := fun h => s1.free h
    have nL0 : H L = none := n1 nL
    have nR0 : H Rw = none := n1 (sL.free nRw)
    have nD0 : H Dp = none := n1 (sL.free (sR.free nDp))
    have nS0 : H St = none := n1 (sL.free (sR.free (sD2.free nSt)))
    have hqM : q1 ∉ M := notin_of hM nq1
    have hW : ∀ a, a ∈ L :: Rw :: Dp :: St :: M ↔ a = L ∨ a = Rw ∨ a = Dp ∨ a = St ∨ a ∈ M := fun a => by simp
    have sc : SC H L Rw Dp St := ⟨hLR, Ne.symm hDL, Ne.symm hSL, Ne.symm hDR, Ne.symm hSR, Ne.symm hSD, nL0, nR0, nD0, nS0⟩
    have base0 : SW P w K H Hw M L Rw Dp St [.ref q1] [] [""] [low d.begins] [] := by
      refine ⟨sHw, ?_, .cons ⟨q1, _, rfl, .inl (.inl ?_), of_ints _⟩ .nil, ?_, rfl, fun i z hz => ?_, ?_, ?_, .nil⟩
      · rw [← hHw, upd_ne (Ne.symm hSL), upd_ne (Ne.symm hDL), upd_ne hLR, upd_same]
      · rw [mk_out (by rw [hW]; simp [hLq, hRq, hDq, hSq, hqM]), ← hHw, upd_ne hSq, upd_ne hDq, upd_ne hRq, upd_ne hLq, hq1]
      · rw [← hHw, upd_ne (Ne.symm hSR), upd_ne (Ne.symm hDR), upd_same]; rfl
      · cases i with
        | zero => simp at hz; subst hz; exact Nat.le_refl _
        | succ i => simp at hz
      · rw [← hHw]
        exact nd1.keeps (Tups.of_same (same_upd nSt)) (by rw [upd_ne (Ne.symm hSD)])
      · rw [← hHw, upd_same]
    have lots0 : LotsOk d.begins.length d.asks.cps.size d.costs d.begins S [low d.begins] [] :=
      ⟨by simp, fun l hl => by simp at hl; subst hl; exact hS0, rfl, fun l hl => by simp at hl; subst hl; exact low_len _, fun i r hr => by simp at hr, by simp⟩
    -- while len(steps) < len(lots)
    refine ⟨fun m σ H' => ∃ p, m = 1001 - p ∧ StIv P w K H M v L Rw Dp St d S p σ H', ⟨_, 0, rfl, _, _, _, _, _, none, none, none, none, none, none, none, rfl, rfl, base0, lots0⟩, ?_⟩
    rintro m σ H2 ⟨p, rfl, vsL, vsS, zs, lots, steps, x5, x6, x7, x8, x9, x10, x11, rfl, rfl, sw, lo⟩
    have lenL := Paired.length sw.pl
    have lenS := Paired.length sw.ps
    have hsmall := lo.small
    have hsl := lo.sl
    refine ⟨_, rfl, lenL_of sw.s ⟨_, rfl, lenL_of sw.l ⟨_, _, rfl, rfl, _, rfl, ?_⟩⟩⟩
    rw [lenL, lenS]
    refine ite2 (fun hlt => ?_) (fun hlt => ?_)
    · have hlt : (steps.length : Int) < (lots.length : Int) := of_decide_eq_true hlt
      have hlt : steps.length < lots.length := by omega
      refine ⟨StIv P w K H M v L Rw Dp St d S (steps.length + 1), fun σ' H' h => ⟨1001 - (steps.length + 1), by omega, _, rfl, h⟩, ?_⟩
      have hd2 := dStore_mono _ _ _ _ (mk_mono (M := M) sw.same) hd
      have hM2 := dom_same hM sw.same
      -- lot, row, items
      obtain ⟨ul, hul, hlot⟩ := pgetR sw.pl (getD_some hlt [])
      have hzl := sw.zl
      obtain ⟨z, hz⟩ : ∃ z, zs[steps.length]? = some z := ⟨zs[steps.length], List.getElem?_eq_getElem (by omega)⟩
      have hzb := sw.zb _ _ hz
      generalize hlot' : lots.getD steps.length [] = lot at hlot
      refine ⟨_, rfl, _, rfl, lenL_of sw.s (ixL_of sw.l (j := vsS.length) rfl (by rw [lenS]; exact hul) ?_)⟩
      refine ⟨_, rfl, _, rfl, lenL_of sw.s (ixL_of sw.r (j := vsS.length) rfl (by rw [lenS, List.getElem?_map, hz]; rfl) ?_)⟩
      refine ⟨Nat.zero_le _, fun It nIt => ?_⟩
      have sIt : Same H2 (upd H2 It (.lst [])) := same_upd nIt
      have iL : L ≠ It := ne_of_none sw.l nIt
      have iR : Rw ≠ It := ne_of_none sw.r nIt
      have iS : St ≠ It := ne_of_none sw.s nIt
      have iD : Dp ≠ It := let ⟨_, hφ⟩ := sw.dp.mut; ne_of_none hφ nIt
      have n0 : H It = none := sw.same.free nIt
      have iM : It ∉ M := notin_of hM2 nIt
      have swI : SW P w K H (upd H2 It (.lst [])) (It :: M) L Rw Dp St vsL vsS zs lots steps := by
        have e : Same (mk (L :: Rw :: Dp :: St :: M) H2) (mk (L :: Rw :: Dp :: St :: It :: M) (upd H2 It (.lst []))) := mk_grow nIt fun a ha => by
          simp at ha ⊢
          rcases ha with h | h | h | h | h | h <;> simp [h]
        have s0 := sw_mono sw sIt
        exact ⟨s0.same, s0.l, Paired.mono (fun _ _ => mT1 _ _ _ _ e) sw.pl, s0.r, s0.zl, s0.zb, s0.dp, s0.s, Paired.mono (fun _ _ => dTup_mono mPair _ _ _ _ e) sw.ps⟩
      have hul2 : dTup K dInt (mk (L :: Rw :: Dp :: St :: It :: M) (upd H2 It (.lst []))) ul lot := mT1 _ _ _ _ (mk_grow nIt fun a ha => by
          simp at ha ⊢
          rcases ha with h | h | h | h | h | h <;> simp [h]) hlot
      refine ⟨v, rfl, st_asks cl c.n_Store_asks (dStore_mono _ _ _ _ (mk_mono (M := M) sIt) hd2) ⟨_, rfl, ?_⟩⟩
      refine for_it walk_enumS (fun i σ H' => ∃ (vsL : List V) (zs : List Str) (lots : List (List Int)) (vsI : List V) (item : List (Nat × Int)) (x8 x9 x10 x11 : Option V), σ = [some v, some (.ref L), some (.ref Rw), some (.ref Dp), some (.ref St), some ul, some (.str z), some (.ref It), x8, x9, x10, x11] ∧
          SW P w K H H' (It :: M) L Rw Dp St vsL vsS zs lots steps ∧ LotsOk d.begins.length d.asks.cps.size d.costs d.begins S lots steps ∧ steps.length < lots.length ∧ lots.getD steps.length [] = lot ∧
          H' It = some (.lst vsI) ∧ Paired (dPair K dNat dInt (mk (L :: Rw :: Dp :: St :: It :: M) H')) vsI item ∧ item.length = i ∧ (∀ j s, item[j]? = some s → StepOk d.costs lots lot j s) ∧ dTup K dInt (mk (L :: Rw :: Dp :: St :: It :: M) H') ul lot)
        ⟨vsL, zs, lots, [], [], x8, x9, x10, x11, rfl, swI, lo, hlt, hlot', upd_same, .nil, rfl, fun j s h => by simp at h, hul2⟩ (fun _ _ _ _ _ => trivial) ?_ ?_
      · rintro k x σ H3 H4 hk ⟨vsL, zs, lots, vsI, item, x8, x9, x10, x11, rfl, sw, lo, hlt, hlot', hIt, pI, hil, hok, hul⟩ ⟨T, cc, rfl, nT, rfl, hcc⟩
        obtain ⟨hkA, rfl⟩ := cps_at hcc
        have sT : Same H3 (upd H3 T (.tup [.int (k : Nat), .str ⟨#[cp d.asks k]⟩])) := same_upd nT
        refine pair_tgt upd_same ?_
        have hkc : k < d.costs.length := by rw [wf.cl]; exact hkA
        have sw4 := sw_mono sw sT
        have hd4 := dStore_mono _ _ _ _ (mk_mono (M := M) sw4.same) hd
        have hul4 := mT1 _ _ _ _ (mk_mono (M := L :: Rw :: Dp :: St :: It :: M) sT) hul
        have hlotlen : lot.length = d.begins.length := by
          rw [← hlot', List.getD_eq_getElem?_getD, List.getElem?_eq_getElem hlt]
          exact lo.all _ (List.getElem_mem hlt)
        have hlne : lot ≠ [] := fun e => by rw [e] at hlotlen; simp at hlotlen; omega
        have hlotS : lot ∈ S := by
          rw [← hlot', List.getD_eq_getElem?_getD, List.getElem?_eq_getElem hlt]
          exact lo.sub _ (List.getElem_mem hlt)
        have hcm := List.mem_of_getElem? (getD_some hkc [])
        have sqk := wf.sq _ hcm
        -- after, least = lowered(led(lot, store.costs[k]))
        refine ⟨_, rfl, v, rfl, st_costs cl c.n_Store_costs hd4 fun uc hc => ?_⟩
        refine ⟨_, rfl, ixm_of (seq_tup hc) (j := k) rfl (getD_some hkc []) fun ut hut => ?_⟩
        refine ⟨ul, ut, lot, d.costs.getD k [], rfl, off mS1 (seq_tup hul4), off mS2 (seq2 hut), hlne, by rw [hlotlen]; exact sqk, by omega, fun pl H5 s5 npl hpl => ?_⟩
        refine ⟨_, led lot (d.costs.getD k []), rfl, seq_lst (dLst_new hpl), led_ne hlne _, by rw [led_len]; omega, fun pp qq H6 s6 npp nqq hqq hpp => ?_⟩
        refine pair_tgt hpp ?_
        have s46 := s5.trans s6
        have sw6 := sw_mono sw4 s46
        have hnew : low (led lot (d.costs.getD k [])) ∈ S := hS1 _ hlotS _ hcm
        have hnlen : (low (led lot (d.costs.getD k []))).length = d.begins.length := by rw [low_len, led_len]; exact hlotlen
        have nq3 : H3 qq = none := sT.free (s5.free nqq)
        have hW : ∀ a, a ∈ L :: Rw :: Dp :: St :: It :: M → H3 a ≠ none := fun a ha e => by
          obtain ⟨φ, hφ⟩ := sw.dp.mut
          simp at ha
          rcases ha with h | h | h | h | h | h
          · subst h; rw [sw.l] at e; cases e
          · subst h; rw [sw.r] at e; cases e
          · subst h; rw [hφ] at e; cases e
          · subst h; rw [sw.s] at e; cases e
          · subst h; rw [hIt] at e; cases e
          · exact dom_same hM sw.same a h e
        have hqW : qq ∉ L :: Rw :: Dp :: St :: It :: M := fun z => hW qq z nq3
        have huq : dTup K dInt (mk (L :: Rw :: Dp :: St :: It :: M) H6) (.ref qq) (low (led lot (d.costs.getD k []))) := tup_at hqq hqW (of_ints _)
        have nkq : NK K H6 (lotKey (low (led lot (d.costs.getD k [])))) (.ref qq) := nk_lot (.inl (.inl hqq))
        -- if after not in places
        refine ⟨fun σ' H' => ∃ (vsL : List V) (zs : List Str) (lots : List (List Int)), σ' = [some v, some (.ref L), some (.ref Rw), some (.ref Dp), some (.ref St), some ul, some (.str z), some (.ref It), some (.int (k : Nat)), some (.str ⟨#[cp d.asks k]⟩), some (.ref qq), some (.int (mn (led lot (d.costs.getD k []))))] ∧
            SW P w K H H' (It :: M) L Rw Dp St vsL vsS zs lots steps ∧ LotsOk d.begins.length d.asks.cps.size d.costs d.begins S lots steps ∧ steps.length < lots.length ∧ lots.getD steps.length [] = lot ∧
            H' It = some (.lst vsI) ∧ Paired (dPair K dNat dInt (mk (L :: Rw :: Dp :: St :: It :: M) H')) vsI item ∧ (∀ j s, item[j]? = some s → StepOk d.costs lots lot j s) ∧ dTup K dInt (mk (L :: Rw :: Dp :: St :: It :: M) H') ul lot ∧
            low (led lot (d.costs.getD k [])) ∈ lots ∧ NK K H' (lotKey (low (led lot (d.costs.getD k [])))) (.ref qq), ?_, ?_⟩
        · refine ⟨_, rfl, _, rfl, Dp, qq, _, _, rfl, rfl, sw6.dp, nkq, lotKey_depth _, _, rfl, ?_⟩
          by_cases hin : low (led lot (d.costs.getD k [])) ∈ lots
          · obtain ⟨i, hi⟩ := List.getElem?_of_mem hin
            have hk' : (lots.map lotKey)[i]? = some (lotKey (low (led lot (d.costs.getD k [])))) := by rw [List.getElem?_map, hi]; rfl
            rw [valV_some (nodup_lotKey lo.nd) hk']
            refine iteF ?_
            exact ⟨vsL, zs, lots, rfl, sw6, lo, hlt, hlot', s46 _ _ (sT _ _ hIt), Paired.mono (fun _ _ => mPair _ _ _ _ (mk_mono (sT.trans s46))) pI, hok, mT1 _ _ _ _ (mk_mono s46) hul4, hin, nkq⟩
          · rw [valV_none (fun q => hin (mem_lotKey.mp q))]
            refine iteT ?_
            have hroom := lo.room hin hnew
            have len6 := Paired.length sw6.pl
            have zl6 := sw6.zl
            refine ⟨_, rfl, lenL_of sw6.l ⟨rfl, _, rfl, iteND (fun e => ?_) ?_⟩⟩
            · injection e with e
              rw [len6] at e
              omega
            refine ⟨_, rfl, lenL_of sw6.l ⟨_, rfl, _, rfl, Dp, qq, _, _, rfl, rfl, sw6.dp, nkq, lotKey_depth _, len_ok (by rw [kvsI_len, List.length_map]; omega), fun ob nd7 => ?_⟩⟩
            rw [len6] at nd7
            have hL7 : (upd H6 Dp ob) L = some (.lst vsL) := by rw [upd_ne sc.LD]; exact sw6.l
            have hR7 : (upd (upd H6 Dp ob) L (.lst (vsL ++ [.ref qq]))) Rw = some (.lst (zs.map V.str)) := by rw [upd_ne (Ne.symm sc.LR), upd_ne sc.RD]; exact sw6.r
            have iD' : Dp ≠ It := Ne.symm (ne_lst_nd sw6.dp (s46 _ _ (sT _ _ hIt)))
            have hI6 := s46 _ _ (sT _ _ hIt)
            refine ⟨_, rfl, ty_lst hL7, _, rfl, _, _, _, rfl, rfl, hL7, len_ok (by omega), ?_⟩
            refine ⟨_, rfl, ty_lst hR7, _, rfl, _, rfl, z, _, rfl, rfl, le_ok (show z.length + 1 ≤ 16000000 by omega), _, _, _, rfl, rfl, hR7, len_ok (by rw [List.length_map]; omega), ?_⟩
            have eM : mk (L :: Rw :: Dp :: St :: It :: M) (upd (upd (upd H6 Dp ob) L (.lst (vsL ++ [.ref qq]))) Rw (.lst ((zs ++ [z ++ ⟨#[cp d.asks k]⟩]).map V.str))) = mk (L :: Rw :: Dp :: St :: It :: M) H6 := by
              rw [mk_upd_in (by simp), mk_upd_in (by simp), mk_upd_in (by simp)]
            rw [map_snoc V.str]
            refine ⟨vsL ++ [.ref qq], zs ++ [z ++ ⟨#[cp d.asks k]⟩], lots ++ [low (led lot (d.costs.getD k []))], rfl, sw_lot sc sw6 hin huq ?_ nd7, lo.more hin hnew hnlen, ?_, ?_, ?_, ?_, stepsOk_ext _ hok, ?_, by simp, ?_⟩
            · have : (z ++ ⟨#[cp d.asks k]⟩ : Str).length = z.length + 1 := by
                show (z.cps ++ #[cp d.asks k]).size = _
                rw [Array.size_append]; rfl
              omega
            · rw [List.length_append]; omega
            · rw [getD_app hlt]; exact hlot'
            · rw [upd_ne (Ne.symm iR), upd_ne (Ne.symm iL), upd_ne (Ne.symm iD')]; exact hI6
            · rw [eM]; exact Paired.mono (fun _ _ => mPair _ _ _ _ (mk_mono (sT.trans s46))) pI
            · rw [eM]; exact mT1 _ _ _ _ (mk_mono s46) hul4
            · exact ((nkq.mono (Tups.mut (mut_nd sw6.dp))).mono (Tups.mut (mut_lst hL7))).mono (Tups.mut (mut_lst hR7))
        · rintro σ' H7 ⟨vsL, zs, lots, rfl, sw7, lo7, hlt7, hlot7, hIt7, pI7, hok7, hul7, hin7, nk7⟩
          obtain ⟨i, hi⟩ := List.getElem?_of_mem hin7
          have hk' : (lots.map lotKey)[i]? = some (lotKey (low (led lot (d.costs.getD k [])))) := by rw [List.getElem?_map, hi]; rfl
          have lI7 := Paired.length pI7
          refine ⟨_, rfl, ty_lst hIt7, _, rfl, _, rfl, Dp, qq, _, _, _, rfl, rfl, sw7.dp, nk7, lotKey_depth _, valV_some (nodup_lotKey lo7.nd) hk', _, rfl, by show 2 ≤ sizeLine; decide, fun T2 nT2 => ?_⟩
          have sT2 : Same H7 (upd H7 T2 (.tup [.int ((i : Nat) : Int), .int (mn (led lot (d.costs.getD k [])))])) := same_upd nT2
          have hI8 := sT2 _ _ hIt7
          have dom7 := sw_dom sw7 (M := It :: M) (dom_cons (dom_same hM sw7.same) hIt7)
          have hA3 : d.asks.cps.size ≤ 3 := (asks_len wf.asks).2
          refine ⟨_, _, _, rfl, rfl, hI8, len_ok (by omega), ?_⟩
          have eM : mk (L :: Rw :: Dp :: St :: It :: M) (upd (upd H7 T2 (.tup [.int ((i : Nat) : Int), .int (mn (led lot (d.costs.getD k [])))])) It (.lst (vsI ++ [.ref T2]))) = mk (L :: Rw :: Dp :: St :: It :: M) (upd H7 T2 (.tup [.int ((i : Nat) : Int), .int (mn (led lot (d.costs.getD k [])))])) := mk_upd_in (by simp)
          refine ⟨vsL, zs, lots, vsI ++ [.ref T2], item ++ [(i, mn (led lot (d.costs.getD k [])))], _, _, _, _, rfl, sw_other (sw_mono sw7 sT2) hI8 (by simp) n0 iL iR iS, lo7, hlt7, hlot7, upd_same, ?_, ?_, ?_, ?_⟩
          · rw [eM]
            refine Paired.snoc (Paired.mono (fun _ _ => mPair _ _ _ _ (mk_mono sT2)) pI7) ⟨T2, _, _, rfl, .inl (.inl ?_), rfl, rfl⟩
            rw [mk_out (notin_of dom7 nT2)]; exact upd_same
          · rw [List.length_append]; simp; omega
          · intro j s hs
            rcases snoc_get hs with ⟨_, h⟩ | ⟨h, e⟩
            · exact hok7 j s h
            · subst e
              subst h
              rw [hil]
              exact ⟨hi, rfl⟩
          · rw [eM]; exact mT1 _ _ _ _ (mk_mono sT2) hul7
      · rintro σ H3 ⟨vsL, zs, lots, vsI, item, x8, x9, x10, x11, rfl, sw, lo, hlt, hlot', hIt, pI, hil, hok, hul⟩
        have dom3 := sw_dom sw (M := It :: M) (dom_cons (dom_same hM sw.same) hIt)
        have lenS := Paired.length sw.ps
        have hsm := lo.small
        refine ⟨_, rfl, ty_lst sw.s, _, rfl, tuple_of hIt fun l nl => ?_⟩
        have sl : Same H3 (upd H3 l (.tup vsI)) := same_upd nl
        have sw' := sw_mono sw sl
        refine ⟨_, _, _, rfl, rfl, sw'.s, len_ok (by omega), ?_⟩
        have fin := sw_mask (M' := M) (sw_step sc sw' (tup_new mPair nl (notin_of dom3 nl) pI)) (mk_sub fun a ha => by
          simp at ha ⊢
          rcases ha with h | h | h | h | h <;> simp [h])
        exact ⟨vsL, vsS ++ [.ref l], zs, lots, steps ++ [item], _, _, _, _, _, _, _, by simp, rfl, fin, lo.item hlt ⟨hil, by rw [hlot']; exact hok⟩⟩
    · have hge : ¬ (steps.length : Int) < (lots.length : Int) := fun z => hlt (decide_eq_true z)
      have heq : steps.length = lots.length := by omega
      -- return Standings(..)
      refine ⟨_, rfl, tuple_of sw.l fun l1 n1 => ?_⟩
      have t1 : Same H2 (upd H2 l1 (.tup vsL)) := same_upd n1
      refine ⟨_, rfl, tuple_of (t1 _ _ sw.r) fun l2 n2 => ?_⟩
      have t2 : Same (upd H2 l1 (.tup vsL)) (upd (upd H2 l1 (.tup vsL)) l2 (.tup (zs.map V.str))) := same_upd n2
      refine ⟨_, rfl, tuple_of (t2 _ _ (t1 _ _ sw.s)) fun l3 n3 => ?_⟩
      have t3 : Same (upd (upd H2 l1 (.tup vsL)) l2 (.tup (zs.map V.str))) (upd (upd (upd H2 l1 (.tup vsL)) l2 (.tup (zs.map V.str))) l3 (.tup vsS)) := same_upd n3
      have t12 := t1.trans t2
      have t13 := t12.trans t3
      have hM2 := dom_same hM sw.same
      have d1 : dTup K (dTup K dInt) (mk M (upd H2 l1 (.tup vsL))) (.ref l1) lots := tup_new mT1 n1 (notin_of hM2 n1) (Paired.mono (fun _ _ => mT1 _ _ _ _ (mk_sub fun a ha => by simp [ha])) sw.pl)
      have d3 : dTup K (dTup K (dPair K dNat dInt)) (mk M (upd (upd (upd H2 l1 (.tup vsL)) l2 (.tup (zs.map V.str))) l3 (.tup vsS))) (.ref l3) steps := tup_new (dTup_mono mPair) n3 (notin_of (dom_same hM2 t12) n3) (Paired.mono (fun _ _ => dTup_mono mPair _ _ _ _ ((mk_sub (N := L :: Rw :: Dp :: St :: M) fun a ha => by simp [ha]).trans (mk_mono t12))) sw.ps)
      generalize upd (upd (upd H2 l1 (.tup vsL)) l2 (.tup (zs.map V.str))) l3 (.tup vsS) = H5 at t13 t3 d3 ⊢
      intro x dx nx ndx ned
      refine ⟨x, dx, .ref l1, .ref l2, .ref l3, rfl, upd_same, rfl, ?_⟩
      rw [upd_upd]
      have t5 : Same H5 (upd (upd H5 dx (.own x)) x (.ins cSg dx (sgFs (.ref l1) (.ref l2) (.ref l3)))) := same_upd2 (same_upd ndx) nx
      refine q ⟨lots, steps⟩ _ _ (lo.done heq) hsmall (sw.same.trans (t13.trans t5)) ⟨x, dx, sgFs (.ref l1) (.ref l2) (.ref l3), .ref l1, .ref l3, rfl, ?_, sgFs_lots, sgFs_steps, ?_, ?_⟩
      · rw [mk_out (notin_of (dom_same hM2 t13) nx)]; exact upd_same
      · exact mT2 _ _ _ _ (mk_mono ((t2.trans t3).trans t5)) d1
      · exact mSteps _ _ _ _ (mk_mono t5) d3
end
end AW
namespace AW
open PySem PySem.Spec PyProof.Rows L2
/-! ### the search, step by step -/
section
variable {A : Nat} {b0 : Beh A}
theorem vis_ext (b : Beh A) (r : List (Fin A)) (s : Bi A) (k : Fin A) : (∃ m, (vis b r s k).line = s.line ++ m) ∧ (∃ m, (vis b r s k).rows = s.rows ++ m) ∧ (∃ m, (vis b r s k).item = s.item ++ m) := by
  rcases vis_cases b r s k with ⟨_, e⟩ | ⟨_, e⟩
  · rw [e]; exact ⟨⟨[], by simp⟩, ⟨[], by simp⟩, ⟨_, rfl⟩⟩
  · rw [e]; exact ⟨⟨_, rfl⟩, ⟨_, rfl⟩, ⟨_, rfl⟩⟩
theorem innAt_ext {p j : Nat} : ∀ u, j + u ≤ A → (∃ m, (innAt b0 p (j + u)).line = (innAt b0 p j).line ++ m) ∧ (∃ m, (innAt b0 p (j + u)).rows = (innAt b0 p j).rows ++ m) ∧ (∃ m, (innAt b0 p (j + u)).item = (innAt b0 p j).item ++ m)
  | 0, _ => ⟨⟨[], by simp⟩, ⟨[], by simp⟩, ⟨[], by simp⟩⟩
  | u + 1, h => by
    obtain ⟨⟨m1, e1⟩, ⟨m2, e2⟩, ⟨m3, e3⟩⟩ := innAt_ext (p := p) (j := j) u (by omega)
    rw [show j + (u + 1) = (j + u) + 1 from rfl, innAt_succ (by omega)]
    obtain ⟨⟨n1, f1⟩, ⟨n2, f2⟩, ⟨n3, f3⟩⟩ := vis_ext ((bfs b0 p).line.getD p b0) ((bfs b0 p).rows.getD p []) (innAt b0 p (j + u)) ⟨j + u, by omega⟩
    rw [f1, f2, f3, e1, e2, e3]
    exact ⟨⟨_, List.append_assoc _ _ _⟩, ⟨_, List.append_assoc _ _ _⟩, ⟨_, List.append_assoc _ _ _⟩⟩
theorem innAt_ext' {p j j' : Nat} (h1 : j ≤ j') (h2 : j' ≤ A) : (∃ m, (innAt b0 p j').line = (innAt b0 p j).line ++ m) ∧ (∃ m, (innAt b0 p j').rows = (innAt b0 p j).rows ++ m) ∧ (∃ m, (innAt b0 p j').item = (innAt b0 p j).item ++ m) := by
  have := innAt_ext (b0 := b0) (p := p) (j := j) (j' - j) (by omega)
  rw [show j + (j' - j) = j' by omega] at this
  exact this
theorem bfs_ext {p : Nat} : ∀ u, (∃ m, (bfs b0 (p + u)).line = (bfs b0 p).line ++ m) ∧ (∃ m, (bfs b0 (p + u)).items = (bfs b0 p).items ++ m)
  | 0 => ⟨⟨[], by simp⟩, ⟨[], by simp⟩⟩
  | u + 1 => by
    obtain ⟨⟨m1, e1⟩, ⟨m2, e2⟩⟩ := bfs_ext (p := p) u
    rw [show p + (u + 1) = (p + u) + 1 from rfl]
    by_cases h : p + u < (bfs b0 (p + u)).line.length
    · rw [bfs_succ h]
      obtain ⟨⟨n1, f1⟩, _, _⟩ := innAt_ext' (b0 := b0) (p := p + u) (j := 0) (j' := A) (by omega) (Nat.le_refl _)
      refine ⟨⟨m1 ++ n1, ?_⟩, ⟨m2 ++ [(innAt b0 (p + u) A).item], ?_⟩⟩
      · show (innAt b0 (p + u) A).line = _
        rw [f1]
        show (bfs b0 (p + u)).line ++ n1 = _
        rw [e1, List.append_assoc]
      · show (bfs b0 (p + u)).items ++ _ = _
        rw [e2, List.append_assoc]
    · rw [show bfs b0 (p + u + 1) = bfs b0 (p + u) from if_neg h]
      exact ⟨⟨m1, e1⟩, ⟨m2, e2⟩⟩
theorem bfs_ext' {p p' : Nat} (h : p ≤ p') : (∃ m, (bfs b0 p').line = (bfs b0 p).line ++ m) ∧ (∃ m, (bfs b0 p').items = (bfs b0 p).items ++ m) := by
  have := bfs_ext (b0 := b0) (p := p) (p' - p)
  rw [show p + (p' - p) = p' by omega] at this
  exact this
/-- the search runs until it is done -/
theorem run_of_done {N : Nat} (d : Done b0 N) : ∀ n, n ≤ N → ∀ q, q < n → q < (bfs b0 q).line.length
  | 0, _, q, h => absurd h (Nat.not_lt_zero _)
  | n + 1, hn, q, hq => by
    have ih := run_of_done d n (by omega)
    by_cases h : q < n
    · exact ih q h
    · have : q = n := by omega
      subst this
      have ok := bfs_ok q ih
      have := ok.ple
      rcases Nat.lt_or_ge q (bfs b0 q).line.length with g | g
      · exact g
      · exact absurd (done_unique (show Done b0 q from (by show (bfs b0 q).line.length = q; omega)) d) (by omega)
theorem ok_of_done {N : Nat} (d : Done b0 N) {p : Nat} (hp : p ≤ N) : BfOk b0 (bfs b0 p) p := bfs_ok p (run_of_done d p hp)
theorem line_le {N : Nat} (d : Done b0 N) {p j : Nat} (hp : p < N) (hj : j ≤ A) : (innAt b0 p j).line.length ≤ N := by
  obtain ⟨⟨m1, e1⟩, _⟩ := bfs_ext' (b0 := b0) (p := p + 1) (p' := N) hp
  obtain ⟨⟨n1, f1⟩, _, _⟩ := innAt_ext' (b0 := b0) (p := p) hj (Nat.le_refl _)
  have h1 : (bfs b0 (p + 1)).line = (innAt b0 p A).line := by rw [bfs_succ (run_of_done d N (Nat.le_refl _) p hp)]
  have h2 : (bfs b0 N).line.length = N := d
  rw [e1, h1, f1, List.length_append, List.length_append] at h2
  omega
theorem getD_ext {α : Type} {l m : List α} {i : Nat} {d : α} (h : i < l.length) : (l ++ m).getD i d = l.getD i d := getD_app h m
theorem item_at {N : Nat} (d : Done b0 N) {p : Nat} (hp : p < N) : (bfs b0 N).items.getD p [] = (innAt b0 p A).item := by
  obtain ⟨_, m2, e2⟩ := bfs_ext' (b0 := b0) (p := p + 1) (p' := N) hp
  have ok := ok_of_done d (Nat.le_of_lt hp)
  rw [e2, bfs_succ (run_of_done d N (Nat.le_refl _) p hp)]
  show ((bfs b0 p).items ++ [(innAt b0 p A).item] ++ m2).getD p [] = _
  rw [getD_ext (by rw [List.length_append, ok.ilen]; simp), List.getD_eq_getElem?_getD, List.getElem?_append_right (by rw [ok.ilen]; exact Nat.le_refl _), ok.ilen]
  simp
/-- the turn that the search takes at an ask -/
theorem lr_step {N : Nat} (d : Done b0 N) {p k : Nat} (hp : p < N) (hk : k < A) :
    p < (innAt b0 p k).line.length ∧ ad (bfs b0 N).items p k = (bfs b0 p).line.getD p b0 [⟨k, hk⟩] ∧
    ((nx (bfs b0 N).items p k < (innAt b0 p k).line.length ∧ (innAt b0 p (k + 1)).line = (innAt b0 p k).line ∧ (innAt b0 p (k + 1)).rows = (innAt b0 p k).rows) ∨
    (nx (bfs b0 N).items p k = (innAt b0 p k).line.length ∧ (innAt b0 p k).line.length < N ∧ (innAt b0 p (k + 1)).line.length = (innAt b0 p k).line.length + 1 ∧ (innAt b0 p (k + 1)).rows = (innAt b0 p k).rows ++ [(innAt b0 p k).rows.getD p [] ++ [⟨k, hk⟩]])) := by
  have ok := ok_of_done d (Nat.le_of_lt hp)
  have iok := innAt_ok ok k (by omega)
  have run := run_of_done d N (Nat.le_refl _) p hp
  have lt : p < (innAt b0 p k).line.length := by
    obtain ⟨m, hm⟩ := iok.ext
    rw [hm, List.length_append]; omega
  have l2 := line_le d hp (j := k + 1) (by omega)
  have eR : (bfs b0 p).rows.getD p [] = (innAt b0 p k).rows.getD p [] := by
    obtain ⟨_, ⟨m, hm⟩, _⟩ := innAt_ext' (b0 := b0) (p := p) (j := 0) (j' := k) (by omega) (by omega)
    rw [hm]
    exact (getD_ext (by show p < (bfs b0 p).rows.length; rw [ok.len]; exact run)).symm
  have eI : ((bfs b0 N).items.getD p []).getD k (0, 0) = (innAt b0 p (k + 1)).item.getD k (0, 0) := by
    rw [item_at d hp]
    obtain ⟨_, _, ⟨m, hm⟩⟩ := innAt_ext' (b0 := b0) (p := p) (j := k + 1) (j' := A) (by omega) (Nat.le_refl _)
    rw [hm]
    exact getD_ext (by rw [(innAt_ok ok (k + 1) (by omega)).ilen]; omega)
  have last : ∀ x, ((innAt b0 p k).item ++ [x]).getD k (0, 0) = x := fun x => by
    rw [List.getD_eq_getElem?_getD, List.getElem?_append_right (by rw [iok.ilen]; exact Nat.le_refl _), iok.ilen]
    simp
  refine ⟨lt, ?_⟩
  rw [innAt_succ hk] at eI l2 ⊢
  unfold nx ad
  rw [eI]
  rcases vis_cases ((bfs b0 p).line.getD p b0) ((bfs b0 p).rows.getD p []) (innAt b0 p k) ⟨k, hk⟩ with ⟨hin, e⟩ | ⟨hin, e⟩
  · rw [e] at l2 ⊢
    dsimp only at l2 ⊢
    rw [last]
    exact ⟨rfl, .inl ⟨idx_lt hin, rfl, rfl⟩⟩
  · rw [e] at l2 ⊢
    dsimp only at l2 ⊢
    rw [last]
    rw [List.length_append] at l2 ⊢
    exact ⟨rfl, .inr ⟨rfl, by simp at l2; omega, rfl, by rw [eR]⟩⟩
/-! ### the search through kinds -/
def LkR (A : Nat) (st : Steps) : Nat → Beh A → Prop := fun i b => i < st.length ∧ beh A st i = b
theorem lk_get {st : Steps} {lk : List Nat} {line : List (Beh A)} (h : Paired (LkR A st) lk line) {q : Nat} {b : Beh A} (hb : line[q]? = some b) : lk[q]? = some (lk.getD q 0) ∧ lk.getD q 0 < st.length ∧ beh A st (lk.getD q 0) = b := by
  obtain ⟨i, h1, h2, h3⟩ := pgetR h hb
  have e : lk.getD q 0 = i := by rw [List.getD_eq_getElem?_getD, h1]; rfl
  rw [e]
  exact ⟨h1, h2, h3⟩
def clsL (cl lk : List Nat) : List Nat := lk.map fun i => cl.getD i 0
theorem cls_mem {st : Steps} {cl : List Nat} (co : ClOk A st cl) {lk : List Nat} {line : List (Beh A)} (h : Paired (LkR A st) lk line) {a : Nat} (ha : a < st.length) : cl.getD a 0 ∈ clsL cl lk ↔ beh A st a ∈ line := by
  constructor
  · intro q
    obtain ⟨i, hi, e⟩ := List.mem_map.mp q
    obtain ⟨n, hn⟩ := List.getElem?_of_mem hi
    obtain ⟨b, hb, h1, h2⟩ := pget h hn
    rw [(co.iff i a h1 ha).mp e] at h2
    rw [h2]; exact List.mem_of_getElem? hb
  · intro q
    obtain ⟨n, hn⟩ := List.getElem?_of_mem q
    obtain ⟨h1, h2, h3⟩ := lk_get h hn
    exact List.mem_map.mpr ⟨_, List.mem_of_getElem? h1, (co.iff _ _ h2 ha).mpr h3⟩
theorem cls_nodup {st : Steps} {cl : List Nat} (co : ClOk A st cl) : ∀ {lk : List Nat} {line : List (Beh A)}, Paired (LkR A st) lk line → line.Nodup → (clsL cl lk).Nodup
  | _, _, .nil, _ => List.nodup_nil
  | i :: lk, b :: line, .cons r t, nd => by
    rw [List.nodup_cons] at nd
    show (cl.getD i 0 :: clsL cl lk).Nodup
    rw [List.nodup_cons]
    refine ⟨fun q => nd.1 ?_, cls_nodup co t nd.2⟩
    have := (cls_mem co t r.1).mp q
    rw [r.2] at this
    exact this
theorem sh_step {st : Steps} {cl : List Nat} (v : Valid A st) (co : ClOk A st cl) {N : Nat} (d : Done b0 N) {p k : Nat} (hp : p < N) (hk : k < A) {lk : List Nat} (h : Paired (LkR A st) lk (innAt b0 p k).line) :
    lk.getD p 0 < st.length ∧ lk[p]? = some (lk.getD p 0) ∧ (clsL cl lk).Nodup ∧
    ((∃ q, (clsL cl lk)[q]? = some (cl.getD (nx st (lk.getD p 0) k) 0) ∧ innAt b0 p (k + 1) = ⟨(innAt b0 p k).line, (innAt b0 p k).rows, (innAt b0 p k).item ++ [(q, ad st (lk.getD p 0) k)]⟩) ∨
    (cl.getD (nx st (lk.getD p 0) k) 0 ∉ clsL cl lk ∧ (innAt b0 p k).line.length < N ∧ innAt b0 p (k + 1) = ⟨(innAt b0 p k).line ++ [beh A st (nx st (lk.getD p 0) k)], (innAt b0 p k).rows ++ [(innAt b0 p k).rows.getD p [] ++ [⟨k, hk⟩]], (innAt b0 p k).item ++ [(lk.length, ad st (lk.getD p 0) k)]⟩ ∧
      Paired (LkR A st) (lk ++ [nx st (lk.getD p 0) k]) ((innAt b0 p k).line ++ [beh A st (nx st (lk.getD p 0) k)]))) := by
  have ok := ok_of_done d (Nat.le_of_lt hp)
  have iok := innAt_ok ok k (by omega)
  have run := run_of_done d N (Nat.le_refl _) p hp
  have l2 := line_le d hp (j := k + 1) (by omega)
  have hb : (innAt b0 p k).line[p]? = some ((bfs b0 p).line.getD p b0) := by
    obtain ⟨m, hm⟩ := iok.ext
    rw [hm, List.getElem?_append_left run, getD_some run]
  obtain ⟨g1, g2, g3⟩ := lk_get h hb
  have ha := (v _ g2).2 k hk
  have eD : der ((bfs b0 p).line.getD p b0) ⟨k, hk⟩ = beh A st (nx st (lk.getD p 0) k) := by rw [← g3, der_beh]
  have eA : (bfs b0 p).line.getD p b0 [⟨k, hk⟩] = ad st (lk.getD p 0) k := by rw [← g3, beh_one]
  have eR : (bfs b0 p).rows.getD p [] = (innAt b0 p k).rows.getD p [] := by
    obtain ⟨_, ⟨m, hm⟩, _⟩ := innAt_ext' (b0 := b0) (p := p) (j := 0) (j' := k) (by omega) (by omega)
    rw [hm]
    exact (getD_ext (by show p < (bfs b0 p).rows.length; rw [ok.len]; exact run)).symm
  refine ⟨g2, g1, cls_nodup co h iok.nd, ?_⟩
  rw [innAt_succ hk] at l2 ⊢
  rcases vis_cases ((bfs b0 p).line.getD p b0) ((bfs b0 p).rows.getD p []) (innAt b0 p k) ⟨k, hk⟩ with ⟨hin, e⟩ | ⟨hin, e⟩
  · rw [e, eA]
    obtain ⟨j1, j2, j3⟩ := lk_get h (idx_at hin)
    refine .inl ⟨_, ?_, rfl⟩
    unfold clsL
    rw [List.getElem?_map, j1]
    exact congrArg some ((co.iff _ _ j2 ha).mpr (by rw [j3, eD]))
  · rw [e] at l2
    rw [e, eA, eD, eR, Paired.length h]
    rw [eD] at hin
    refine .inr ⟨fun q => hin ((cls_mem co h ha).mp q), ?_, rfl, Paired.snoc h ⟨ha, rfl⟩⟩
    dsimp only at l2
    rw [List.length_append] at l2
    simp at l2; omega
/-- the search comes to its end -/
theorem done_ex {st : Steps} (v : Valid A st) {i : Nat} (hi : i < st.length) : ∃ N, N ≤ st.length ∧ Done (beh A st i) N := by
  classical
  have all : ∀ p, ∀ b ∈ (bfs (beh A st i) p).line, b ∈ (List.range st.length).map (beh A st) := bfs_all (F := fun b => b ∈ (List.range st.length).map (beh A st))
    (fun b k hb => by
      obtain ⟨j, hj, rfl⟩ := List.mem_map.mp hb
      rw [der_beh]
      exact List.mem_map.mpr ⟨_, List.mem_range.mpr ((v j (List.mem_range.mp hj)).2 k.val k.2), rfl⟩) (List.mem_map.mpr ⟨i, List.mem_range.mpr hi, rfl⟩)
  have : ∀ n, n ≤ st.length + 1 → (∃ N, N < n ∧ Done (beh A st i) N) ∨ (∀ q, q < n → q < (bfs (beh A st i) q).line.length) := by
    intro n
    induction n with
    | zero => intro _; exact .inr fun q h => absurd h (Nat.not_lt_zero _)
    | succ n ih =>
      intro hn
      rcases ih (by omega) with ⟨N, h1, h2⟩ | h
      · exact .inl ⟨N, by omega, h2⟩
      · have ok := bfs_ok n h
        have := ok.ple
        rcases Nat.lt_or_ge n (bfs (beh A st i) n).line.length with g | g
        · refine .inr fun q hq => ?_
          by_cases hqn : q < n
          · exact h q hqn
          · have : q = n := by omega
            subst this; exact g
        · exact .inl ⟨n, by omega, by show (bfs (beh A st i) n).line.length = n; omega⟩
  rcases this (st.length + 1) (Nat.le_refl _) with ⟨N, h1, h2⟩ | h
  · exact ⟨N, by omega, h2⟩
  · have ok := bfs_ok (st.length + 1) h
    have h1 := ok.ple
    have h2 := len_le ok.nd (all _)
    rw [List.length_map, List.length_range] at h2
    omega
end
end AW
namespace AW
open PySem PySem.Spec PyProof.Rows L2
/-! ### pairs -/
section
variable {α β : Type} {K : PySem.W.Frag} {H0 H : Hp} {R : DR α} {S : DR β} {v : V} {p : α × β} {Q : VK}
theorem px0 (s : Same H0 H) (h : dPair K R S H0 v p) (q : ∀ u, R H0 u p.1 → Q u H) : rIxQ K v (.int 0) H Q := by
  unfold rIxQ
  obtain ⟨a, x, y, rfl, hq, r, t⟩ := h
  exact .inr (.inl ⟨a, [x, y], 0, x, rfl, rfl, Same.tup s hq, atI_of (j := 0) rfl rfl, q x r⟩)
theorem px1 (s : Same H0 H) (h : dPair K R S H0 v p) (q : ∀ u, S H0 u p.2 → Q u H) : rIxQ K v (.int 1) H Q := by
  unfold rIxQ
  obtain ⟨a, x, y, rfl, hq, r, t⟩ := h
  exact .inr (.inl ⟨a, [x, y], 1, y, rfl, rfl, Same.tup s hq, atI_of (j := 1) rfl rfl, q y t⟩)
theorem pseq (h : dPair K R S H0 v p) : dSeq K (fun _ _ _ => True) H0 v [(), ()] := by
  obtain ⟨a, x, y, rfl, hq, r, t⟩ := h
  exact ⟨a, _, rfl, .inr hq, .cons trivial (.cons trivial .nil)⟩
/-- for x, y in pairs -/
theorem pTgt {i j : Nat} {σ : L2.St} {k : L2.St → Hp → Prop} (s : Same H0 H) (h : dPair K R S H0 v p) (q : ∀ x y, R H0 x p.1 → S H0 y p.2 → k ((σ.set i (some x)).set j (some y)) H) :
    gTup K 2 (gCons (gName i) (gCons (gName j) gNil)) v σ H k := by
  obtain ⟨a, x, y, rfl, hq, r, t⟩ := h
  exact ⟨a, [x, y], rfl, Same.tup s hq, rfl, x, [y], rfl, y, [], rfl, rfl, q x y r t⟩
end
theorem ixN_nat {n j : Nat} (hj : j < n) : ixN n (j : Int) = some j := by
  unfold ixN
  rw [if_pos (by omega), if_pos (by omega)]
  simp
def nums (n : Nat) : List V := (List.range n).map fun (i : Nat) => V.int (i : Int)
theorem nums_len (n : Nat) : (nums n).length = n := by simp [nums]
theorem nums_at {n i : Nat} (h : i < n) : (nums n)[i]? = some (.int (i : Int)) := by simp [nums, h]
theorem nums_snoc (n : Nat) : nums n ++ [.int (n : Int)] = nums (n + 1) := by unfold nums; rw [List.range_succ, List.map_append]; rfl
def rowV (A : Str) {n : Nat} (R : List (List (Fin n))) (N : Nat) : List V := R.map (fun r => V.str (rowS A (vals r))) ++ List.replicate (N - R.length) .non
theorem rowV_len {A : Str} {n : Nat} {R : List (List (Fin n))} {N : Nat} (h : R.length ≤ N) : (rowV A R N).length = N := by simp [rowV]; omega
theorem rowV_old {A : Str} {n : Nat} {R : List (List (Fin n))} {N i : Nat} (h : i < R.length) : (rowV A R N)[i]? = some (.str (rowS A (vals (R.getD i [])))) := by
  unfold rowV
  rw [List.getElem?_append_left (by simpa using h), List.getElem?_map, getD_some h []]
  rfl
theorem rowV_new {A : Str} {n : Nat} {R : List (List (Fin n))} {N : Nat} (h : R.length < N) : (rowV A R N)[R.length]? = some .non := by
  unfold rowV
  rw [List.getElem?_append_right (by simp), List.length_map, Nat.sub_self, List.getElem?_replicate, if_pos (by omega)]
theorem rowV_set {A : Str} {n : Nat} {R : List (List (Fin n))} {N : Nat} (h : R.length < N) (r : List (Fin n)) : (rowV A R N).set R.length (.str (rowS A (vals r))) = rowV A (R ++ [r]) N := by
  unfold rowV
  rw [List.set_append_right _ _ (by simp), List.length_map, Nat.sub_self]
  obtain ⟨m, hm⟩ : ∃ m, N - R.length = m + 1 := ⟨N - R.length - 1, by omega⟩
  rw [hm, List.replicate_succ, List.set_cons_zero, List.map_append, List.length_append, List.append_assoc]
  have : N - (R.length + [r].length) = m := by simp; omega
  rw [this]
  rfl
theorem rowV_one {A : Str} {n N : Nat} (h : 0 < N) : ((List.replicate N [V.non]).flatten).set 0 (.str "") = rowV A [([] : List (Fin n))] N := by
  obtain ⟨m, rfl⟩ : ∃ m, N = m + 1 := ⟨N - 1, by omega⟩
  rw [List.replicate_succ, List.flatten_cons]
  show V.str "" :: (List.replicate m [V.non]).flatten = V.str (rowS A (vals [])) :: List.replicate m V.non
  rw [List.flatten_replicate_singleton]
  rfl
theorem rowS_snoc (A : Str) (ks : List Nat) (k : Nat) : rowS A ks ++ ⟨#[cp A k]⟩ = rowS A (ks ++ [k]) := by
  show (⟨(ks.map (cp A)).toArray ++ #[cp A k]⟩ : Str) = _
  unfold rowS
  congr 1
  simp
theorem inn_short {A : Nat} {b0 : Beh A} {p : Nat} (h : ∀ (i : Nat) (r : List (Fin A)), (bfs b0 p).rows[i]? = some r → r.length ≤ i) (hp : p < (bfs b0 p).rows.length) : ∀ j, j ≤ A → ∀ (i : Nat) (r : List (Fin A)), (innAt b0 p j).rows[i]? = some r → r.length ≤ i
  | 0, _ => h
  | j + 1, hj => by
    have ih := inn_short h hp j (by omega)
    obtain ⟨_, ⟨m, hm⟩, _⟩ := innAt_ext' (b0 := b0) (p := p) (j := 0) (j' := j) (by omega) (by omega)
    rw [innAt_succ (by omega)]
    rcases vis_cases ((bfs b0 p).line.getD p b0) ((bfs b0 p).rows.getD p []) (innAt b0 p j) ⟨j, by omega⟩ with ⟨_, e⟩ | ⟨_, e⟩
    · rw [e]; exact ih
    · rw [e]
      intro i r hr
      rcases snoc_get hr with ⟨_, q⟩ | ⟨q, e2⟩
      · exact ih i r q
      · subst e2
        have h1 := h p _ (getD_some hp [])
        have : (innAt b0 p j).rows.length = (bfs b0 p).rows.length + m.length := by rw [hm, List.length_append]; rfl
        rw [List.length_append]
        show _ + 1 ≤ _
        omega
theorem rows_short {A : Nat} {b0 : Beh A} {N : Nat} (d : Done b0 N) : ∀ p, p ≤ N → ∀ (i : Nat) (r : List (Fin A)), (bfs b0 p).rows[i]? = some r → r.length ≤ i
  | 0, _, i, r, h => by
    have h' : [([] : List (Fin A))][i]? = some r := h
    cases i with
    | zero => simp at h'; subst h'; simp
    | succ i => simp at h'
  | p + 1, hp, i, r, h => by
    have run := run_of_done d N (Nat.le_refl _) p hp
    have ok := ok_of_done d (p := p) (by omega)
    rw [bfs_succ run] at h
    exact inn_short (rows_short d p (by omega)) (by rw [ok.len]; exact run) A (Nat.le_refl _) i r h
section
variable {P : Program} {w : World} {K : PySem.W.Frag} {mg : Str → Option Value} {base : Heap} {cSt cSg cMa cVe cRl : Addr}
def sp_is_item (K : PySem.W.Frag) : Sp := fun vs H Q _ => ∃ (A : Str) (v : V) (n : Nat) (row : List (Nat × Int)), vs = [v, .int (n : Int), .str A] ∧ Asks A ∧ dTup K (dPair K dNat dInt) H v row ∧ row.length = A.cps.size ∧ (∀ s ∈ row, s.1 < n) ∧ ∀ H', Same H H' → Q (.bl true) H'
theorem fn_is_item (c : Env K mg cSt cSg cMa cVe cRl) : Fn P w K mg base "is_item" 3 P_is_item (sp_is_item K) := by
  refine fn_ok c.d_is_item sc_is_item (fun _ _ _ _ _ _ us hl => match us, hl with | [_, _, _], _ => rfl) (fun vs H Q E h => ?_) (fun f cdv A outer s H vs Q E hr h => ?_)
  · obtain ⟨A, v, n, row, rfl, hA, hv, hl, hlt, q⟩ := h
    rfl
  · obtain ⟨A, v, n, row, rfl, hA, hv, hl, hlt, q⟩ := h
    refine ⟨_, (pss_cons (ps_if (PW.pt (pw_or (pt_not (pt_val (pe_fn (fn_is_listed c) (hr.mono (by decide)) rfl (pa_cons (pv 0) pa_nil)))) (pw_or1 (pt_cmpR op_ne (pe_callB (call_len_seqK (K := K)) (by rfl) c.b_len (by decide +kernel) (pa_cons (pv 0) pa_nil)) (pe_callB call_len_str (by rfl) c.b_len (by decide +kernel) (pa_cons (pv 2) pa_nil)) (nomark _)))))
        (pss_one (ps_ret pe_bl))
        pss_nil)
      (pss_cons (ps_for PassesOwn.never rfl (pi_seqK (K := K) (pv 0)) (pg_name (i := 3) sc_is_item.nd rfl (Or.inl rfl))
        (pss_cons (ps_if (PW.pt (pw_or (pt_not (pt_val (pe_fn (fn_is_listed c) (hr.mono (by decide)) rfl (pa_cons (pv 3) pa_nil)))) (pw_or1 (pt_cmpR op_ne (pe_callB (call_len_seqK (K := K)) (by rfl) c.b_len (by decide +kernel) (pa_cons (pv 3) pa_nil)) pe_int (nomark _)))))
          (pss_one (ps_ret pe_bl))
          pss_nil)
        (pss_one (ps_if (PW.pt (pw_or (pt_not (pt_val (pe_fn (fn_is_count c) (hr.mono (by decide)) rfl (pa_cons (pe_ix (ix_seqK (K := K)) (pv 3) pe_int (fun _ _ => rfl)) (pa_cons pe_int (pa_cons (pe_op op_sub (pv 1) pe_int) pa_nil)))))) (pw_or1 (pt_not (pt_val (pe_fn (fn_is_integer c) (hr.mono (by decide)) rfl (pa_cons (pe_ix (ix_seqK (K := K)) (pv 3) pe_int (fun _ _ => rfl)) pa_nil)))))))
          (pss_one (ps_ret pe_bl))
          pss_nil))))
      (pss_one (ps_ret pe_bl)))), ?_⟩
    have l3 := (asks_len hA).2
    have l3' : A.cps.size ≤ 3 := l3
    refine ⟨v, rfl, v, true, rfl, .inl ⟨rfl, ty_seq (seq_tup hv)⟩, fun H1 s1 => ⟨true, rfl, iteF ?_⟩⟩
    have h1 := dTup_mono mPair _ _ _ _ s1 hv
    refine ⟨v, rfl, len_of (seq_tup h1) ?_⟩
    rw [hl]
    refine ⟨_, rfl, A, rfl, le_ok (by omega), rfl, _, rfl, iteN1 rfl ?_⟩
    obtain ⟨a, us, rfl, hq, p⟩ := id h1
    refine ⟨_, rfl, a, us, rfl, .inr ⟨hq, ?_⟩⟩
    refine for_tup (K := K) (a := a) (xs := us) (fun i σ H' => ∃ x3, σ = [some (.ref a), some (.int (n : Int)), some (.str A), x3] ∧ Same H1 H') ⟨none, rfl, Same.refl _⟩ (fun i σ H' _ ⟨_, _, e⟩ => Same.tup e hq) ?_ ?_
    · rintro i x σ H2 hi ⟨x3, rfl, s2⟩
      obtain ⟨s, hs, hx⟩ := pget p hi
      have hx2 := mPair _ _ _ _ s2 hx
      refine ⟨x, rfl, x, true, rfl, .inl ⟨rfl, ty_seq (pseq hx2)⟩, fun H3 s3 => ⟨true, rfl, iteF ?_⟩⟩
      have hx3 := mPair _ _ _ _ s3 hx2
      refine ⟨x, rfl, len_of (pseq hx3) ⟨rfl, _, rfl, iteN1 rfl ?_⟩⟩
      refine ⟨x, rfl, px0 (Same.refl _) hx3 fun u hu => ?_⟩
      cases (show u = .int (s.1 : Int) from hu)
      have hsn := hlt s (List.mem_of_getElem? hs)
      refine ⟨_, rfl, _, _, rfl, rfl, _, _, _, rfl, ?_⟩
      refine ⟨by omega, by omega, true, rfl, iteF ?_⟩
      refine ⟨x, rfl, px1 (Same.refl _) hx3 fun u hu => ?_⟩
      cases (show u = .int s.2 from hu)
      exact ⟨s.2, rfl, true, rfl, iteF ⟨_, rfl, s2.trans s3⟩⟩
    · rintro σ H2 ⟨x3, rfl, s2⟩
      exact q _ (s1.trans s2)
def sp_least_rows (K : PySem.W.Frag) : Sp := fun vs H Q _ => ∃ (A : Str) (v : V) (b0 : Beh A.cps.size) (N : Nat), vs = [.str A, v] ∧ Asks A ∧ Done b0 N ∧ N ≤ 1000 ∧ dSteps K H v (bfs b0 N).items ∧
  ∀ l H', Same H H' → H l = none → H' l = some (.tup ((bfs b0 N).rows.map fun r => V.str (rowS A (vals r)))) → Q (.ref l) H'
theorem fn_least_rows (c : Env K mg cSt cSg cMa cVe cRl) : Fn P w K mg base "least_rows" 1 P_least_rows (sp_least_rows K) := by
  refine fn_ok c.d_least_rows sc_least_rows (fun _ _ _ _ _ _ us hl => match us, hl with | [_, _], _ => rfl) (fun vs H Q E h => ?_) (fun f cdv A outer s H vs Q E hr h => ?_)
  · obtain ⟨A, v, b0, N, rfl, hA, d, hN, hv, q⟩ := h
    rfl
  · obtain ⟨A, v, b0, N, rfl, hA, d, hN, hv, q⟩ := h
    refine ⟨_, (pss_cons (ps_set (i := 2) sc_least_rows.nd rfl (Or.inl rfl) (pe_op op_rep (pe_lst (pa_cons pe_non pa_nil)) (pe_callB (call_len_seqK (K := K)) (by rfl) c.b_len (by decide +kernel) (pa_cons (pv 1) pa_nil))))
      (pss_cons (ps_asg pe_str (pg_sub (pv 2) pe_int set_list))
      (pss_cons (ps_set (i := 3) sc_least_rows.nd rfl (Or.inl rfl) (pe_lst (pa_cons pe_int pa_nil)))
      (pss_cons (ps_set (i := 4) sc_least_rows.nd rfl (Or.inl rfl) pe_int)
      (pss_cons (ps_while PassesOwn.never (pt_cmpR op_lt (pv 4) (pe_callB (call_len_seqK (K := K)) (by rfl) c.b_len (by decide +kernel) (pa_cons (pv 3) pa_nil)) (nomark _))
        (pss_cons (ps_set (i := 5) sc_least_rows.nd rfl (Or.inl rfl) (pe_ix (ix_seqK (K := K)) (pv 3) (pv 4) (fun _ _ => rfl)))
        (pss_cons (ps_set (i := 4) sc_least_rows.nd rfl (Or.inl rfl) (pe_op op_add (pv 4) pe_int))
        (pss_one (ps_for PassesOwn.never rfl (pi_enumS rfl c.b_enumerate (pa_cons (pv 0) pa_nil)) (pg_tup rfl (pgs_cons (pg_name (i := 6) sc_least_rows.nd rfl (Or.inl rfl)) (pgs_cons (pg_name (i := 7) sc_least_rows.nd rfl (Or.inl rfl)) pgs_nil)))
          (pss_cons (ps_set (i := 8) sc_least_rows.nd rfl (Or.inl rfl) (pe_ix (ix_seqK (K := K)) (pe_ix (ix_seqK (K := K)) (pe_ix (ix_seqK (K := K)) (pv 1) (pv 5) (fun _ _ => rfl)) (pv 6) (fun _ _ => rfl)) pe_int (fun _ _ => rfl)))
          (pss_one (ps_if (pt_cmp (pc_isN (pe_ix (ix_seqK (K := K)) (pv 2) (pv 8) (fun _ _ => rfl))))
            (pss_cons (ps_asg (pe_op op_add_str (pe_ix (ix_seqK (K := K)) (pv 2) (pv 5) (fun _ _ => rfl)) (pv 7)) (pg_sub (pv 2) (pv 8) set_list))
            (pss_one (ps_expr (pe_bm PySem.F.plainAttrs_list PySem.F.slot_list_append PySem.F.type_list_append mt_append (pv 3) (pa_cons (pv 8) pa_nil)))))
            pss_nil))))))))
      (pss_one (ps_ret (pe_callTy (call_tuple_ofK (K := K)) (by rfl) c.b_tuple (by decide +kernel) (pa_cons (pv 2) pa_nil))))))))), ?_⟩
    have okN := ok_of_done d (Nat.le_refl N)
    have hpos : 0 < N := run_of_done d N (Nat.le_refl _) |> fun _ => by
      have h1 : (bfs b0 N).line.length = N := d
      have := (List.getElem?_eq_some_iff.mp okN.zero).1
      omega
    refine ⟨by show 1 ≤ sizeLine; decide, fun L0 nL0 => ⟨v, rfl, len_of (dSeq_mono (dTup_mono mPair) _ _ _ _ (same_upd nL0) (seq_tup hv)) ?_⟩⟩
    rw [okN.ilen]
    refine ⟨L0, (N : Int), [.non], rfl, rfl, upd_same, by omega, by omega, le_ok (by simp; omega), fun R nR => ?_⟩
    have s1 : Same H (upd (upd H L0 (.lst [.non])) R (.lst (List.replicate ((N : Int)).toNat [V.non]).flatten)) := (same_upd nL0).trans (same_upd nR)
    refine ⟨_, rfl, R, _, 0, 0, rfl, rfl, upd_same, ixN_nat (by rw [Int.toNat_natCast, List.flatten_replicate_singleton, List.length_replicate]; exact hpos), ?_⟩
    rw [upd_upd, Int.toNat_natCast, rowV_one (A := A) (n := A.cps.size) hpos]
    refine ⟨by show 1 ≤ sizeLine; decide, fun Ln nLn => ?_⟩
    have nR0 : H R = none := (same_upd nL0).free nR
    have nLn1 : (upd H L0 (.lst [.non])) Ln = none := (same_upd nR).free nLn
    have hne : R ≠ Ln := fun e => by rw [← e, upd_same] at nLn; cases nLn
    have nL : H Ln = none := (same_upd nL0).free nLn1
    have hL0R : R ≠ L0 := fun e => by rw [e, upd_same] at nR; cases nR
    have hA3 : A.cps.size ≤ 3 := (asks_len hA).2
    generalize hHw : upd (upd (upd H L0 (.lst [.non])) R (.lst (rowV A [([] : List (Fin A.cps.size))] N))) Ln (.lst [.int 0]) = Hw
    have sHw : Same H Hw := by
      rw [← hHw]
      exact (same_upd2 (same_upd2 (same_upd nL0) nR0) nL)
    have hRw : Hw R = some (.lst (rowV A [([] : List (Fin A.cps.size))] N)) := by rw [← hHw, upd_ne hne, upd_same]
    have hLw : Hw Ln = some (.lst [.int 0]) := by rw [← hHw, upd_same]
    refine ⟨fun m σ H' => ∃ (p : Nat) (x5 x6 x7 x8 : Option V), m = N - p ∧ p ≤ N ∧ σ = [some (.str A), some v, some (.ref R), some (.ref Ln), some (.int (p : Int)), x5, x6, x7, x8] ∧ Same H H' ∧ H' R = some (.lst (rowV A (bfs b0 p).rows N)) ∧ H' Ln = some (.lst (nums (bfs b0 p).line.length)),
      ⟨_, 0, none, none, none, none, rfl, Nat.zero_le _, rfl, sHw, hRw, hLw⟩, ?_⟩
    rintro m σ H2 ⟨p, x5, x6, x7, x8, rfl, hp, rfl, s2, hR2, hL2⟩
    refine ⟨_, rfl, _, rfl, lenL_of hL2 ⟨_, _, rfl, rfl, _, rfl, ?_⟩⟩
    rw [nums_len]
    refine ite2 (fun hlt => ?_) (fun hlt => ?_)
    · have hlt := of_decide_eq_true hlt
      have hlt : p < (bfs b0 p).line.length := by omega
      have ok := ok_of_done d hp
      have hpN : p < N := by
        rcases Nat.lt_or_ge p N with g | g
        · exact g
        · have : p = N := by omega
          subst this
          rw [show (bfs b0 p).line.length = p from d] at hlt
          omega
      refine ⟨fun σ' H' => ∃ (x5 x6 x7 x8 : Option V), p + 1 ≤ N ∧ σ' = [some (.str A), some v, some (.ref R), some (.ref Ln), some (.int ((p + 1 : Nat) : Int)), x5, x6, x7, x8] ∧ Same H H' ∧ H' R = some (.lst (rowV A (bfs b0 (p + 1)).rows N)) ∧ H' Ln = some (.lst (nums (bfs b0 (p + 1)).line.length)),
        fun σ' H' ⟨y5, y6, y7, y8, h⟩ => ⟨N - (p + 1), by omega, p + 1, y5, y6, y7, y8, rfl, h⟩, ?_⟩
      refine ⟨_, rfl, _, rfl, ixL_of hL2 (j := p) rfl (nums_at hlt) ?_⟩
      refine ⟨_, rfl, _, _, rfl, rfl, ?_⟩
      refine ⟨_, rfl, _, rfl, ?_⟩
      refine for_it walk_enumS (fun k σ H' => ∃ (x6 x7 x8 : Option V), σ = [some (.str A), some v, some (.ref R), some (.ref Ln), some (.int ((p : Int) + 1)), some (.int (p : Int)), x6, x7, x8] ∧ Same H H' ∧ H' R = some (.lst (rowV A (innAt b0 p k).rows N)) ∧ H' Ln = some (.lst (nums (innAt b0 p k).line.length)))
        ⟨x6, x7, x8, rfl, s2, hR2, hL2⟩ (fun _ _ _ _ _ => trivial) ?_ ?_
      · rintro k x σ H3 H4 hk ⟨x6, x7, x8, rfl, s3, hR3, hL3⟩ ⟨T, cc, rfl, nT, rfl, hcc⟩
        obtain ⟨hkA, rfl⟩ := cps_at hcc
        have sT : Same H3 (upd H3 T (.tup [.int (k : Nat), .str ⟨#[cp A k]⟩])) := same_upd nT
        refine pair_tgt upd_same ?_
        have hR4 := sT _ _ hR3
        have hL4 := sT _ _ hL3
        have s4 := s3.trans sT
        obtain ⟨hpl, _, hcase⟩ := lr_step d hpN hkA
        have iok := innAt_ok ok k (by omega)
        have iok1 := innAt_ok ok (k + 1) (by omega)
        have hle := line_le d hpN (j := k) (by omega)
        have hv4 := mSteps _ _ _ _ s4 hv
        have ha : (bfs b0 N).items[p]? = some ((bfs b0 N).items.getD p []) := getD_some (by rw [okN.ilen]; exact hpN) []
        have hrl : ((bfs b0 N).items.getD p []).length = A.cps.size := by
          obtain ⟨_, _, h2, _⟩ := okN.it p hpN
          exact h2
        have hb : ((bfs b0 N).items.getD p [])[k]? = some (((bfs b0 N).items.getD p []).getD k (0, 0)) := getD_some (by rw [hrl]; exact hkA) _
        refine ⟨v, rfl, _, rfl, ix_of (seq_tup hv4) (j := p) rfl ha fun u1 hu1 => ⟨_, rfl, ix_of (seq_tup hu1) (j := k) rfl hb fun u2 hu2 => px0 (Same.refl _) hu2 fun u3 hu3 => ?_⟩⟩
        cases (show u3 = .int ((nx (bfs b0 N).items p k : Nat) : Int) from hu3)
        rcases hcase with ⟨hq, e1, e2⟩ | ⟨hq, hltN, e1, e2⟩
        · refine ⟨_, rfl, _, rfl, ixL_of hR4 (j := nx (bfs b0 N).items p k) rfl (rowV_old (by rw [iok.len]; exact hq)) ⟨_, rfl, iteND (fun e => nomatch e) ?_⟩⟩
          refine ⟨_, _, _, rfl, s4, ?_, ?_⟩
          · rw [e2]; exact hR4
          · rw [e1]; exact hL4
        · rw [hq]
          have hlen : (innAt b0 p k).rows.length = (innAt b0 p k).line.length := iok.len
          refine ⟨_, rfl, _, rfl, ixL_of hR4 (j := (innAt b0 p k).rows.length) (by rw [hlen]) (rowV_new (by omega)) ⟨_, rfl, iteD rfl ?_⟩⟩
          have hsh : (vals ((innAt b0 p k).rows.getD p [])).length ≤ p := by
            have := inn_short (rows_short d p hp) (by rw [ok.len]; exact hlt) k (by omega) p _ (getD_some (by omega) [])
            unfold vals
            rw [List.length_map]; exact this
          refine ⟨_, rfl, _, rfl, ixL_of hR4 (j := p) rfl (rowV_old (by omega)) ⟨_, rfl, _, _, rfl, rfl, le_ok ?_, ?_⟩⟩
          · show (rowS A _).cps.size + 1 ≤ _
            rw [rowS_size]; omega
          refine ⟨_, rfl, _, rfl, R, _, _, (innAt b0 p k).rows.length, rfl, rfl, hR4, ?_, ?_⟩
          · rw [rowV_len (by omega), ← hlen]; exact ixN_nat (by omega)
          rw [rowS_snoc, show vals ((innAt b0 p k).rows.getD p []) ++ [k] = vals ((innAt b0 p k).rows.getD p [] ++ [⟨k, hkA⟩]) from (vals_append ((innAt b0 p k).rows.getD p []) [⟨k, hkA⟩]).symm, rowV_set (by omega)]
          have hL5 : (upd (upd H3 T (.tup [.int (k : Nat), .str ⟨#[cp A k]⟩])) R (.lst (rowV A ((innAt b0 p k).rows ++ [(innAt b0 p k).rows.getD p [] ++ [⟨k, hkA⟩]]) N))) Ln = some (.lst (nums (innAt b0 p k).line.length)) := by rw [upd_ne (Ne.symm hne)]; exact hL4
          refine ⟨_, rfl, ty_lst hL5, _, rfl, _, _, _, rfl, rfl, hL5, len_ok (by rw [nums_len]; omega), ?_⟩
          rw [nums_snoc, e1.symm]
          refine ⟨_, _, _, rfl, same_upd2 (same_upd2 s4 nR0) nL, ?_, upd_same⟩
          rw [e2, upd_ne hne, upd_same]
      · rintro σ H3 ⟨x6, x7, x8, rfl, s3, hR3, hL3⟩
        refine ⟨_, _, _, _, hpN, rfl, s3, ?_, ?_⟩
        · rw [bfs_succ hlt]; exact hR3
        · rw [bfs_succ hlt]; exact hL3
    · have hge : ¬ (p : Int) < ((bfs b0 p).line.length : Int) := fun z => hlt (decide_eq_true z)
      have ok := ok_of_done d hp
      have hpN : p = N := by
        have := ok.ple
        exact done_unique (show (bfs b0 p).line.length = p by omega) d
      subst hpN
      refine ⟨_, rfl, tuple_of hR2 fun l nl => q l _ (s2.trans (same_upd nl)) (s2.free nl) ?_⟩
      rw [upd_same]
      unfold rowV
      rw [ok.len, show (bfs b0 p).line.length = p from d, Nat.sub_self]
      simp
end
end AW
namespace AW
open PySem PySem.Spec PyProof.Rows L2
/-! ### machines in the heap -/
structure Mc where
  asks : Str
  first : Int
  steps : Steps
  rows : List (List Nat)
def dMach (K : PySem.W.Frag) (cMa : Addr) : DR Mc := fun H v d => ∃ a dx fs vs vr, v = .ref a ∧ H a = some (.ins cMa dx fs) ∧ fs.lookup ("asks" : Str) = some (.str d.asks) ∧ fs.lookup ("first" : Str) = some (.int d.first) ∧
  fs.lookup ("steps" : Str) = some vs ∧ fs.lookup ("rows" : Str) = some vr ∧ dSteps K H vs d.steps ∧ dTup K (dRow d.asks) H vr d.rows
abbrev dStepsL (K : PySem.W.Frag) : DR Steps := dLst K (dTup K (dPair K dNat dInt))
theorem mStepsL {K : PySem.W.Frag} : Mono (dStepsL K) := dLst_mono (dTup_mono mPair)
theorem dMach_mono {K : PySem.W.Frag} {cMa : Addr} : Mono (dMach K cMa) := fun H H' v d s ⟨a, dx, fs, vs, vr, e, h, h1, h2, h3, h4, h5, h6⟩ =>
  ⟨a, dx, fs, vs, vr, e, s _ _ h, h1, h2, h3, h4, mSteps _ _ _ _ s h5, dTup_mono (dRow_mono _) _ _ _ _ s h6⟩
section
variable {K : PySem.W.Frag} {cMa : Addr} {H0 H : Hp} {v : V} {d : Mc} {Q : VK}
theorem ma_asks (s : Same H0 H) (cl : Cls K cMa) (n : NoAttr K cMa "asks") (h : dMach K cMa H0 v d) (q : Q (.str d.asks) H) : rFldQ K "asks" v H Q := by
  unfold rFldQ
  obtain ⟨a, dx, fs, vs, vr, e, h0, h1, h2, h3, h4, h5, h6⟩ := h
  exact ⟨a, cMa, dx, fs, _, e, s _ _ h0, cl, n, h1, q⟩
theorem ma_first (s : Same H0 H) (cl : Cls K cMa) (n : NoAttr K cMa "first") (h : dMach K cMa H0 v d) (q : Q (.int d.first) H) : rFldQ K "first" v H Q := by
  unfold rFldQ
  obtain ⟨a, dx, fs, vs, vr, e, h0, h1, h2, h3, h4, h5, h6⟩ := h
  exact ⟨a, cMa, dx, fs, _, e, s _ _ h0, cl, n, h2, q⟩
theorem ma_steps (s : Same H0 H) (cl : Cls K cMa) (n : NoAttr K cMa "steps") (h : dMach K cMa H0 v d) (q : ∀ u, dSteps K H0 u d.steps → Q u H) : rFldQ K "steps" v H Q := by
  unfold rFldQ
  obtain ⟨a, dx, fs, vs, vr, e, h0, h1, h2, h3, h4, h5, h6⟩ := h
  exact ⟨a, cMa, dx, fs, _, e, s _ _ h0, cl, n, h3, q _ h5⟩
theorem ma_rows (s : Same H0 H) (cl : Cls K cMa) (n : NoAttr K cMa "rows") (h : dMach K cMa H0 v d) (q : ∀ u, dTup K (dRow d.asks) H0 u d.rows → Q u H) : rFldQ K "rows" v H Q := by
  unfold rFldQ
  obtain ⟨a, dx, fs, vs, vr, e, h0, h1, h2, h3, h4, h5, h6⟩ := h
  exact ⟨a, cMa, dx, fs, _, e, s _ _ h0, cl, n, h4, q _ h6⟩
end
def maFs1 (A : Str) (f : Int) (vs : V) : List (Str × V) := putF "steps" vs (putF "first" (.int f) (putF "asks" (.str A) []))
def maFs (A : Str) (f : Int) (vs vr : V) : List (Str × V) := putF "rows" vr (maFs1 A f vs)
theorem maFs1_steps {A : Str} {f : Int} {vs : V} : (maFs1 A f vs).lookup ("steps" : Str) = some vs := by unfold maFs1; rw [lookup_putF, if_pos rfl]
theorem maFs_asks {A : Str} {f : Int} {vs vr : V} : (maFs A f vs vr).lookup ("asks" : Str) = some (.str A) := by
  unfold maFs maFs1
  rw [lookup_putF, if_neg (by decide +kernel), lookup_putF, if_neg (by decide +kernel), lookup_putF, if_neg (by decide +kernel), lookup_putF, if_pos rfl]
theorem maFs_first {A : Str} {f : Int} {vs vr : V} : (maFs A f vs vr).lookup ("first" : Str) = some (.int f) := by
  unfold maFs maFs1
  rw [lookup_putF, if_neg (by decide +kernel), lookup_putF, if_neg (by decide +kernel), lookup_putF, if_pos rfl]
theorem maFs_steps {A : Str} {f : Int} {vs vr : V} : (maFs A f vs vr).lookup ("steps" : Str) = some vs := by
  unfold maFs maFs1
  rw [lookup_putF, if_neg (by decide +kernel), lookup_putF, if_pos rfl]
theorem maFs_rows {A : Str} {f : Int} {vs vr : V} : (maFs A f vs vr).lookup ("rows" : Str) = some vr := by
  unfold maFs
  rw [lookup_putF, if_pos rfl]
/-! ### steps as numbers -/
def toDD (st : Steps) : DD 3 := (st.map fun row => row.map fun (p : Nat × Int) => [(p.1 : Int), p.2] : List (List (List Int)))
theorem pmapInv {α β γ : Type} {F : α → γ → Prop} {G : α → β → Prop} (g : β → γ) (h : ∀ a b, F a (g b) → G a b) : ∀ {l : List α} {m : List β}, Paired F l (m.map g) → Paired G l m
  | _, [], .nil => .nil
  | _, _ :: _, .cons r t => .cons (h _ _ r) (pmapInv g h t)
theorem toDD_S {K : PySem.W.Frag} {H : Hp} {v : V} {st : Steps} (h : dStepsL K H v st) : rS K 3 H v (toDD st) := by
  obtain ⟨a, us, rfl, hq, p⟩ := h
  refine ⟨a, us, rfl, .inl hq, pmapR _ (fun u row hr => ?_) p⟩
  obtain ⟨a2, us2, rfl, hq2, p2⟩ := hr
  refine ⟨a2, us2, rfl, .inr hq2, pmapR _ (fun u s hs => ?_) p2⟩
  obtain ⟨a3, x, y, rfl, hq3, r, t⟩ := hs
  exact ⟨a3, [x, y], rfl, .inr hq3, .cons r (.cons t .nil)⟩
theorem toDD_T {K : PySem.W.Frag} {H : Hp} {v : V} {st : Steps} (h : rT K 3 H v (toDD st)) : dSteps K H v st := by
  obtain ⟨a, us, rfl, hq, p⟩ := h
  refine ⟨a, us, rfl, hq, pmapInv _ (fun u row hr => ?_) p⟩
  obtain ⟨a2, us2, rfl, hq2, p2⟩ := hr
  refine ⟨a2, us2, rfl, hq2, pmapInv _ (fun u s hs => ?_) p2⟩
  obtain ⟨a3, us3, rfl, hq3, p3⟩ := hs
  cases ints_of p3
  exact ⟨a3, _, _, rfl, hq3, rfl, rfl⟩
theorem toDD_small {st : Steps} (h1 : st.length ≤ 1000) (h2 : ∀ row ∈ st, row.length ≤ 1000) : smallD 3 (toDD st) := by
  refine ⟨Nat.le_trans (Nat.le_of_eq (show (List.map (fun row : List (Nat × Int) => (row.map fun (p : Nat × Int) => [(p.1 : Int), p.2] : List (List Int))) st).length = st.length from List.length_map _)) h1, fun x hx => ?_⟩
  obtain ⟨row, hr, rfl⟩ := List.mem_map.mp hx
  refine ⟨Nat.le_trans (Nat.le_of_eq (show (List.map (fun (p : Nat × Int) => ([(p.1 : Int), p.2] : List Int)) row).length = row.length from List.length_map _)) (h2 row hr), fun y hy => ?_⟩
  obtain ⟨s, hs, rfl⟩ := List.mem_map.mp hy
  exact ⟨by show 2 ≤ 1000; decide, fun _ _ => trivial⟩
section
variable {P : Program} {w : World} {K : PySem.W.Frag} {mg : Str → Option Value} {base : Heap} {cSt cSg cMa cVe cRl : Addr}
def sp_Machine_init (K : PySem.W.Frag) (cMa : Addr) : Sp := fun vs H Q _ => ∃ (M : List Addr) (x dx : Addr) (A : Str) (f : Int) (v : V) (b0 : Beh A.cps.size) (N : Nat), vs = [.ref x, .str A, .int f, v] ∧ Asks A ∧ Done b0 N ∧ N ≤ 1000 ∧ H x = some (.ins cMa dx []) ∧ x ∉ M ∧ (∀ p ∈ M, H p ≠ none) ∧
  dStepsL K (mk (x :: M) H) v (bfs b0 N).items ∧
  ∀ H', Same (mk [x] H) H' → dMach K cMa (mk M H') (.ref x) ⟨A, f, (bfs b0 N).items, (bfs b0 N).rows.map vals⟩ → Q .non H'
theorem ini_Machine (c : Env K mg cSt cSg cMa cVe cRl) : Ini P w K mg base "Machine" cMa 6 P_Machine_init (sp_Machine_init K cMa) := by
  refine ini_ok c.k_Machine sc_Machine_init (fun _ _ _ _ _ _ us hl => match us, hl with | [_, _, _, _], _ => rfl) (fun vs H Q E h => ?_) (fun f cdv A outer s H vs Q E hr h => ?_)
  · obtain ⟨M, x, dx, A, f0, v, b0, N, rfl, hA, d, hN, hx, hxM, hM, hv, q⟩ := h
    rfl
  · obtain ⟨M, x, dx, A, f0, v, b0, N, rfl, hA, d, hN, hx, hxM, hM, hv, q⟩ := h
    refine ⟨_, (pss_cons (ps_expr (pe_fn (fn_check_asks c) (hr.mono (by decide)) rfl (pa_cons (pv 1) pa_nil)))
      (pss_cons (ps_if (PW.pt (pw_or (pt_not (pt_val (pe_fn (fn_is_integer c) (hr.mono (by decide)) rfl (pa_cons (pv 2) pa_nil)))) (pw_or (pt_not (pt_val (pe_fn (fn_is_listed c) (hr.mono (by decide)) rfl (pa_cons (pv 3) pa_nil)))) (pw_or1 (pt_not (pt_chain op_le op_le pe_int (pe_callB (call_len_seqK (K := K)) (by rfl) c.b_len (by decide +kernel) (pa_cons (pv 3) pa_nil)) (pe_globI rfl c.g_MOST_KINDS)))))))
        (pss_one ps_never)
        pss_nil)
      (pss_cons (ps_for PassesOwn.never rfl (pi_enum rfl c.b_enumerate (pa_cons (pv 3) pa_nil)) (pg_tup rfl (pgs_cons (pg_name (i := 4) sc_Machine_init.nd rfl (Or.inl rfl)) (pgs_cons (pg_name (i := 5) sc_Machine_init.nd rfl (Or.inl rfl)) pgs_nil)))
        (pss_one (ps_if (pt_not (pt_val (pe_fn (fn_is_item c) (hr.mono (by decide)) rfl (pa_cons (pv 5) (pa_cons (pe_callB (call_len_seqK (K := K)) (by rfl) c.b_len (by decide +kernel) (pa_cons (pv 3) pa_nil)) (pa_cons (pv 1) pa_nil))))))
          (pss_one ps_never)
          pss_nil)))
      (pss_cons (ps_fld (pv 0) (pv 1) rfl)
      (pss_cons (ps_fld (pv 0) (pv 2) rfl)
      (pss_cons (ps_fld (pv 0) (pe_fn (fn_deep c 3) (hr.mono (by decide)) rfl (pa_cons (pv 3) pa_nil)) rfl)
      (pss_one (ps_fld (pv 0) (pe_fn (fn_least_rows c) (hr.mono (by decide)) rfl (pa_cons (pv 1) (pa_cons (pe_fldK (K := K) (pv 0)) pa_nil))) rfl)))))))), ?_⟩
    have okN := ok_of_done d (Nat.le_refl N)
    have hpos : 0 < N := by
      have h1 : (bfs b0 N).line.length = N := d
      have := (List.getElem?_eq_some_iff.mp okN.zero).1
      omega
    have vld := items_valid okN d
    have hlen := okN.ilen
    have hA3 : A.cps.size ≤ 3 := (asks_len hA).2
    have hrow : ∀ row ∈ (bfs b0 N).items, row.length = A.cps.size ∧ ∀ s ∈ row, s.1 < N := fun row hr => by
      obtain ⟨i, hi⟩ := List.getElem?_of_mem hr
      have hil := (List.getElem?_eq_some_iff.mp hi).1
      have e : (bfs b0 N).items.getD i [] = row := by rw [List.getD_eq_getElem?_getD, hi]; rfl
      obtain ⟨h1, h2⟩ := vld i hil
      rw [e] at h1
      refine ⟨h1, fun s hs => ?_⟩
      obtain ⟨k, hk⟩ := List.getElem?_of_mem hs
      have := h2 k (by have := (List.getElem?_eq_some_iff.mp hk).1; omega)
      unfold nx at this
      rw [e, List.getD_eq_getElem?_getD, hk] at this
      rw [← hlen]; exact this
    refine ⟨_, rfl, A, rfl, hA, ?_⟩
    refine ⟨_, rfl, f0, rfl, true, rfl, iteF ?_⟩
    refine ⟨v, rfl, v, true, rfl, .inl ⟨rfl, (ty_seq (seq_lst hv)).imp (fun h => TyX.upd mk_same h) (fun h => TyX.upd mk_same h)⟩, fun H1 s1 => ⟨true, rfl, iteF ?_⟩⟩
    have hv1 := mStepsL _ _ _ _ s1 (mStepsL _ _ _ _ mk_same hv)
    refine ⟨v, rfl, len_of (seq_lst hv1) ?_⟩
    rw [hlen]
    refine ⟨_, _, rfl, rfl, _, rfl, iteD (show (1 : Int) ≤ (N : Int) by omega) ?_⟩
    refine ⟨_, _, rfl, rfl, _, rfl, iteN1 (show (N : Int) ≤ 1000 by omega) ?_⟩
    obtain ⟨a, us, rfl, hq, p⟩ := id hv1
    refine ⟨_, rfl, a, us, rfl, hq, ?_⟩
    refine for_it walk_enum (fun i σ H' => ∃ x4 x5, σ = [some (.ref x), some (.str A), some (.int f0), some (.ref a), x4, x5] ∧ Same H1 H') ⟨none, none, rfl, Same.refl _⟩ (fun i σ H' _ ⟨_, _, _, s⟩ => s.seq hq) ?_ ?_
    · rintro i y σ H2 H3 hi ⟨x4, x5, rfl, s2⟩ ⟨T, y1, y2, rfl, nT, rfl, hy1, hy2⟩
      refine pair_tgt upd_same ?_
      obtain ⟨row, hr, hu⟩ := pget p hy2
      have s3 := s2.trans (same_upd (o := .tup [y1, y2]) nT)
      obtain ⟨r1, r2⟩ := hrow row (List.mem_of_getElem? hr)
      refine ⟨_, rfl, _, rfl, len_of (mStepsL _ _ _ _ s3 hv1 |> seq_lst) ?_⟩
      rw [hlen]
      exact ⟨_, rfl, A, y2, N, row, rfl, hA, dTup_mono mPair _ _ _ _ s3 hu, r1, r2, fun H4 s4 => ⟨true, rfl, iteF ⟨_, _, rfl, s3.trans s4⟩⟩⟩
    rintro σ H4 ⟨x4, x5, rfl, s2⟩
    have s14 := s1.trans s2
    have cl := c.k_Machine.cl
    have hM4 : ∀ p ∈ x :: M, H4 p ≠ none := dom_same (dom_cons hM hx) s14
    -- self.asks, self.first
    refine ⟨_, rfl, _, rfl, x, cMa, dx, _, rfl, s14 _ _ hx, cl, c.n_Machine_asks, Nat.lt_of_le_of_lt few0 (by decide), ?_⟩
    refine ⟨_, rfl, _, rfl, x, cMa, dx, _, rfl, upd_same, cl, c.n_Machine_first, Nat.lt_of_le_of_lt (few few0) (by decide), ?_⟩
    rw [upd_upd]
    have m4 : ∀ {o : HO}, mk (x :: M) (upd H4 x o) = mk (x :: M) H4 := mask1
    -- self.steps = deep(steps)
    refine ⟨_, rfl, x :: M, .ref a, toDD (bfs b0 N).items, rfl, dom_upd hM4, by rw [m4]; exact toDD_S (mStepsL _ _ _ _ (mk_mono s14) hv), toDD_small (by omega) (fun row hr => by rw [(hrow row hr).1]; omega), fun ub H5 s5 hub => ?_⟩
    have hub' : dSteps K (mk (x :: M) H5) ub (bfs b0 N).items := toDD_T hub
    have m45 : Same (mk (x :: M) H4) (mk (x :: M) H5) := by rw [← m4]; exact mk_mono s5
    refine ⟨_, rfl, x, cMa, dx, _, rfl, s5 _ _ upd_same, cl, c.n_Machine_steps, Nat.lt_of_le_of_lt (few (few few0)) (by decide), ?_⟩
    have m5 : ∀ {o : HO}, mk (x :: M) (upd H5 x o) = mk (x :: M) H5 := mask1
    have hM5 : ∀ p ∈ x :: M, H5 p ≠ none := dom_same (dom_upd hM4) s5
    -- self.rows = least_rows(asks, self.steps)
    have hrd : ∀ {Q2 : VK}, Q2 ub (upd H5 x (.ins cMa dx (maFs1 A f0 ub))) → rFldQ K "steps" (.ref x) (upd H5 x (.ins cMa dx (maFs1 A f0 ub))) Q2 := fun q2 => by
      unfold rFldQ
      exact ⟨x, cMa, dx, _, _, rfl, upd_same, cl, c.n_Machine_steps, maFs1_steps, q2⟩
    refine ⟨_, rfl, _, rfl, hrd ?_⟩
    refine ⟨A, ub, b0, N, rfl, hA, d, hN, mSteps _ _ _ _ (mk_same (M := x :: M)) (by rw [m5]; exact hub'), fun l H6 s6 nl hl => ?_⟩
    have nlx : l ≠ x := fun e => by rw [e, upd_same] at nl; cases nl
    refine ⟨_, rfl, x, cMa, dx, _, rfl, s6 _ _ upd_same, cl, c.n_Machine_rows, Nat.lt_of_le_of_lt (few (few (few few0))) (by decide), ?_⟩
    have m56 : Same (mk (x :: M) H5) (mk (x :: M) H6) := by rw [← m5]; exact mk_mono s6
    have m7 : Same (mk (x :: M) H6) (mk M (upd H6 x (.ins cMa dx (maFs A f0 ub (.ref l))))) := fun b o e => by
      by_cases hb : b ∈ x :: M
      · rw [mk_in hb] at e; cases e
      · rw [mk_out hb] at e
        have h1 : b ≠ x := fun z => hb (by simp [z])
        rw [mk_out (fun z => hb (List.mem_cons_of_mem _ z)), upd_ne h1]; exact e
    have hlM : l ∉ x :: M := notin_of (dom_upd hM5) nl
    refine q _ (fun b o e => ?_) ⟨x, dx, maFs A f0 ub (.ref l), ub, .ref l, rfl, by rw [mk_out hxM]; exact upd_same, maFs_asks, maFs_first, maFs_steps, maFs_rows, ?_, ?_⟩
    · have nb : b ≠ x := fun z => by rw [z, mk_in (by simp)] at e; cases e
      rw [mk_out (by simpa using nb)] at e
      rw [upd_ne nb]
      refine s6 _ _ ?_
      rw [upd_ne nb]
      refine s5 _ _ ?_
      rw [upd_ne nb]
      exact s14 _ _ e
    · exact mSteps _ _ _ _ m7 (mSteps _ _ _ _ m56 hub')
    · refine ⟨l, _, rfl, .inl (.inl ?_), pmapR (F := fun (u : V) (r : List (Fin A.cps.size)) => u = .str (rowS A (vals r))) vals (fun a r h => h) (pmap_of (fun r => V.str (rowS A (vals r))) (fun _ => rfl) _)⟩
      rw [mk_out (fun z => hlM (List.mem_cons_of_mem _ z)), upd_ne nlx]
      exact hl
end
end AW
namespace AW
open PySem PySem.Spec PyProof.Rows L2
/-! ### one round of classes -/
section
variable {κ : Type} [DecidableEq κ]
structure Rnd (f : Nat → κ) (i : Nat) (ks : List κ) (fd : List Nat) : Prop where
  nd : ks.Nodup
  len : fd.length = i
  at' : ∀ (j q : Nat), fd[j]? = some q → ks[q]? = some (f j)
  dense : ∀ v, v < ks.length → v ∈ fd
theorem rnd_zero (f : Nat → κ) : Rnd f 0 [] [] := ⟨List.nodup_nil, rfl, fun j q h => by simp at h, fun v h => by simp at h⟩
theorem Rnd.old {f : Nat → κ} {i : Nat} {ks : List κ} {fd : List Nat} (r : Rnd f i ks fd) {q : Nat} (h : ks[q]? = some (f i)) : Rnd f (i + 1) ks (fd ++ [q]) :=
  ⟨r.nd, by simp [r.len], fun j u hj => by
    rcases snoc_get hj with ⟨_, g⟩ | ⟨g, e⟩
    · exact r.at' j u g
    · subst e; rw [r.len] at g; subst g; exact h, fun v hv => List.mem_append_left _ (r.dense v hv)⟩
theorem Rnd.new {f : Nat → κ} {i : Nat} {ks : List κ} {fd : List Nat} (r : Rnd f i ks fd) (h : f i ∉ ks) : Rnd f (i + 1) (ks ++ [f i]) (fd ++ [ks.length]) :=
  ⟨by rw [List.nodup_append]; exact ⟨r.nd, by simp, fun a ha b hb => by simp at hb; subst hb; exact fun e => h (e ▸ ha)⟩, by simp [r.len], fun j u hj => by
    rcases snoc_get hj with ⟨_, g⟩ | ⟨g, e⟩
    · have := r.at' j u g
      rw [List.getElem?_append_left (List.getElem?_eq_some_iff.mp this).1]; exact this
    · subst e; rw [r.len] at g; subst g; rw [List.getElem?_append_right (Nat.le_refl _)]; simp, fun v hv => by
    rw [List.length_append] at hv
    by_cases g : v < ks.length
    · exact List.mem_append_left _ (r.dense v g)
    · have : v = ks.length := by simp at hv; omega
      subst this; simp⟩
theorem Rnd.le {f : Nat → κ} {i : Nat} {ks : List κ} {fd : List Nat} (r : Rnd f i ks fd) : ks.length ≤ i := by
  have := len_le (l := List.range ks.length) (m := fd) List.nodup_range fun v hv => r.dense v (List.mem_range.mp hv)
  rw [List.length_range, r.len] at this
  exact this
end
theorem rnd_done {A : Nat} {st : Steps} {t m : Nat} {cl fd : List Nat} {ks : List (Nat × List (Nat × Int))} (v : Valid A st) (p : Part A st t cl m) (r : Rnd (sgn A st cl) st.length ks fd) : Part A st (t + 1) fd ks.length := by
  refine part_next v p r.len (fun i j hi hj => ?_) ⟨fun q hq => ?_, r.dense⟩
  · have h1 := r.at' i _ (getD_lt (by rw [r.len]; exact hi))
    have h2 := r.at' j _ (getD_lt (by rw [r.len]; exact hj))
    constructor
    · intro e
      rw [e] at h1
      rw [h1] at h2
      exact Option.some.inj h2
    · intro e
      rw [e] at h1
      exact (List.getElem?_inj (List.getElem?_eq_some_iff.mp h1).1 r.nd).mp (h1.trans h2.symm)
  · obtain ⟨j, hj⟩ := List.getElem?_of_mem hq
    exact (List.getElem?_eq_some_iff.mp (r.at' j q hj)).1
theorem part_zero {A : Nat} {st : Steps} (h : 0 < st.length) : Part A st 0 (List.replicate st.length 0) 1 := by
  have e : ∀ i, i < st.length → (List.replicate st.length 0).getD i 0 = 0 := fun i hi => by
    rw [List.getD_eq_getElem?_getD, List.getElem?_replicate, if_pos hi]; rfl
  refine ⟨by simp, fun i j hi hj => ?_, fun v hv => ?_, fun v hv => ?_⟩
  · rw [e i hi, e j hj]; exact ⟨fun _ => eqt_zero, fun _ => rfl⟩
  · have := (List.mem_replicate.mp hv).2; omega
  · have : v = 0 := by omega
    subst this
    exact List.mem_replicate.mpr ⟨by omega, rfl⟩
/-! ### signs as keys -/
def pairKey (p : Nat × Int) : NestedKey := .tup [.num (p.1 : Int), .num p.2]
theorem pairKey_inj {p q : Nat × Int} (h : pairKey p = pairKey q) : p = q := by
  unfold pairKey at h
  simp at h
  exact Prod.ext (by omega) h.2
theorem map_pairKey_inj : ∀ {a b : List (Nat × Int)}, a.map pairKey = b.map pairKey → a = b
  | [], [], _ => rfl
  | [], _ :: _, h => by cases h
  | _ :: _, [], h => by cases h
  | p :: a, q :: b, h => by
    rw [List.map_cons, List.map_cons] at h
    injection h with h1 h2
    rw [pairKey_inj h1, map_pairKey_inj h2]
def sgnKey (s : Nat × List (Nat × Int)) : NestedKey := .tup [.num (s.1 : Int), .tup (s.2.map pairKey)]
theorem sgnKey_inj {s t : Nat × List (Nat × Int)} (h : sgnKey s = sgnKey t) : s = t := by
  unfold sgnKey at h
  simp at h
  exact Prod.ext (by omega) (map_pairKey_inj h.2)
theorem depthAll_pair : ∀ (l : List (Nat × Int)), NestedKey.depthAll (l.map pairKey) ≤ 3
  | [] => by show NestedKey.depthAll [] ≤ 3; simp [NestedKey.depthAll]
  | x :: l => by
    have := depthAll_pair l
    show NestedKey.depthAll (pairKey x :: l.map pairKey) ≤ 3
    simp [NestedKey.depthAll, NestedKey.depth, pairKey]
    omega
theorem sgnKey_depth (s : Nat × List (Nat × Int)) : (sgnKey s).depth ≤ 8 := by
  have := depthAll_pair s.2
  unfold sgnKey
  simp [NestedKey.depth, NestedKey.depthAll]
  omega
section
variable {κ : Type} {g : κ → NestedKey}
theorem mem_keys (inj : ∀ {a b}, g a = g b → a = b) {l : List κ} {x : κ} : g x ∈ l.map g ↔ x ∈ l :=
  ⟨fun h => by obtain ⟨y, hy, e⟩ := List.mem_map.mp h; rw [← inj e]; exact hy, fun h => List.mem_map.mpr ⟨x, h, rfl⟩⟩
theorem nodup_keys (inj : ∀ {a b}, g a = g b → a = b) : ∀ {l : List κ}, l.Nodup → (l.map g).Nodup
  | [], _ => List.nodup_nil
  | x :: l, h => by
    rw [List.nodup_cons] at h
    rw [List.map_cons, List.nodup_cons]
    exact ⟨fun q => h.1 ((mem_keys inj).mp q), nodup_keys inj h.2⟩
end
theorem nk_pair {K : PySem.W.Frag} {H : Hp} {v : V} {p : Nat × Int} (h : dPair K dNat dInt H v p) : ∃ a, v = .ref a ∧ NK K H (pairKey p) v := by
  obtain ⟨a, x, y, rfl, hq, r, t⟩ := h
  cases (show x = .int (p.1 : Int) from r)
  cases (show y = .int p.2 from t)
  exact ⟨a, rfl, .tup hq (.cons (.num _) (.cons (.num _) .nil))⟩
theorem nk_pairs {K : PySem.W.Frag} {H : Hp} : ∀ {vs : List V} {ps : List (Nat × Int)}, Paired (dPair K dNat dInt H) vs ps → NKs K H (ps.map pairKey) vs
  | _, _, .nil => .nil
  | _, _, .cons r t => .cons (by obtain ⟨_, _, h⟩ := nk_pair r; exact h) (nk_pairs t)
theorem nk_sgn {K : PySem.W.Frag} {H : Hp} {a l : Addr} {c : Nat} {vs : List V} {ps : List (Nat × Int)} (h1 : SqT K H a [.int (c : Int), .ref l]) (h2 : SqT K H l vs) (p : Paired (dPair K dNat dInt H) vs ps) : NK K H (sgnKey (c, ps)) (.ref a) :=
  .tup h1 (.cons (.num _) (.cons (.tup h2 (nk_pairs p)) .nil))
def natV (l : List Nat) : List V := l.map fun (i : Nat) => V.int (i : Int)
theorem natV_at {l : List Nat} {i : Nat} (h : i < l.length) : (natV l)[i]? = some (.int ((l.getD i 0 : Nat) : Int)) := by
  unfold natV
  rw [List.getElem?_map, getD_some h 0]
  rfl
theorem natV_len (l : List Nat) : (natV l).length = l.length := by simp [natV]
theorem natV_snoc (l : List Nat) (i : Nat) : natV l ++ [.int (i : Int)] = natV (l ++ [i]) := by unfold natV; rw [List.map_append]; rfl
theorem row_range {A : Nat} {st : Steps} {i : Nat} (h : (st.getD i []).length = A) : st.getD i [] = (List.range A).map fun k => (nx st i k, ad st i k) := by
  subst h
  exact (map_range_getD ((0, 0) : Nat × Int) (st.getD i [])).symm
section
variable {P : Program} {w : World} {K : PySem.W.Frag} {mg : Str → Option Value} {base : Heap} {cSt cSg cMa cVe cRl : Addr}
def sp_classes_of (K : PySem.W.Frag) : Sp := fun vs H Q _ => ∃ (A : Nat) (v : V) (st : Steps), vs = [v] ∧ Valid A st ∧ 0 < st.length ∧ st.length ≤ 1000 ∧ A ≤ 3 ∧ dStepsL K H v st ∧
  ∀ (cl : List Nat) p H', ClOk A st cl → Same H H' → H p = none → H' p = some (.lst (natV cl)) → Q (.ref p) H'
theorem fn_classes_of (c : Env K mg cSt cSg cMa cVe cRl) : Fn P w K mg base "classes_of" 1 P_classes_of (sp_classes_of K) := by
  refine fn_ok c.d_classes_of sc_classes_of (fun _ _ _ _ _ _ us hl => match us, hl with | [_], _ => rfl) (fun vs H Q E h => ?_) (fun f cdv A outer s H vs Q E hr h => ?_)
  · obtain ⟨A, v, st, rfl, vld, hpos, hle, hA, hv, q⟩ := h
    rfl
  · obtain ⟨A, v, st, rfl, vld, hpos, hle, hA, hv, q⟩ := h
    refine ⟨_, (pss_cons (ps_set (i := 1) sc_classes_of.nd rfl (Or.inr rfl) (pe_op op_rep (pe_lst (pa_cons pe_int pa_nil)) (pe_callB (call_len_seqK (K := K)) (by rfl) c.b_len (by decide +kernel) (pa_cons (pv 0) pa_nil))))
      (pss_cons (ps_set (i := 2) sc_classes_of.nd rfl (Or.inl rfl) pe_int)
      (pss_one (ps_while PassesOwn.never (pt_val pe_bl)
        (pss_cons (ps_set (i := 3) sc_classes_of.nd rfl (Or.inl rfl) pe_nnew)
        (pss_cons (ps_set (i := 4) sc_classes_of.nd rfl (Or.inl rfl) (pe_lst pa_nil))
        (pss_cons (ps_for PassesOwn.never rfl (pi_enum rfl c.b_enumerate (pa_cons (pv 0) pa_nil)) (pg_tup rfl (pgs_cons (pg_name (i := 5) sc_classes_of.nd rfl (Or.inl rfl)) (pgs_cons (pg_name (i := 6) sc_classes_of.nd rfl (Or.inl rfl)) pgs_nil)))
          (pss_cons (ps_set (i := 7) sc_classes_of.nd rfl (Or.inl rfl) (pe_tup (pa_cons (pe_ix (ix_seqK (K := K)) (pv 1) (pv 5) (fun _ _ => rfl)) (pa_cons (pe_callTy (call_tuple_ofK (K := K)) (by rfl) c.b_tuple (by decide +kernel) (pa_cons (pe_lc (own := [("after", 8), ("add", 9)]) (g := gTup K 2 (gCons (gName 8) (gCons (gName 9) gNil))) (tt := tYes) rfl sc_classes_of.nd (pi_tupK (K := K) (pv 6)) (blkOk_by (N := N_classes_of) (sc := defScope s_classes_of) (own := [("after", 8), ("add", 9)]) (by decide +kernel)) (fun _ _ _ _ _ => (pg_tup rfl (pgs_cons (pg_name (i := 8) sc_classes_of.nd rfl (by first | exact Or.inl rfl | exact Or.inr rfl)) (pgs_cons (pg_name (i := 9) sc_classes_of.nd rfl (by first | exact Or.inl rfl | exact Or.inr rfl)) pgs_nil)))) (fun _ _ _ _ _ => pts_nil) (fun _ _ _ _ _ => (pe_tup (pa_cons (pe_ix (ix_seqK (K := K)) (pv 1) (pv 8) (fun _ _ => rfl)) (pa_cons (pv 9) pa_nil))))) pa_nil)) pa_nil))))
          (pss_cutW (ps_if (pt_cmp (pc_nnotin hr.units (pv 7) (pv 3)))
            (pss_one (ps_nput hr.units (pv 3) (pv 7) (pe_callB call_len_n (by rfl) c.b_len (by decide +kernel) (pa_cons (pv 3) pa_nil)) rfl))
            pss_nil)
          (pss_one (ps_expr (pe_bm PySem.F.plainAttrs_list PySem.F.slot_list_append PySem.F.type_list_append mt_append (pv 4) (pa_cons (pe_nget hr.units (pv 3) (pv 7) (fun _ _ => rfl)) pa_nil)))))))
        (pss_cons (ps_set (i := 1) sc_classes_of.nd rfl (Or.inr rfl) (pv 4))
        (pss_cons (ps_if (pt_cmpR op_eq (pe_callB call_len_n (by rfl) c.b_len (by decide +kernel) (pa_cons (pv 3) pa_nil)) (pv 2) (nomark _))
          (pss_one (ps_ret (pv 1)))
          pss_nil)
        (pss_one (ps_set (i := 2) sc_classes_of.nd rfl (Or.inl rfl) (pe_callB call_len_n (by rfl) c.b_len (by decide +kernel) (pa_cons (pv 3) pa_nil))))))))))))), ?_⟩
    obtain ⟨a, us, rfl, hq, p⟩ := id hv
    have hlen := Paired.length p
    refine ⟨by show 1 ≤ sizeLine; decide, fun L0 nL0 => ⟨_, rfl, len_of (dSeq_mono (dTup_mono mPair) _ _ _ _ (same_upd nL0) (seq_lst hv)) ?_⟩⟩
    refine ⟨L0, _, [.int 0], rfl, rfl, upd_same, by omega, by omega, le_ok (by simp; omega), fun C nC => ?_⟩
    have nC0 : H C = none := (same_upd nL0).free nC
    have s1 : Same H (upd (upd H L0 (.lst [.int 0])) C (.lst (natV (List.replicate st.length 0)))) := same_upd2 (same_upd nL0) nC0
    have eC : (List.replicate ((st.length : Int)).toNat [V.int 0]).flatten = natV (List.replicate st.length 0) := by
      rw [Int.toNat_natCast, List.flatten_replicate_singleton]
      unfold natV
      rw [List.map_replicate]
      rfl
    rw [eC]
    generalize hHw : upd (upd H L0 (.lst [.int 0])) C (.lst (natV (List.replicate st.length 0))) = Hw at s1 ⊢
    have hCw : Hw C = some (.lst (natV (List.replicate st.length 0))) := by rw [← hHw, upd_same]
    clear hHw eC
    refine ⟨fun n σ H' => ∃ (C : Addr) (t m : Nat) (cl : List Nat) (x3 x4 x5 x6 x7 x8 x9 : Option V), n = st.length - m ∧ σ = [some (.ref a), some (.ref C), some (.int (m : Int)), x3, x4, x5, x6, x7, x8, x9] ∧ Same H H' ∧ H C = none ∧ H' C = some (.lst (natV cl)) ∧ Part A st t cl m,
      ⟨_, C, 0, 1, _, none, none, none, none, none, none, none, rfl, rfl, s1, nC0, hCw, part_zero hpos⟩, ?_⟩
    clear hCw s1 nC0 nC C
    rintro n σ H1 ⟨C, t, m, cl, x3, x4, x5, x6, x7, x8, x9, rfl, rfl, s1, nC, hC, pt⟩
    have hcl := pt.len
    have hmle := dense_le pt.dense
    refine ⟨true, rfl, iteT ⟨fun σ' H' => ∃ (C : Addr) (t m' : Nat) (cl : List Nat) (x3 x4 x5 x6 x7 x8 x9 : Option V), (m < m' ∧ m' ≤ st.length) ∧ σ' = [some (.ref a), some (.ref C), some (.int (m' : Int)), x3, x4, x5, x6, x7, x8, x9] ∧ Same H H' ∧ H C = none ∧ H' C = some (.lst (natV cl)) ∧ Part A st t cl m',
      fun σ' H' ⟨C, t, m', cl, y3, y4, y5, y6, y7, y8, y9, hm, h⟩ => ⟨st.length - m', by omega, C, t, m', cl, y3, y4, y5, y6, y7, y8, y9, rfl, h⟩, ?_⟩⟩
    intro Kd ob nKd nd0
    have sK : Same H1 (upd H1 Kd ob) := same_upd nKd
    refine ⟨Nat.zero_le _, fun Fd nFd => ?_⟩
    have sF : Same (upd H1 Kd ob) (upd (upd H1 Kd ob) Fd (.lst [])) := same_upd nFd
    have hKF : Kd ≠ Fd := fun e => by rw [← e, upd_same] at nFd; cases nFd
    have hCK : C ≠ Kd := ne_of_none hC nKd
    have hCF : C ≠ Fd := ne_of_none (sK _ _ hC) nFd
    have nK0 : H Kd = none := s1.free nKd
    have nF0 : H Fd = none := s1.free (sK.free nFd)
    have s12 := s1.trans (sK.trans sF)
    refine ⟨_, rfl, a, us, rfl, s12.seq hq, ?_⟩
    refine for_it walk_enum (fun i σ H' => ∃ (ks : List (Nat × List (Nat × Int))) (fd : List Nat) (x5 x6 x7 x8 x9 : Option V), σ = [some (.ref a), some (.ref C), some (.int (m : Int)), some (.ref Kd), some (.ref Fd), x5, x6, x7, x8, x9] ∧ Same H H' ∧ H' C = some (.lst (natV cl)) ∧ ND P w K H' Kd (kvsI (ks.map sgnKey)) ∧ H' Fd = some (.lst (natV fd)) ∧ Rnd (sgn A st cl) i ks fd)
      ⟨[], [], x5, x6, x7, x8, x9, rfl, s12, sF _ _ (sK _ _ hC), nd0.keeps (Tups.of_same sF) (by rw [upd_ne hKF]), upd_same, rnd_zero _⟩ (fun i σ H' _ ⟨_, _, _, _, _, _, _, _, s, _⟩ => s.seq hq) ?_ ?_
    · rintro k x σ H2 H3 hk ⟨ks, fd, x5, x6, x7, x8, x9, rfl, s2, hC2, nd2, hF2, rn⟩ ⟨T, y1, y2, rfl, nT, rfl, hy1, hy2⟩
      cases (Option.some.inj hy1)
      have sT : Same H2 (upd H2 T (.tup [.int (k : Nat), y2])) := same_upd nT
      refine pair_tgt upd_same ?_
      have hk' : k < st.length := by omega
      obtain ⟨row, hrow, hu⟩ := pget p hy2
      have erow : st.getD k [] = row := by rw [List.getD_eq_getElem?_getD, hrow]; rfl
      obtain ⟨b, vs, rfl, hqb, pb⟩ := hu
      obtain ⟨v1, v2⟩ := vld k hk'
      rw [← erow] at pb
      have hvl : vs.length = A := by rw [Paired.length pb]; exact v1
      have s3 := s2.trans sT
      -- sign
      refine ⟨_, rfl, _, rfl, ixL_of (sT _ _ hC2) (j := k) rfl (natV_at (by omega)) ?_⟩
      refine ⟨_, rfl, b, rfl, ⟨_, Same.tup s3 hqb⟩, fun D nD => ?_⟩
      refine lc_gen walk_tup (fun i => (cl.getD (nx st k i) 0, ad st k i)) (M := []) (R := dPair K dNat dInt) mPair nD (fun _ h => nomatch h) (by omega) (fun H4 s4 => Same.tup (s3.trans s4) hqb) ?_ ?_
      · rintro i x H4 H5 hi s4 _ hDn _ ⟨e5, hx⟩
        subst e5
        obtain ⟨s, hs, hp⟩ := pget pb hx
        have es : s = (nx st k i, ad st k i) := by
          unfold nx ad
          rw [List.getD_eq_getElem?_getD (l := st.getD k []), hs]
          rfl
        subst es
        have hiA : i < A := by omega
        refine ⟨[some (.ref a), some (.ref C), some (.int (m : Int)), some (.ref Kd), some (.ref Fd), some (.int (k : Nat)), some (.ref b), x7, some (.int ((nx st k i : Nat) : Int)), some (.int (ad st k i))], _, fun k' q' => pTgt (s3.trans s4) hp fun x y hx hy => by cases (show x = .int ((nx st k i : Nat) : Int) from hx); cases (show y = .int (ad st k i) from hy); exact q', rfl, fun Q2 q2 => ?_⟩
        refine ⟨_, rfl, _, rfl, ixL_of (s4 _ _ (sT _ _ hC2)) (j := nx st k i) rfl (natV_at (by rw [hcl]; exact v2 i hiA)) ?_⟩
        refine ⟨_, rfl, by show 2 ≤ sizeLine; decide, fun T2 nT2 => q2 _ _ (same_upd nT2) ⟨T2, _, _, rfl, .inl (.inl ?_), rfl, rfl⟩⟩
        rw [mk_out (by
          intro z
          have : T2 = D := by simpa using z
          subst this
          exact hDn nT2), upd_same]
      · rintro H4 s4 ⟨ys, hD4, pD⟩
        rw [hvl, mk_nil] at pD
        refine tuple_of hD4 fun l nl => ?_
        refine ⟨by show 2 ≤ sizeLine; decide, fun Sg nSg => ?_⟩
        have sD : Same (upd H2 T (.tup [.int (k : Nat), .ref b])) H4 := s4
        have sl : Same H4 (upd H4 l (.tup ys)) := same_upd nl
        have sS : Same (upd H4 l (.tup ys)) (upd (upd H4 l (.tup ys)) Sg (.tup [.int ((cl.getD k 0 : Nat) : Int), .ref l])) := same_upd nSg
        have pS : Paired (dPair K dNat dInt (upd (upd H4 l (.tup ys)) Sg (.tup [.int ((cl.getD k 0 : Nat) : Int), .ref l]))) ys ((List.range A).map fun i => (cl.getD (nx st k i) 0, ad st k i)) := Paired.mono (fun _ _ => mPair _ _ _ _ (sl.trans sS)) pD
        have hl6 : (upd (upd H4 l (.tup ys)) Sg (.tup [.int ((cl.getD k 0 : Nat) : Int), .ref l])) l = some (.tup ys) := sS _ _ upd_same
        have nk6 : NK K (upd (upd H4 l (.tup ys)) Sg (.tup [.int ((cl.getD k 0 : Nat) : Int), .ref l])) (sgnKey (sgn A st cl k)) (.ref Sg) := nk_sgn (.inl (.inl upd_same)) (.inl (.inl hl6)) pS
        have s26 := sT.trans (sD.trans (sl.trans sS))
        have s6 := s2.trans s26
        have hC6 := s26 _ _ hC2
        have hF6 := s26 _ _ hF2
        obtain ⟨φ, hφ⟩ := nd2.mut
        have nd6 : ND P w K (upd (upd H4 l (.tup ys)) Sg (.tup [.int ((cl.getD k 0 : Nat) : Int), .ref l])) Kd (kvsI (ks.map sgnKey)) := nd2.keeps (Tups.of_same s26) ((s26 _ _ hφ).trans hφ.symm)
        generalize upd (upd H4 l (.tup ys)) Sg (.tup [.int ((cl.getD k 0 : Nat) : Int), .ref l]) = H6 at nk6 s6 hC6 hF6 nd6 ⊢
        have hkl := rn.le
        refine ⟨fun σ' H' => ∃ (ks' : List (Nat × List (Nat × Int))) (u : Nat) (x8 x9 : Option V), σ' = [some (.ref a), some (.ref C), some (.int (m : Int)), some (.ref Kd), some (.ref Fd), some (.int (k : Nat)), some (.ref b), some (.ref Sg), x8, x9] ∧ Same H H' ∧ H' C = some (.lst (natV cl)) ∧ ND P w K H' Kd (kvsI (ks'.map sgnKey)) ∧ H' Fd = some (.lst (natV fd)) ∧
            NK K H' (sgnKey (sgn A st cl k)) (.ref Sg) ∧ ks'[u]? = some (sgn A st cl k) ∧ Rnd (sgn A st cl) (k + 1) ks' (fd ++ [u]), ?_, ?_⟩
        · refine ⟨_, rfl, _, rfl, Kd, Sg, _, _, rfl, rfl, nd6, nk6, sgnKey_depth _, _, rfl, ?_⟩
          by_cases hin : sgn A st cl k ∈ ks
          · obtain ⟨u, hu⟩ := List.getElem?_of_mem hin
            have hk2 : (ks.map sgnKey)[u]? = some (sgnKey (sgn A st cl k)) := by rw [List.getElem?_map, hu]; rfl
            rw [valV_some (nodup_keys sgnKey_inj rn.nd) hk2]
            exact iteF ⟨ks, u, _, _, rfl, s6, hC6, nd6, hF6, nk6, hu, rn.old hu⟩
          · rw [valV_none (fun z => hin ((mem_keys sgnKey_inj).mp z))]
            refine iteT ?_
            refine ⟨_, rfl, Kd, _, rfl, nd6, ⟨_, rfl, _, rfl, Kd, Sg, _, _, rfl, rfl, nd6, nk6, sgnKey_depth _, len_ok (by rw [kvsI_len, List.length_map]; omega), fun ob7 nd7 => ?_⟩⟩
            have e7 := putK_kvsI (k := sgnKey (sgn A st cl k)) (ks := ks.map sgnKey) (fun z => hin ((mem_keys sgnKey_inj).mp z))
            rw [kvsI_len, e7, map_snoc] at nd7
            refine ⟨ks ++ [sgn A st cl k], ks.length, _, _, rfl, same_upd2 s6 nK0, by rw [upd_ne hCK]; exact hC6, nd7, by rw [upd_ne (Ne.symm hKF)]; exact hF6, nk6.mono (Tups.mut (mut_nd nd6)), ?_, rn.new hin⟩
            rw [List.getElem?_append_right (Nat.le_refl _)]; simp
        · rintro σ' H7 ⟨ks', u, x8, x9, rfl, s7, hC7, nd7, hF7, nk7, hu, rn7⟩
          have hk2 : (ks'.map sgnKey)[u]? = some (sgnKey (sgn A st cl k)) := by rw [List.getElem?_map, hu]; rfl
          have fl := rn.len
          refine ⟨_, rfl, ty_lst hF7, _, rfl, _, rfl, Kd, Sg, _, _, _, rfl, rfl, nd7, nk7, sgnKey_depth _, valV_some (nodup_keys sgnKey_inj rn7.nd) hk2, ?_⟩
          refine ⟨_, _, _, rfl, rfl, hF7, len_ok (by rw [natV_len]; omega), ?_⟩
          rw [natV_snoc]
          exact ⟨ks', fd ++ [u], _, _, _, _, _, rfl, same_upd2 s7 nF0, by rw [upd_ne hCF]; exact hC7, nd7.keeps (Tups.mut (mut_lst hF7)) (upd_ne hKF), upd_same, rn7⟩
    · rintro σ H2 ⟨ks, fd, x5, x6, x7, x8, x9, rfl, s2, hC2, nd2, hF2, rn⟩
      rw [hlen] at rn
      have pt' := rnd_done vld pt rn
      have hmm := part_le pt pt'
      have hle2 := rn.le
      refine ⟨_, rfl, ?_⟩
      refine ⟨_, rfl, Kd, _, rfl, nd2, ⟨_, rfl, rfl, _, rfl, ?_⟩⟩
      rw [kvsI_len, List.length_map]
      by_cases hm : ks.length = m
      · refine iteD (by rw [hm]) ?_
        rw [hm] at pt'
        exact ⟨_, rfl, q fd Fd _ (cl_done vld pt pt') s2 nF0 hF2⟩
      · refine iteND (fun e => hm (by injection e with e; omega)) ?_
        refine ⟨_, rfl, Kd, _, rfl, nd2, ?_⟩
        rw [kvsI_len, List.length_map]
        exact ⟨Fd, t + 1, ks.length, fd, _, _, _, _, _, _, _, ⟨by omega, hle2⟩, rfl, s2, nF0, hF2, pt'⟩
end
end AW
namespace AW
open PySem PySem.Spec PyProof.Rows L2
/-- read at an older heap -/
theorem ixs_of {α : Type} {K : PySem.W.Frag} {R : DR α} {H0 H : Hp} {v : V} {xs : List α} {i : Int} {j : Nat} {x : α} {Q : VK} (s : Same H0 H) (h : dSeq K R H0 v xs) (hi : i = (j : Int)) (e : xs[j]? = some x) (q : ∀ u, R H0 u x → Q u H) : rIxQ K v (.int i) H Q := by
  unfold rIxQ
  obtain ⟨a, vs, rfl, hq, p⟩ := h
  obtain ⟨u, hu, r⟩ := pgetR p e
  rcases hq with hq | hq
  · exact .inl ⟨a, vs, i, u, rfl, rfl, s.seq hq, atI_of hi hu, q u r⟩
  · exact .inr (.inl ⟨a, vs, i, u, rfl, rfl, Same.tup s hq, atI_of hi hu, q u r⟩)
theorem lens_of {α : Type} {K : PySem.W.Frag} {R : DR α} {H0 H : Hp} {v : V} {xs : List α} {Q : VK} (s : Same H0 H) (h : dSeq K R H0 v xs) (q : Q (.int (xs.length : Int)) H) : rLenQ K [v] H Q := by
  unfold rLenQ
  obtain ⟨a, vs, rfl, hq, p⟩ := h
  rw [← Paired.length p] at q
  exact ⟨a, vs, rfl, hq.imp (fun h => s.seq h) (fun h => Same.tup s h), q⟩
def iK (n : Nat) : Key := .inl (n : Int)
theorem iK_inj {a b : Nat} (h : iK a = iK b) : a = b := by
  have : (a : Int) = (b : Int) := Sum.inl.inj h
  omega
section
variable {κ μ : Type} {g : κ → μ}
theorem mem_mapi (inj : ∀ {a b}, g a = g b → a = b) {l : List κ} {x : κ} : g x ∈ l.map g ↔ x ∈ l :=
  ⟨fun h => by obtain ⟨y, hy, e⟩ := List.mem_map.mp h; rw [← inj e]; exact hy, fun h => List.mem_map.mpr ⟨x, h, rfl⟩⟩
theorem nodup_mapi (inj : ∀ {a b}, g a = g b → a = b) : ∀ {l : List κ}, l.Nodup → (l.map g).Nodup
  | [], _ => List.nodup_nil
  | x :: l, h => by
    rw [List.nodup_cons] at h
    rw [List.map_cons, List.nodup_cons]
    exact ⟨fun q => h.1 ((mem_mapi inj).mp q), nodup_mapi inj h.2⟩
end
/-- the numbers of the classes -/
def numK (cl lk : List Nat) : List (Key × V) := kvsI ((clsL cl lk).map iK)
theorem numK_len (cl lk : List Nat) : (numK cl lk).length = lk.length := by unfold numK clsL; rw [kvsI_len]; simp
theorem numK_some {cl lk : List Nat} (nd : (clsL cl lk).Nodup) {q c : Nat} (h : (clsL cl lk)[q]? = some c) : valV (numK cl lk) (iK c) = some (.int (q : Int)) :=
  valV_some (nodup_mapi iK_inj nd) (by rw [List.getElem?_map, h]; rfl)
theorem numK_none {cl lk : List Nat} {c : Nat} (h : c ∉ clsL cl lk) : valV (numK cl lk) (iK c) = none := valV_none fun z => h ((mem_mapi iK_inj).mp z)
theorem numK_put {cl lk : List Nat} {a : Nat} (h : cl.getD a 0 ∉ clsL cl lk) : putK (numK cl lk) (iK (cl.getD a 0)) (.int (lk.length : Int)) = numK cl (lk ++ [a]) := by
  have := putK_kvsI (k := iK (cl.getD a 0)) (ks := (clsL cl lk).map iK) fun z => h ((mem_mapi iK_inj).mp z)
  unfold numK
  have e : ((clsL cl lk).map iK).length = lk.length := by unfold clsL; simp
  rw [e] at this
  rw [this]
  unfold clsL
  simp
/-- the state of the while -/
structure SU (K : PySem.W.Frag) {A : Nat} (st : Steps) (cl : List Nat) (H0 H : Hp) (W : List Addr) (Ln Dd It : Addr) (lk : List Nat) (line : List (Beh A)) (vsI : List V) (items : Steps) : Prop where
  same : Same H0 H
  l : H Ln = some (.lst (natV lk))
  d : H Dd = some (.dK (numK cl lk))
  i : H It = some (.lst vsI)
  pi : Paired (dTup K (dPair K dNat dInt) (mk W H)) vsI items
  lk : Paired (LkR A st) lk line
section
variable {P : Program} {w : World} {K : PySem.W.Frag} {mg : Str → Option Value} {base : Heap} {cSt cSg cMa cVe cRl : Addr}
def sp_shrunk_steps (K : PySem.W.Frag) : Sp := fun vs H Q _ => ∃ (M : List Addr) (A : Nat) (v : V) (st : Steps), vs = [v] ∧ (∀ p ∈ M, H p ≠ none) ∧ Valid A st ∧ 0 < st.length ∧ st.length ≤ 1000 ∧ A ≤ 3 ∧ dStepsL K H v st ∧
  ∀ N, Done (beh A st 0) N → N ≤ st.length → Ret M H (dStepsL K) (bfs (beh A st 0) N).items Q
theorem fn_shrunk_steps (c : Env K mg cSt cSg cMa cVe cRl) : Fn P w K mg base "shrunk_steps" 2 P_shrunk_steps (sp_shrunk_steps K) := by
  refine fn_ok c.d_shrunk_steps sc_shrunk_steps (fun _ _ _ _ _ _ us hl => match us, hl with | [_], _ => rfl) (fun vs H Q E h => ?_) (fun f cdv A outer s H vs Q E hr h => ?_)
  · obtain ⟨M, A, v, st, rfl, hM, vld, hpos, hle, hA, hv, q⟩ := h
    rfl
  · obtain ⟨M, A, v, st, rfl, hM, vld, hpos, hle, hA, hv, q⟩ := h
    refine ⟨_, (pss_cons (ps_set (i := 1) sc_shrunk_steps.nd rfl (Or.inl rfl) (pe_fn (fn_classes_of c) (hr.mono (by decide)) rfl (pa_cons (pv 0) pa_nil)))
      (pss_cons (ps_set (i := 2) sc_shrunk_steps.nd rfl (Or.inl rfl) (pe_lst (pa_cons pe_int pa_nil)))
      (pss_cons (ps_set (i := 3) sc_shrunk_steps.nd rfl (Or.inl rfl) (pe_disp (pps_cons (pe_ix (ix_seqK (K := K)) (pv 1) pe_int (fun _ _ => rfl)) pe_int pps_nil) (by rfl) (by rfl) (fun z => by cases z) (by decide)))
      (pss_cons (ps_set (i := 4) sc_shrunk_steps.nd rfl (Or.inl rfl) (pe_lst pa_nil))
      (pss_cons (ps_while PassesOwn.never (pt_cmpR op_lt (pe_callB (call_len_seqK (K := K)) (by rfl) c.b_len (by decide +kernel) (pa_cons (pv 4) pa_nil)) (pe_callB (call_len_seqK (K := K)) (by rfl) c.b_len (by decide +kernel) (pa_cons (pv 2) pa_nil)) (nomark _))
        (pss_cons (ps_set (i := 5) sc_shrunk_steps.nd rfl (Or.inl rfl) (pe_lst pa_nil))
        (pss_cons (ps_for PassesOwn.never rfl (pi_tupK (K := K) (pe_ix (ix_seqK (K := K)) (pv 0) (pe_ix (ix_seqK (K := K)) (pv 2) (pe_callB (call_len_seqK (K := K)) (by rfl) c.b_len (by decide +kernel) (pa_cons (pv 4) pa_nil)) (fun _ _ => rfl)) (fun _ _ => rfl))) (pg_tup rfl (pgs_cons (pg_name (i := 6) sc_shrunk_steps.nd rfl (Or.inl rfl)) (pgs_cons (pg_name (i := 7) sc_shrunk_steps.nd rfl (Or.inl rfl)) pgs_nil)))
          (pss_cutW (ps_if (pt_cmp (pc_dnotin (hu_of hr) (pe_ix (ix_seqK (K := K)) (pv 1) (pv 6) (fun _ _ => rfl)) (pv 3)))
            (pss_cons (ps_dput (hu_of hr) (pv 3) (pe_ix (ix_seqK (K := K)) (pv 1) (pv 6) (fun _ _ => rfl)) (pe_callB (call_len_seqK (K := K)) (by rfl) c.b_len (by decide +kernel) (pa_cons (pv 2) pa_nil)) rfl)
            (pss_one (ps_expr (pe_bm PySem.F.plainAttrs_list PySem.F.slot_list_append PySem.F.type_list_append mt_append (pv 2) (pa_cons (pv 6) pa_nil)))))
            pss_nil)
          (pss_one (ps_expr (pe_bm PySem.F.plainAttrs_list PySem.F.slot_list_append PySem.F.type_list_append mt_append (pv 5) (pa_cons (pe_tup (pa_cons (pe_dget (hu_of hr) (pv 3) (pe_ix (ix_seqK (K := K)) (pv 1) (pv 6) (fun _ _ => rfl)) (fun _ _ => rfl)) (pa_cons (pv 7) pa_nil))) pa_nil))))))
        (pss_one (ps_expr (pe_bm PySem.F.plainAttrs_list PySem.F.slot_list_append PySem.F.type_list_append mt_append (pv 4) (pa_cons (pe_callTy (call_tuple_ofK (K := K)) (by rfl) c.b_tuple (by decide +kernel) (pa_cons (pv 5) pa_nil)) pa_nil)))))))
      (pss_one (ps_ret (pv 4)))))))), ?_⟩
    obtain ⟨N, hN, d⟩ := done_ex vld hpos
    have okN := ok_of_done d (Nat.le_refl N)
    refine ⟨_, rfl, A, v, st, rfl, vld, hpos, hle, hA, hv, fun cl C H1 co s1 nC hC => ?_⟩
    have hcl := co.len
    refine ⟨by show 1 ≤ sizeLine; decide, fun Ln nLn => ?_⟩
    have sL : Same H1 (upd H1 Ln (.lst [.int 0])) := same_upd nLn
    intro Dd nDd
    have sD : Same (upd H1 Ln (.lst [.int 0])) (upd (upd H1 Ln (.lst [.int 0])) Dd (.dK [])) := same_upd nDd
    refine ⟨_, rfl, ixL_of (sD _ _ (sL _ _ hC)) (j := 0) rfl (natV_at (by omega)) ?_⟩
    refine ⟨upd_same, [(iK (cl.getD 0 0), .int 0)], rfl, by show 1 ≤ 15; decide, ?_⟩
    rw [upd_upd]
    have hLD : Ln ≠ Dd := fun e => by rw [← e, upd_same] at nDd; cases nDd
    refine ⟨Nat.zero_le _, fun It nIt => ?_⟩
    have hLI : Ln ≠ It := fun e => by rw [← e, upd_ne hLD, upd_same] at nIt; cases nIt
    have hDI : Dd ≠ It := fun e => by rw [← e, upd_same] at nIt; cases nIt
    have nD1 : H1 Dd = none := sL.free nDd
    have nI1 : H1 It = none := by rw [upd_ne (Ne.symm hDI), upd_ne (Ne.symm hLI)] at nIt; exact nIt
    have hM1 := dom_same hM s1
    have su0 : SU K (A := A) st cl H1 (upd (upd (upd H1 Ln (.lst [.int 0])) Dd (.dK (mergeK [] [(iK (cl.getD 0 0), .int 0)]))) It (.lst [])) (Ln :: Dd :: It :: M) Ln Dd It [0] [beh A st 0] [] [] :=
      ⟨same_upd2 (same_upd2 sL nD1) nI1, by rw [upd_ne hLI, upd_ne hLD, upd_same]; rfl, by rw [upd_ne hDI, upd_same]; rfl, upd_same, .nil, .cons ⟨hpos, rfl⟩ .nil⟩
    generalize upd (upd (upd H1 Ln (.lst [.int 0])) Dd (.dK (mergeK [] [(iK (cl.getD 0 0), .int 0)]))) It (.lst []) = Hw at su0 ⊢
    refine ⟨fun n σ H' => ∃ (p : Nat) (lk : List Nat) (vsI : List V) (x5 x6 x7 : Option V), n = N - p ∧ p ≤ N ∧ σ = [some v, some (.ref C), some (.ref Ln), some (.ref Dd), some (.ref It), x5, x6, x7] ∧ SU K (A := A) st cl H1 H' (Ln :: Dd :: It :: M) Ln Dd It lk (bfs (beh A st 0) p).line vsI (bfs (beh A st 0) p).items,
      ⟨_, 0, [0], [], none, none, none, rfl, Nat.zero_le _, rfl, su0⟩, ?_⟩
    clear su0 Hw
    rintro n σ H2 ⟨p, lk, vsI, x5, x6, x7, rfl, hp, rfl, su⟩
    have ok := ok_of_done d hp
    have lenI := Paired.length su.pi
    have lenL := Paired.length su.lk
    rw [ok.ilen] at lenI
    refine ⟨_, rfl, lenL_of su.i ⟨_, rfl, lenL_of su.l ⟨_, _, rfl, rfl, _, rfl, ?_⟩⟩⟩
    rw [natV_len, lenI, lenL]
    refine ite2 (fun hlt => ?_) (fun hlt => ?_)
    · have hlt := of_decide_eq_true hlt
      have hlt : p < (bfs (beh A st 0) p).line.length := by omega
      have hpN : p < N := by
        rcases Nat.lt_or_ge p N with g | g
        · exact g
        · have : p = N := by omega
          subst this
          rw [show (bfs (beh A st 0) p).line.length = p from d] at hlt
          omega
      refine ⟨fun σ' H' => ∃ (lk : List Nat) (vsI : List V) (x5 x6 x7 : Option V), σ' = [some v, some (.ref C), some (.ref Ln), some (.ref Dd), some (.ref It), x5, x6, x7] ∧ SU K (A := A) st cl H1 H' (Ln :: Dd :: It :: M) Ln Dd It lk (bfs (beh A st 0) (p + 1)).line vsI (bfs (beh A st 0) (p + 1)).items,
        fun σ' H' ⟨lk, vsI, y5, y6, y7, e, h⟩ => ⟨N - (p + 1), by omega, p + 1, lk, vsI, y5, y6, y7, rfl, hpN, e, h⟩, ?_⟩
      refine ⟨Nat.zero_le _, fun Im nIm => ?_⟩
      have sIm : Same H2 (upd H2 Im (.lst [])) := same_upd nIm
      have nIm1 : H1 Im = none := su.same.free nIm
      have hLm : Ln ≠ Im := ne_of_none su.l nIm
      have hDm : Dd ≠ Im := ne_of_none su.d nIm
      have hIm : It ≠ Im := ne_of_none su.i nIm
      have hlk0 : lk[p]? = some (lk.getD p 0) := getD_some (by omega) 0
      have hk0 : lk.getD p 0 < st.length := by
        obtain ⟨_, h2, _⟩ := lk_get su.lk (getD_some hlt (beh A st 0))
        exact h2
      refine ⟨_, rfl, _, rfl, _, rfl, lenL_of (sIm _ _ su.i) (ixL_of (sIm _ _ su.l) (j := p) (by rw [lenI]) (natV_at (by omega)) ?_)⟩
      refine ixs_of (s1.trans (su.same.trans sIm)) (seq_lst hv) (j := lk.getD p 0) rfl (getD_some hk0 []) fun ur hur => ?_
      obtain ⟨b, vs, rfl, hqb, pb⟩ := hur
      have hvl : vs.length = A := by rw [Paired.length pb]; exact (vld _ hk0).1
      have hAN : A ≤ 3 := hA
      refine ⟨b, rfl, ⟨_, Same.tup (s1.trans (su.same.trans sIm)) hqb⟩, ?_⟩
      refine for_tup (K := K) (a := b) (xs := vs) (fun k σ H' => ∃ (lk' : List Nat) (vsm : List V) (x6 x7 : Option V), σ = [some v, some (.ref C), some (.ref Ln), some (.ref Dd), some (.ref It), some (.ref Im), x6, x7] ∧ lk'.getD p 0 = lk.getD p 0 ∧
          SU K (A := A) st cl H1 H' (Im :: Ln :: Dd :: It :: M) Ln Dd It lk' (innAt (beh A st 0) p k).line vsI (bfs (beh A st 0) p).items ∧ H' Im = some (.lst vsm) ∧ Paired (dPair K dNat dInt (mk (Im :: Ln :: Dd :: It :: M) H')) vsm (innAt (beh A st 0) p k).item)
        ⟨lk, [], x6, x7, rfl, rfl, ⟨su.same.trans sIm, sIm _ _ su.l, sIm _ _ su.d, sIm _ _ su.i, by rw [mk_new nIm]; exact su.pi, su.lk⟩, upd_same, .nil⟩ (fun k σ H' _ ⟨_, _, _, _, _, _, su', _⟩ => Same.tup (s1.trans su'.same) hqb) ?_ ?_
      · rintro k x σ H3 hx ⟨lk', vsm, x6, x7, rfl, hlk', su', hm, pm⟩
        have hkA : k < A := by have := (List.getElem?_eq_some_iff.mp hx).1; omega
        obtain ⟨s, hs, hp2⟩ := pget pb hx
        have es : s = (nx st (lk.getD p 0) k, ad st (lk.getD p 0) k) := by
          unfold nx ad
          rw [List.getD_eq_getElem?_getD (l := st.getD (lk.getD p 0) []), hs]
          rfl
        subst es
        refine pTgt (s1.trans su'.same) hp2 fun u1 u2 hu1 hu2 => ?_
        cases (show u1 = .int ((nx st (lk.getD p 0) k : Nat) : Int) from hu1)
        cases (show u2 = .int (ad st (lk.getD p 0) k) from hu2)
        obtain ⟨g1, g2, nd, hcase⟩ := sh_step vld co d hpN hkA su'.lk
        rw [hlk'] at hcase
        have haft : nx st (lk.getD p 0) k < cl.length := by rw [hcl]; exact (vld _ hk0).2 k hkA
        have iok := innAt_ok ok k (by omega)
        have lenk := Paired.length su'.lk
        have lenm := Paired.length pm
        rw [iok.ilen] at lenm
        have hmask : ∀ z, z ∈ Im :: Ln :: Dd :: It :: M → H3 z ≠ none := fun z hz e => by
          simp at hz
          rcases hz with h | h | h | h | h
          · subst h; rw [hm] at e; cases e
          · subst h; rw [su'.l] at e; cases e
          · subst h; rw [su'.d] at e; cases e
          · subst h; rw [su'.i] at e; cases e
          · exact dom_same hM1 su'.same z h e
        have hlN := line_le d hpN (j := k) (by omega)
        refine ⟨fun σ' H' => ∃ (lk'' : List Nat) (u : Nat), σ' = [some v, some (.ref C), some (.ref Ln), some (.ref Dd), some (.ref It), some (.ref Im), some (.int ((nx st (lk.getD p 0) k : Nat) : Int)), some (.int (ad st (lk.getD p 0) k))] ∧ lk''.getD p 0 = lk.getD p 0 ∧
            SU K (A := A) st cl H1 H' (Im :: Ln :: Dd :: It :: M) Ln Dd It lk'' (innAt (beh A st 0) p (k + 1)).line vsI (bfs (beh A st 0) p).items ∧ H' Im = some (.lst vsm) ∧ Paired (dPair K dNat dInt (mk (Im :: Ln :: Dd :: It :: M) H')) vsm (innAt (beh A st 0) p k).item ∧
            (clsL cl lk'').Nodup ∧ (clsL cl lk'')[u]? = some (cl.getD (nx st (lk.getD p 0) k) 0) ∧ (innAt (beh A st 0) p (k + 1)).item = (innAt (beh A st 0) p k).item ++ [(u, ad st (lk.getD p 0) k)], ?_, ?_⟩
        · refine ⟨_, rfl, _, rfl, ixL_of (su'.same _ _ hC) (j := nx st (lk.getD p 0) k) rfl (natV_at haft) ⟨_, rfl, Dd, _, rfl, DGet.k (k := iK (cl.getD (nx st (lk.getD p 0) k) 0)) su'.d, ⟨_, rfl, ?_⟩⟩⟩
          rcases hcase with ⟨u, hu, e⟩ | ⟨hnin, hltN, e, plk⟩
          · rw [numK_some nd hu]
            refine iteF ⟨lk', u, rfl, hlk', ?_, hm, pm, nd, hu, by rw [e]⟩
            rw [e]
            exact su'
          · rw [numK_none hnin]
            refine iteT ?_
            have hdn : upd H3 Dd (.dK (putK (numK cl lk') (iK (cl.getD (nx st (lk.getD p 0) k) 0)) (.int (lk'.length : Int)))) Ln = some (.lst (natV lk')) := by rw [upd_ne hLD]; exact su'.l
            refine ⟨_, rfl, lenL_of su'.l ⟨_, rfl, _, rfl, _, rfl, ixL_of (su'.same _ _ hC) (j := nx st (lk.getD p 0) k) rfl (natV_at haft) ⟨Dd, _, rfl, DPut.k (k := iK (cl.getD (nx st (lk.getD p 0) k) 0)) su'.d (len_ok (by rw [numK_len]; omega)), ?_⟩⟩⟩
            rw [natV_len]
            refine ⟨_, rfl, ty_lst hdn, _, rfl, _, _, _, rfl, rfl, hdn, len_ok (by rw [natV_len]; omega), ?_⟩
            rw [numK_put hnin, natV_snoc]
            have em : mk (Im :: Ln :: Dd :: It :: M) (upd (upd H3 Dd (.dK (numK cl (lk' ++ [nx st (lk.getD p 0) k])))) Ln (.lst (natV (lk' ++ [nx st (lk.getD p 0) k])))) = mk (Im :: Ln :: Dd :: It :: M) H3 := by rw [mk_upd_in (by simp), mk_upd_in (by simp)]
            refine ⟨lk' ++ [nx st (lk.getD p 0) k], lk'.length, rfl, ?_, ?_, ?_, by rw [em]; exact pm, ?_, ?_, by rw [e]⟩
            · rw [getD_app (by have := (List.getElem?_eq_some_iff.mp g2).1; exact this)]; exact hlk'
            · rw [e]
              exact ⟨same_upd2 (same_upd2 su'.same nD1) nLn, upd_same, by rw [upd_ne (Ne.symm hLD), upd_same], by rw [upd_ne (Ne.symm hLI), upd_ne (Ne.symm hDI)]; exact su'.i, by rw [em]; exact su'.pi, plk⟩
            · rw [upd_ne (Ne.symm hLm), upd_ne (Ne.symm hDm)]; exact hm
            · unfold clsL at nd hnin ⊢
              rw [List.map_append, List.nodup_append]
              exact ⟨nd, by simp, fun a ha b hb e => hnin (by rw [List.map_cons, List.map_nil, List.mem_singleton] at hb; rw [← hb, ← e]; exact ha)⟩
            · unfold clsL
              rw [List.map_append, List.getElem?_append_right (by simp)]
              simp
        · rintro σ' H4 ⟨lk'', u, rfl, hlk'', su4, hm4, pm4, nd4, hu4, e4⟩
          refine ⟨_, rfl, ty_lst hm4, _, rfl, _, rfl, _, rfl, ixL_of (su4.same _ _ hC) (j := nx st (lk.getD p 0) k) rfl (natV_at haft) ?_⟩
          have hdg := DGet.k (k := iK (cl.getD (nx st (lk.getD p 0) k) 0)) su4.d
          rw [numK_some nd4 hu4] at hdg
          refine ⟨Dd, .int (u : Int), rfl, hdg, _, rfl, by show 2 ≤ sizeLine; decide, fun T nT => ?_⟩
          have sT : Same H4 (upd H4 T (.tup [.int (u : Int), .int (ad st (lk.getD p 0) k)])) := same_upd nT
          have hm5 := sT _ _ hm4
          have eM : mk (Im :: Ln :: Dd :: It :: M) (upd (upd H4 T (.tup [.int (u : Int), .int (ad st (lk.getD p 0) k)])) Im (.lst (vsm ++ [.ref T]))) = mk (Im :: Ln :: Dd :: It :: M) (upd H4 T (.tup [.int (u : Int), .int (ad st (lk.getD p 0) k)])) := mk_upd_in (by simp)
          have hTm : T ∉ Im :: Ln :: Dd :: It :: M := fun hz => by
            simp at hz
            rcases hz with h | h | h | h | h
            · subst h; rw [hm4] at nT; cases nT
            · subst h; rw [su4.l] at nT; cases nT
            · subst h; rw [su4.d] at nT; cases nT
            · subst h; rw [su4.i] at nT; cases nT
            · exact dom_same hM1 su4.same T h nT
          refine ⟨_, _, _, rfl, rfl, hm5, len_ok (by omega), ?_⟩
          refine ⟨lk'', vsm ++ [.ref T], _, _, rfl, hlk'', ⟨same_upd2 (su4.same.trans sT) nIm1, by rw [upd_ne hLm]; exact sT _ _ su4.l, by rw [upd_ne hDm]; exact sT _ _ su4.d, by rw [upd_ne hIm]; exact sT _ _ su4.i, ?_, su4.lk⟩, upd_same, ?_⟩
          · rw [eM]; exact Paired.mono (fun _ _ => dTup_mono mPair _ _ _ _ (mk_mono sT)) su4.pi
          · rw [eM, e4]
            refine Paired.snoc (Paired.mono (fun _ _ => mPair _ _ _ _ (mk_mono sT)) pm4) ⟨T, _, _, rfl, .inl (.inl ?_), rfl, rfl⟩
            rw [mk_out hTm]; exact upd_same
      · rintro σ H3 ⟨lk', vsm, x6, x7, rfl, hlk', su', hm, pm⟩
        rw [hvl] at su' pm
        have hmask : ∀ z, z ∈ Im :: Ln :: Dd :: It :: M → H3 z ≠ none := fun z hz e => by
          simp at hz
          rcases hz with h | h | h | h | h
          · subst h; rw [hm] at e; cases e
          · subst h; rw [su'.l] at e; cases e
          · subst h; rw [su'.d] at e; cases e
          · subst h; rw [su'.i] at e; cases e
          · exact dom_same hM1 su'.same z h e
        refine ⟨_, rfl, ty_lst su'.i, _, rfl, tuple_of hm fun l nl => ?_⟩
        have sl : Same H3 (upd H3 l (.tup vsm)) := same_upd nl
        refine ⟨_, _, _, rfl, rfl, sl _ _ su'.i, len_ok (by omega), ?_⟩
        have eM : ∀ o, mk (Ln :: Dd :: It :: M) (upd (upd H3 l (.tup vsm)) It o) = mk (Ln :: Dd :: It :: M) (upd H3 l (.tup vsm)) := fun o => mk_upd_in (by simp)
        have shr : Same (mk (Im :: Ln :: Dd :: It :: M) (upd H3 l (.tup vsm))) (mk (Ln :: Dd :: It :: M) (upd H3 l (.tup vsm))) := mk_sub fun z hz => List.mem_cons_of_mem _ hz
        refine ⟨lk', vsI ++ [.ref l], _, _, _, rfl, ?_⟩
        rw [bfs_succ hlt]
        refine ⟨same_upd2 (su'.same.trans sl) nI1, by rw [upd_ne hLI]; exact sl _ _ su'.l, by rw [upd_ne hDI]; exact sl _ _ su'.d, upd_same, ?_, su'.lk⟩
        rw [eM]
        exact Paired.mono (fun _ _ => dTup_mono mPair _ _ _ _ shr) (Paired.snoc (Paired.mono (fun _ _ => dTup_mono mPair _ _ _ _ (mk_mono sl)) su'.pi) (tup_new mPair nl (fun z => hmask l z nl) pm))
    · have hge : ¬ (p : Int) < ((bfs (beh A st 0) p).line.length : Int) := fun z => hlt (decide_eq_true z)
      have hpN : p = N := by
        have := ok.ple
        exact done_unique (show (bfs (beh A st 0) p).line.length = p by omega) d
      subst hpN
      refine ⟨_, rfl, q _ d hN _ _ (s1.trans su.same) ⟨It, vsI, rfl, .inl (.inl ?_), Paired.mono (fun _ _ => dTup_mono mPair _ _ _ _ (mk_sub fun z hz => by simp [hz])) su.pi⟩⟩
      rw [mk_out (notin_of hM1 nI1)]; exact su.i
end
end AW
namespace AW
open PySem PySem.Spec PyProof.Rows L2
/-- a comprehension over pairs -/
theorem lc_mapP [Inhabited β] {K : PySem.W.Frag} {J : It} {us : List V} {G : Hp → Prop} (w : Walk J us.length G (YAt us)) {te : TE} {j1 j2 : Nat} {σ : L2.St} {H1 : Hp} {D : Addr} {Qd : Hp → Prop} {M : List Addr} {xs : List (Nat × Int)} {R : DR β} (g : Nat × Int → β)
    (mR : Mono R) (hp : Paired (dPair K dNat dInt (mk M H1)) us xs) (hD : H1 D = none) (hM : ∀ a ∈ M, H1 a ≠ none) (hn : us.length ≤ 16000000) (hG : ∀ H, Same H1 H → G H) (hw : ∀ x y, wipe (((wipe σ [j1, j2]).set j1 x).set j2 y) [j1, j2] = wipe σ [j1, j2])
    (he : ∀ s H, s ∈ xs → Same H1 H → Same (mk M H1) (mk (D :: M) H) → (∀ a ∈ D :: M, H a ≠ none) → ∀ Q : VK, (∀ y H4, Same H H4 → R (mk (D :: M) H4) y (g s) → Q y H4) → te (((wipe σ [j1, j2]).set j1 (some (.int (s.1 : Int)))).set j2 (some (.int s.2))) H Q)
    (hd : ∀ H, Same H1 H → (∃ ys, H D = some (.lst ys) ∧ Paired (R (mk M H)) ys (xs.map g)) → Qd H) :
    ∃ W : Nat → Nat → Hp → Prop, (∃ m, W 0 m (upd H1 D (.lst []))) ∧ ∀ i m H, W i m H →
      (J.stop i H ∧ Qd H) ∨ (J.go i H ∧ ∃ Nx : Hp → Prop, (∀ H', Nx H' → ∃ m', m' < m ∧ W (i + 1) m' H') ∧ ∀ x H', J.yld i H x H' → gTup K 2 (gCons (gName j1) (gCons (gName j2) gNil)) x (wipe σ [j1, j2]) H' fun σ2 H2 => wipe σ2 [j1, j2] = wipe σ [j1, j2] ∧ tYes σ2 H2 fun b H3 =>
        if b = true then te σ2 H3 fun y H4 => ∃ acc, H4 D = some (.lst acc) ∧ acc.length < sizeLine ∧ Nx (upd H4 D (.lst (acc ++ [y]))) else Nx H3) := by
  have hl := Paired.length hp
  refine lc_gen w (fun i => (xs.map g).getD i default) mR hD hM hn hG ?_ ?_
  · rintro i x H H' hi s1 s2 hDn hMn ⟨rfl, hx⟩
    obtain ⟨s, hs, r⟩ := pget hp hx
    refine ⟨((wipe σ [j1, j2]).set j1 (some (.int (s.1 : Int)))).set j2 (some (.int s.2)), _, fun k q => pTgt (s1.trans (Same.refl _) |> fun _ => (mk_same (M := M)).trans s1) r fun x y hx hy => by cases (show x = .int (s.1 : Int) from hx); cases (show y = .int s.2 from hy); exact q, hw _ _, fun Q q => ?_⟩
    refine he s _ (List.mem_of_getElem? hs) s1 s2 ?_ Q fun y H4 s4 r4 => q y H4 s4 ?_
    · intro a ha
      rcases List.mem_cons.mp ha with e | e
      · subst e; exact hDn
      · exact hMn a e
    · have e : (xs.map g).getD i default = g s := by
        rw [List.getD_eq_getElem?_getD, List.getElem?_map, hs]; rfl
      rw [e]; exact r4
  · intro H s1 ⟨ys, h1, h2⟩
    refine hd H s1 ⟨ys, h1, ?_⟩
    have e : (List.range us.length).map (fun i => (xs.map g).getD i default) = xs.map g := by
      have := map_range_getD (default : β) (xs.map g)
      rw [List.length_map] at this
      rw [hl]; exact this
    rw [e] at h2
    exact h2
section
variable {K : PySem.W.Frag} {cSg : Addr} {H0 H : Hp} {v : V} {d : Sd2} {Q : VK}
theorem sg_lots (s : Same H0 H) (cl : Cls K cSg) (n : NoAttr K cSg "lots") (h : dStand2 K cSg H0 v d) (q : ∀ u, dTup K (dTup K dInt) H0 u d.lots → Q u H) : rFldQ K "lots" v H Q := by
  unfold rFldQ
  obtain ⟨a, dx, fs, vl, vs, e, h0, h1, h2, h3, h4⟩ := h
  exact ⟨a, cSg, dx, fs, _, e, s _ _ h0, cl, n, h1, q _ h3⟩
theorem sg_steps (s : Same H0 H) (cl : Cls K cSg) (n : NoAttr K cSg "steps") (h : dStand2 K cSg H0 v d) (q : ∀ u, dSteps K H0 u d.steps → Q u H) : rFldQ K "steps" v H Q := by
  unfold rFldQ
  obtain ⟨a, dx, fs, vl, vs, e, h0, h1, h2, h3, h4⟩ := h
  exact ⟨a, cSg, dx, fs, _, e, s _ _ h0, cl, n, h2, q _ h4⟩
end
def cRow (ends : List Int) (lots : List (List Int)) (steps : Steps) (i : Nat) : List (Nat × Int) := (steps.getD i []).map fun s => (s.1, s.2 + close ends (lots.getD s.1 []) - close ends (lots.getD i []))
theorem closed_eq (ends : List Int) (lots : List (List Int)) (steps : Steps) : closed ends lots steps = (List.range steps.length).map (cRow ends lots steps) := rfl
theorem ints_at {l : List Int} {i : Nat} (h : i < l.length) : (l.map V.int)[i]? = some (.int (l.getD i 0)) := by rw [List.getElem?_map, getD_some h 0]; rfl
section
variable {P : Program} {w : World} {K : PySem.W.Frag} {mg : Str → Option Value} {base : Heap} {cSt cSg cMa cVe cRl : Addr}
def sp_standing_steps (K : PySem.W.Frag) (cSt : Addr) : Sp := fun vs H Q _ => ∃ (M : List Addr) (v : V) (d : Wd) (S : List (List Int)), vs = [v] ∧ Wf d ∧ (∀ p ∈ M, H p ≠ none) ∧ dStore K cSt (mk M H) v d ∧ Closed d S ∧
  ∀ (x : Sd2) (T : Addr) (u : V) (H' : Hp), StOk d.asks.cps.size d.begins.length d.costs d.begins x.lots x.steps → x.lots.length ≤ S.length → Same H H' → H' T = some (.tup [.int (mn d.begins + close d.ends (x.lots.getD 0 [])), u]) → dStepsL K (mk M H') u (closed d.ends x.lots x.steps) → Q (.ref T) H'
theorem fn_standing_steps (c : Env K mg cSt cSg cMa cVe cRl) : Fn P w K mg base "standing_steps" 4 P_standing_steps (sp_standing_steps K cSt) := by
  refine fn_ok c.d_standing_steps sc_standing_steps (fun _ _ _ _ _ _ us hl => match us, hl with | [_], _ => rfl) (fun vs H Q E h => ?_) (fun f cdv A outer s H vs Q E hr h => ?_)
  · obtain ⟨M, v, d, S, rfl, wf, hM, hd, hS, q⟩ := h
    rfl
  · obtain ⟨M, v, d, S, rfl, wf, hM, hd, hS, q⟩ := h
    refine ⟨_, (pss_cons (ps_set (i := 1) sc_standing_steps.nd rfl (Or.inl rfl) (pe_fn (fn_standings c) (hr.mono (by decide)) rfl (pa_cons (pv 0) pa_nil)))
      (pss_cons (ps_set (i := 2) sc_standing_steps.nd rfl (Or.inr rfl) (pe_lc (own := [("lot", 6)]) (g := gName 6) (tt := tYes) rfl sc_standing_steps.nd (pi_tupK (K := K) (pe_fldK (K := K) (pv 1))) (blkOk_by (N := N_standing_steps) (sc := defScope s_standing_steps) (own := [("lot", 6)]) (by decide +kernel)) (fun _ _ _ _ _ => (pg_name (i := 6) sc_standing_steps.nd rfl (by first | exact Or.inl rfl | exact Or.inr rfl))) (fun _ _ _ _ _ => pts_nil) (fun _ _ _ _ _ => (pe_callB (cr_minSK (K := K) rfl) (by rfl) c.b_min (by decide +kernel) (pa_cons (pe_fn (fn_added c) (hr.mono (by decide)) rfl (pa_cons (pv 6) (pa_cons (pe_fldK (K := K) (pv 0)) pa_nil))) pa_nil)))))
      (pss_cons (ps_set (i := 3) sc_standing_steps.nd rfl (Or.inl rfl) (pe_lst pa_nil))
      (pss_cons (ps_for PassesOwn.never rfl (pi_enumT rfl c.b_enumerate (pa_cons (pe_fldK (K := K) (pv 1)) pa_nil)) (pg_tup rfl (pgs_cons (pg_name (i := 4) sc_standing_steps.nd rfl (Or.inr rfl)) (pgs_cons (pg_name (i := 5) sc_standing_steps.nd rfl (Or.inl rfl)) pgs_nil)))
        (pss_one (ps_expr (pe_bm PySem.F.plainAttrs_list PySem.F.slot_list_append PySem.F.type_list_append mt_append (pv 3) (pa_cons (pe_callTy (call_tuple_ofK (K := K)) (by rfl) c.b_tuple (by decide +kernel) (pa_cons (pe_lc (own := [("after", 7), ("add", 8)]) (g := gTup K 2 (gCons (gName 7) (gCons (gName 8) gNil))) (tt := tYes) rfl sc_standing_steps.nd (pi_tupK (K := K) (pv 5)) (blkOk_by (N := N_standing_steps) (sc := defScope s_standing_steps) (own := [("after", 7), ("add", 8)]) (by decide +kernel)) (fun _ _ _ _ _ => (pg_tup rfl (pgs_cons (pg_name (i := 7) sc_standing_steps.nd rfl (by first | exact Or.inl rfl | exact Or.inr rfl)) (pgs_cons (pg_name (i := 8) sc_standing_steps.nd rfl (by first | exact Or.inl rfl | exact Or.inr rfl)) pgs_nil)))) (fun _ _ _ _ _ => pts_nil) (fun _ _ _ _ _ => (pe_tup (pa_cons (pv 7) (pa_cons (pe_op op_sub (pe_op op_add (pv 8) (pe_ix (ix_seqK (K := K)) (pv 2) (pv 7) (fun _ _ => rfl))) (pe_ix (ix_seqK (K := K)) (pv 2) (pv 4) (fun _ _ => rfl))) pa_nil))))) pa_nil)) pa_nil)))))
      (pss_one (ps_ret (pe_tup (pa_cons (pe_op op_add (pe_callB (cr_minSK (K := K) rfl) (by rfl) c.b_min (by decide +kernel) (pa_cons (pe_fldK (K := K) (pv 0)) pa_nil)) (pe_ix (ix_seqK (K := K)) (pv 2) pe_int (fun _ _ => rfl))) (pa_cons (pv 3) pa_nil))))))))), ?_⟩
    have cl := c.k_Store.cl
    have clg := c.k_Standings.cl
    have hpos := wf.pos
    have hle := wf.le
    refine ⟨v, rfl, M, v, d, S, rfl, wf, hM, hd, hS, fun x u H1 st hxS s1 hu => ?_⟩
    have hS1 := hS.2.2
    have hM1 := dom_same hM s1
    have hd1 := dStore_mono _ _ _ _ (mk_mono (M := M) s1) hd
    refine ⟨u, rfl, sg_lots mk_same clg c.n_Standings_lots hu fun ul hul => ?_⟩
    obtain ⟨a, us, rfl, hq, p⟩ := hul
    have hlen := Paired.length p
    refine ⟨a, rfl, ⟨_, Same.tup mk_same hq⟩, fun D nD => ?_⟩
    refine lc_map (j := 6) (M := M) walk_tup (S := dTup K dInt) (R := dInt) (close d.ends) mT1 dInt_mono p nD hM1 (by omega) (fun H2 s2 => Same.tup s2 (Same.tup mk_same hq)) (fun u l H2 hl s2 s3 hu hM3 Q2 q2 => ?_) (fun H2 s2 ⟨ys, hD2, pD⟩ => ?_)
    · have hll := st.all l hl
      refine ⟨_, rfl, v, rfl, st_ends cl c.n_Store_ends (dStore_mono _ _ _ _ s3 hd1) fun ue he => ?_⟩
      refine ⟨u, ue, l, d.ends, rfl, off mT1 hu, off mT1 he, by rw [hll, wf.el], by omega, fun p H3 s4 np hp => ?_⟩
      refine min_of (seq_lst (dLst_new hp)) (ne_of_len (b := d.ends) (by rw [addv_len _ _ (by rw [hll, wf.el]), hll, wf.el]) (fun e => by have := wf.el; rw [e] at this; simp at this; omega)) (q2 _ _ s4 rfl)
    cases ints_of pD
    have hD2' : H2 D = some (.lst ((x.lots.map (close d.ends)).map V.int)) := hD2
    have s12 := s1.trans s2
    have hM2 := dom_same hM1 s2
    refine ⟨Nat.zero_le _, fun It nIt => ?_⟩
    have sI : Same H2 (upd H2 It (.lst [])) := same_upd nIt
    have nI0 : H It = none := s12.free nIt
    have hDI : D ≠ It := ne_of_none hD2' nIt
    have hIM := notin_of hM2 nIt
    have hu2 := Same.trans (mk_same (M := M)) (s2.trans sI)
    refine ⟨u, rfl, sg_steps hu2 clg c.n_Standings_steps hu fun us2 hus => ?_⟩
    obtain ⟨b, vs, rfl, hqs, ps⟩ := hus
    have hlens := Paired.length ps
    refine ⟨b, vs, rfl, Same.tup hu2 hqs, ?_⟩
    refine for_it walk_enumT (fun i σ H' => ∃ (vsI : List V) (x4 x5 x6 x7 x8 : Option V), σ = [some v, some u, some (.ref D), some (.ref It), x4, x5, x6, x7, x8] ∧ Same H1 H' ∧ H' D = some (.lst ((x.lots.map (close d.ends)).map V.int)) ∧ H' It = some (.lst vsI) ∧ Paired (dTup K (dPair K dNat dInt) (mk (It :: M) H')) vsI ((List.range i).map (cRow d.ends x.lots x.steps)))
      ⟨[], none, none, none, none, none, rfl, s2.trans sI, sI _ _ hD2', upd_same, .nil⟩ (fun i σ H' _ ⟨_, _, _, _, _, _, _, s, _⟩ => Same.tup (Same.trans (mk_same (M := M)) s) hqs) ?_ ?_
    · rintro k z σ H3 H4 hk ⟨vsI, x4, x5, x6, x7, x8, rfl, s3, hD3, hI3, pI⟩ ⟨T, y1, y2, rfl, nT, rfl, hy1, hy2⟩
      cases Option.some.inj hy1
      have sT : Same H3 (upd H3 T (.tup [.int (k : Nat), y2])) := same_upd nT
      refine pair_tgt upd_same ?_
      obtain ⟨row, hrow, hur⟩ := pget ps hy2
      have erow : x.steps.getD k [] = row := by rw [List.getD_eq_getElem?_getD, hrow]; rfl
      have hkl : k < x.lots.length := by rw [← st.len]; omega
      obtain ⟨r1, r2⟩ := st.it k hkl
      obtain ⟨e, ws, rfl, hqe, pe⟩ := hur
      rw [← erow] at pe
      have hwl : ws.length = d.asks.cps.size := by rw [Paired.length pe]; exact r1
      have hA3 : d.asks.cps.size ≤ 3 := (asks_len wf.asks).2
      have s13 := s3.trans sT
      have bs := Same.trans (mk_same (M := M)) s13
      refine ⟨_, rfl, ty_lst (sT _ _ hI3), _, rfl, e, rfl, ⟨_, Same.tup bs hqe⟩, fun D2 nD2 => ?_⟩
      have dom3 : ∀ p ∈ It :: M, (upd H3 T (.tup [.int (k : Nat), .ref e])) p ≠ none := dom_upd (dom_cons (dom_same hM1 s3) hI3)
      have pe' : Paired (dPair K dNat dInt (mk (It :: M) (upd H3 T (.tup [.int (k : Nat), .ref e])))) ws (x.steps.getD k []) := Paired.mono (fun _ _ => mPair _ _ _ _ (fun b' o hb => by
        by_cases hm : b' ∈ M
        · rw [mk_in hm] at hb; cases hb
        · have hb' := hb
          rw [mk_out hm] at hb
          have h1 : b' ≠ It := fun z => by subst z; rw [s2.free nIt] at hb; cases hb
          rw [mk_out (by simp [h1, hm])]
          exact s13 _ _ hb)) pe
      refine lc_mapP (j1 := 7) (j2 := 8) (M := It :: M) walk_tup (R := dPair K dNat dInt) (fun s => (s.1, s.2 + close d.ends (x.lots.getD s.1 []) - close d.ends (x.lots.getD k []))) mPair pe' nD2 dom3 (by omega) (fun H4 s4 => Same.tup (bs.trans s4) hqe) (fun _ _ => rfl) (fun s H4 hs s4 s5 hM4 Q2 q2 => ?_) (fun H4 s4 ⟨ys, hD4, pD4⟩ => ?_)
      · obtain ⟨i, hi⟩ := List.getElem?_of_mem hs
        have hiA : i < d.asks.cps.size := by have := (List.getElem?_eq_some_iff.mp hi).1; omega
        have hs1 : s.1 < x.lots.length := by
          have h := (r2 i hiA).1
          have e' : nx x.steps k i = s.1 := by unfold nx; rw [List.getD_eq_getElem?_getD (l := x.steps.getD k []), hi]; rfl
          rw [e'] at h; exact h
        have hD4 : H4 D = some (.lst ((x.lots.map (close d.ends)).map V.int)) := s4 _ _ (sT _ _ hD3)
        have gm : ∀ j, j < x.lots.length → ((x.lots.map (close d.ends)).map V.int)[j]? = some (.int (close d.ends (x.lots.getD j []))) := fun j hj => by
          rw [List.getElem?_map, List.getElem?_map, getD_some hj []]; rfl
        refine ⟨_, rfl, _, rfl, _, rfl, _, rfl, ixL_of hD4 (j := s.1) rfl (gm _ hs1) ⟨_, _, rfl, rfl, _, rfl, _, rfl, ixL_of hD4 (j := k) rfl (gm _ hkl) ⟨_, _, rfl, rfl, ?_⟩⟩⟩
        refine ⟨by show 2 ≤ sizeLine; decide, fun T2 nT2 => q2 _ _ (same_upd nT2) ⟨T2, _, _, rfl, .inl (.inl ?_), rfl, rfl⟩⟩
        rw [mk_out (notin_of hM4 nT2)]; exact upd_same
      · refine tuple_of hD4 fun l nl => ?_
        have sl : Same H4 (upd H4 l (.tup ys)) := same_upd nl
        have hI5 := sl _ _ (s4 _ _ (sT _ _ hI3))
        have hil : vsI.length = k := by have := Paired.length pI; simpa using this
        refine ⟨_, _, _, rfl, rfl, hI5, len_ok (by have := hS.2.2; omega), ?_⟩
        have eM : ∀ o, mk (It :: M) (upd (upd H4 l (.tup ys)) It o) = mk (It :: M) (upd H4 l (.tup ys)) := fun o => mk_upd_in (by simp)
        refine ⟨vsI ++ [.ref l], _, _, _, _, _, rfl, same_upd2 (s13.trans (s4.trans sl)) (s2.free nIt), ?_, upd_same, ?_⟩
        · rw [upd_ne hDI]; exact sl _ _ (s4 _ _ (sT _ _ hD3))
        · rw [eM, List.range_succ, List.map_append]
          exact Paired.snoc (Paired.mono (fun _ _ => dTup_mono mPair _ _ _ _ (mk_mono (sT.trans (s4.trans sl)))) pI) (tup_new mPair nl (notin_of (dom_same dom3 s4) nl) pD4)
    · rintro σ H3 ⟨vsI, x4, x5, x6, x7, x8, rfl, s3, hD3, hI3, pI⟩
      have s03 := s1.trans s3
      refine ⟨v, rfl, st_begins cl c.n_Store_begins (dStore_mono _ _ _ _ (mk_mono (M := M) s03) hd) fun ub hb => min_of (seq_tup (off mT1 hb)) (List.length_pos_iff.mp hpos) ?_⟩
      have h0 := st.zero
      refine ⟨_, rfl, ixL_of hD3 (j := 0) rfl (by rw [List.getElem?_map, List.getElem?_map, h0]; rfl) ⟨_, _, rfl, rfl, _, rfl, by show 2 ≤ sizeLine; decide, fun T nT => ?_⟩⟩
      have sT : Same H3 (upd H3 T (.tup [.int (mn d.begins + close d.ends (low d.begins)), .ref It])) := same_upd nT
      refine q x T (.ref It) _ st hxS (s03.trans sT) ?_ ⟨It, vsI, rfl, .inl (.inl ?_), ?_⟩
      · rw [upd_same, List.getD_eq_getElem?_getD, h0]; rfl
      · rw [mk_out hIM]; exact sT _ _ hI3
      · rw [hlens] at pI
        rw [closed_eq]
        exact Paired.mono (fun _ _ => dTup_mono mPair _ _ _ _ ((mk_sub fun a ha => List.mem_cons_of_mem _ ha).trans (mk_mono sT))) pI
end
end AW
namespace AW
open PySem PySem.Spec PyProof.Rows L2
/-- a comprehension over a range -/
theorem lc_range {α : Type} {n : Nat} {te : TE} {j : Nat} {σ : L2.St} {H1 : Hp} {D : Addr} {Qd : Hp → Prop} {M : List Addr} {R : DR α} (f : Nat → α) (mR : Mono R) (hD : H1 D = none) (hM : ∀ a ∈ M, H1 a ≠ none) (hn : n ≤ 16000000)
    (he : ∀ i H, i < n → Same H1 H → Same (mk M H1) (mk (D :: M) H) → (∀ a ∈ D :: M, H a ≠ none) → ∀ Q : VK, (∀ y H4, Same H H4 → R (mk (D :: M) H4) y (f i) → Q y H4) → te ((wipe σ [j]).set j (some (.int (i : Int)))) H Q)
    (hd : ∀ H, Same H1 H → (∃ ys, H D = some (.lst ys) ∧ Paired (R (mk M H)) ys ((List.range n).map f)) → Qd H) :
    ∃ W : Nat → Nat → Hp → Prop, (∃ m, W 0 m (upd H1 D (.lst []))) ∧ ∀ i m H, W i m H →
      ((Itr 0 n).stop i H ∧ Qd H) ∨ ((Itr 0 n).go i H ∧ ∃ Nx : Hp → Prop, (∀ H', Nx H' → ∃ m', m' < m ∧ W (i + 1) m' H') ∧ ∀ x H', (Itr 0 n).yld i H x H' → gName j x (wipe σ [j]) H' fun σ2 H2 => wipe σ2 [j] = wipe σ [j] ∧ tYes σ2 H2 fun b H3 =>
        if b = true then te σ2 H3 fun y H4 => ∃ acc, H4 D = some (.lst acc) ∧ acc.length < sizeLine ∧ Nx (upd H4 D (.lst (acc ++ [y]))) else Nx H3) := by
  refine lc_gen walk_range f mR hD hM hn (fun _ _ => trivial) ?_ hd
  rintro i x H H' hi s1 s2 hDn hMn ⟨rfl, rfl⟩
  refine ⟨(wipe σ [j]).set j (some (.int (i : Int))), _, fun k q => ?_, ?_, fun Q q => he i _ hi s1 s2 (fun a ha => ?_) Q q⟩
  · show gName j (V.int (0 + (i : Int))) _ _ k
    rw [Int.zero_add]; exact q
  · show ((((σ.set j none).set j (some (V.int (i : Int)))).set j none) = σ.set j none)
    rw [List.set_set, List.set_set]
  · rcases List.mem_cons.mp ha with e | e
    · subst e; exact hDn
    · exact hMn a e
section
variable {P : Program} {w : World} {K : PySem.W.Frag} {mg : Str → Option Value} {base : Heap} {cSt cSg cMa cVe cRl : Addr}
theorem isi_store {H0 H : Hp} {Q : VK} {v : V} {d : Wd} (c : Env K mg cSt cSg cMa cVe cRl) (s : Same H0 H) (h : dStore K cSt H0 v d) (q : Q (.bl true) H) : rIsiQ K [v, .ref cSt] H Q := by
  unfold rIsiQ
  obtain ⟨a, dx, fs, vb, vc, ve, rfl, h0, _⟩ := h
  exact ⟨.ref a, .ref cSt, .ref cSt, .ref cSt, true, rfl, .own _, .base (.ins (s _ _ h0) c.k_Store.cl c.isi_cls c.isi_get c.isi_tk c.isi_mro), c.isi_one, q⟩
/-- the least machine of a store -/
def sp_least_machine (K : PySem.W.Frag) (cSt cMa : Addr) : Sp := fun vs H Q _ => ∃ (M : List Addr) (v : V) (d : Wd) (S : List (List Int)), vs = [v] ∧ Wf d ∧ (∀ p ∈ M, H p ≠ none) ∧ dStore K cSt (mk M H) v d ∧ Closed d S ∧
  ∀ (x : Sd2) (N : Nat), StOk d.asks.cps.size d.begins.length d.costs d.begins x.lots x.steps → x.lots.length ≤ S.length → Done (beh d.asks.cps.size (closed d.ends x.lots x.steps) 0) N → N ≤ S.length →
    Ret M H (dMach K cMa) ⟨d.asks, mn d.begins + close d.ends (x.lots.getD 0 []), (bfs (beh d.asks.cps.size (closed d.ends x.lots x.steps) 0) N).items, (bfs (beh d.asks.cps.size (closed d.ends x.lots x.steps) 0) N).rows.map vals⟩ Q
theorem fn_least_machine (c : Env K mg cSt cSg cMa cVe cRl) : Fn P w K mg base "least_machine" 8 P_least_machine (sp_least_machine K cSt cMa) := by
  refine fn_ok c.d_least_machine sc_least_machine (fun _ _ _ _ _ _ us hl => match us, hl with | [_], _ => rfl) (fun vs H Q E h => ?_) (fun f cdv A outer s H vs Q E hr h => ?_)
  · obtain ⟨M, v, d, S, rfl, wf, hM, hd, hS, q⟩ := h
    rfl
  · obtain ⟨M, v, d, S, rfl, wf, hM, hd, hS, q⟩ := h
    refine ⟨_, (pss_cons (ps_if (pt_val (pe_callB (call_isiK (K := K)) (by rfl) c.b_isinstance (by decide +kernel) (pa_cons (pv 0) (pa_cons (pe_glob (v := .ref _) rfl c.k_Store.mgC rfl) pa_nil))))
        (pss_cons (ps_asg (pe_fn (fn_standing_steps c) (hr.mono (by decide)) rfl (pa_cons (pv 0) pa_nil)) (pg_tup rfl (pgs_cons (pg_name (i := 1) sc_least_machine.nd rfl (Or.inl rfl)) (pgs_cons (pg_name (i := 2) sc_least_machine.nd rfl (Or.inl rfl)) pgs_nil))))
        (pss_one (ps_ret (pe_ini (ini_Machine c) (hr.mono (by decide)) rfl (pa_cons (pe_fldK (K := K) (pv 0)) (pa_cons (pv 1) (pa_cons (pe_fn (fn_shrunk_steps c) (hr.mono (by decide)) rfl (pa_cons (pv 2) pa_nil)) pa_nil)))))))
        pss_nil)
      (pss_one ps_never)), ?_⟩
    have cl := c.k_Store.cl
    have hS1 := hS.2.2
    refine ⟨v, rfl, isi_store c mk_same hd ⟨true, rfl, iteT ?_⟩⟩
    refine ⟨v, rfl, M, v, d, S, rfl, wf, hM, hd, hS, fun x T u H1 st hxS s1 hT hu => ?_⟩
    refine pair_tgt hT ?_
    have hM1 := dom_same hM s1
    have hlen : (closed d.ends x.lots x.steps).length = x.lots.length := by rw [closed_len, st.len]
    have hpos : 0 < x.lots.length := (List.getElem?_eq_some_iff.mp st.zero).1
    have hA3 : d.asks.cps.size ≤ 3 := (asks_len wf.asks).2
    refine ⟨v, rfl, st_asks cl c.n_Store_asks (dStore_mono _ _ _ _ (mk_mono (M := M) s1) hd) ⟨_, rfl, _, rfl, ?_⟩⟩
    refine ⟨M, d.asks.cps.size, u, closed d.ends x.lots x.steps, rfl, hM1, closed_valid st, by omega, by omega, hA3, off mStepsL hu, fun N dn hN u2 H2 s2 h2 => ?_⟩
    intro y dx ny ndx ned
    have hM2 := dom_same hM1 s2
    refine ⟨M, y, dx, d.asks, _, u2, beh d.asks.cps.size (closed d.ends x.lots x.steps) 0, N, rfl, wf.asks, dn, by omega, upd_same, notin_of hM2 ny, dom_upd (dom_upd hM2), mStepsL _ _ _ _ (make_mask ny ndx) h2, fun H3 s3 h3 => ⟨rfl, ?_⟩⟩
    exact q x N st hxS dn (by omega) _ _ (s1.trans (s2.trans (make_same ny ndx s3))) h3
/-! ### rows through machines -/
def sp_went (K : PySem.W.Frag) : Sp := fun vs H Q _ => ∃ (H0 : Hp) (A : Nat) (v vn : V) (st : Steps) (i : Nat) (ks : List Nat), vs = [v, .int (i : Int), vn] ∧ Same H0 H ∧ Valid A st ∧ dSteps K H0 v st ∧ i < st.length ∧ (∀ k ∈ ks, k < A) ∧ dLst K dNat H0 vn ks ∧
  ∀ T H', Same H H' → H T = none → H' T = some (.tup [.int ((goK st i ks : Nat) : Int), .int (gain st i ks)]) → Q (.ref T) H'
theorem fn_went (c : Env K mg cSt cSg cMa cVe cRl) : Fn P w K mg base "went" 1 P_went (sp_went K) := by
  refine fn_ok c.d_went sc_went (fun _ _ _ _ _ _ us hl => match us, hl with | [_, _, _], _ => rfl) (fun vs H Q E h => ?_) (fun f cdv A outer s H vs Q E hr h => ?_)
  · obtain ⟨H0, A, v, vn, st, i, ks, rfl, s0, vld, hv, hi, hk, hn, q⟩ := h
    rfl
  · obtain ⟨H0, A, v, vn, st, i, ks, rfl, s0, vld, hv, hi, hk, hn, q⟩ := h
    refine ⟨_, (pss_cons (ps_set (i := 3) sc_went.nd rfl (Or.inl rfl) pe_int)
      (pss_cons (ps_for PassesOwn.never rfl (pi_listK (K := K) (pv 2)) (pg_name (i := 4) sc_went.nd rfl (Or.inl rfl))
        (pss_cons (ps_asg (pe_ix (ix_seqK (K := K)) (pe_ix (ix_seqK (K := K)) (pv 0) (pv 1) (fun _ _ => rfl)) (pv 4) (fun _ _ => rfl)) (pg_tup rfl (pgs_cons (pg_name (i := 1) sc_went.nd rfl (Or.inl rfl)) (pgs_cons (pg_name (i := 5) sc_went.nd rfl (Or.inl rfl)) pgs_nil))))
        (pss_one (ps_set (i := 3) sc_went.nd rfl (Or.inl rfl) (pe_op op_add (pv 3) (pv 5))))))
      (pss_one (ps_ret (pe_tup (pa_cons (pv 1) (pa_cons (pv 3) pa_nil))))))), ?_⟩
    obtain ⟨a, us, rfl, hq, p⟩ := hn
    have hlen := Paired.length p
    refine ⟨_, rfl, a, rfl, ⟨_, s0.seq hq⟩, ?_⟩
    refine for_list (K := K) (a := a) (xs := us) (fun j σ H' => ∃ x4 x5, σ = [some v, some (.int ((goK st i (ks.take j) : Nat) : Int)), some (.ref a), some (.int (gain st i (ks.take j))), x4, x5] ∧ H' = H) ⟨none, none, rfl, rfl⟩ (fun i σ H' _ ⟨_, _, _, e⟩ => by rw [e]; exact s0.seq hq) ?_ ?_
    · rintro j x σ H1 hj ⟨x4, x5, rfl, rfl⟩
      obtain ⟨k, hkj, e⟩ := pget p hj
      cases (show x = .int (k : Int) from e)
      have hkA := hk k (List.mem_of_getElem? hkj)
      have hg := goK_lt vld (ks.take j) i hi fun k' h' => hk k' (List.mem_of_mem_take h')
      obtain ⟨v1, v2⟩ := vld _ hg
      refine ⟨_, rfl, _, rfl, ixs_of s0 (seq_tup hv) (j := goK st i (ks.take j)) rfl (getD_some hg []) fun u1 hu1 => ⟨_, rfl, ixs_of s0 (seq_tup hu1) (j := k) rfl (getD_some (by rw [v1]; exact hkA) (0, 0)) fun u2 hu2 => ?_⟩⟩
      refine pTgt s0 hu2 fun x y hx hy => ?_
      cases (show x = .int ((nx st (goK st i (ks.take j)) k : Nat) : Int) from hx)
      cases (show y = .int (ad st (goK st i (ks.take j)) k) from hy)
      refine ⟨_, rfl, _, rfl, _, _, rfl, rfl, ?_⟩
      have e1 : ks.take (j + 1) = ks.take j ++ [k] := by rw [List.take_add_one, hkj]; rfl
      refine ⟨some (.int (k : Int)), some (.int (ad st (goK st i (ks.take j)) k)), ?_, rfl⟩
      rw [e1, goK_append, gain_append]
      show _ = ([_, some (V.int ((nx st (goK st i (ks.take j)) k : Nat) : Int)), _, some (V.int (gain st i (ks.take j) + (ad st (goK st i (ks.take j)) k + 0))), _, _] : L2.St)
      rw [Int.add_zero]
      rfl
    · rintro σ H1 ⟨x4, x5, rfl, rfl⟩
      refine ⟨_, rfl, _, rfl, by show 2 ≤ sizeLine; decide, fun T nT => q T _ (same_upd nT) nT ?_⟩
      rw [upd_same, hlen, List.take_length]
def gk (st : Steps) (ks : List Nat) : List Nat := (List.range st.length).map fun i => goK st i ks
def gg (st : Steps) (ks : List Nat) : List Int := (List.range st.length).map fun i => gain st i ks
def sp_action_of (K : PySem.W.Frag) (cMa : Addr) : Sp := fun vs H Q _ => ∃ (H0 : Hp) (v : V) (d : Mc) (ks : List Nat), vs = [v, .str (rowS d.asks ks)] ∧ Same H0 H ∧ Asks d.asks ∧ Valid d.asks.cps.size d.steps ∧ d.steps.length ≤ 1000 ∧ dMach K cMa H0 v d ∧ (∀ k ∈ ks, k < d.asks.cps.size) ∧ ks.length ≤ 2000 ∧
  ∀ T a b H', Same H H' → H' T = some (.tup [.ref a, .ref b]) → H' a = some (.tup (natV (gk d.steps ks))) → H' b = some (.tup ((gg d.steps ks).map V.int)) → Q (.ref T) H'
theorem fn_action_of (c : Env K mg cSt cSg cMa cVe cRl) : Fn P w K mg base "action_of" 3 P_action_of (sp_action_of K cMa) := by
  refine fn_ok c.d_action_of sc_action_of (fun _ _ _ _ _ _ us hl => match us, hl with | [_, _], _ => rfl) (fun vs H Q E h => ?_) (fun f cdv A outer s H vs Q E hr h => ?_)
  · obtain ⟨H0, v, d, ks, rfl, s0, hA, vld, hle, hd, hk, hkl, q⟩ := h
    rfl
  · obtain ⟨H0, v, d, ks, rfl, s0, hA, vld, hle, hd, hk, hkl, q⟩ := h
    refine ⟨_, (pss_cons (ps_set (i := 2) sc_action_of.nd rfl (Or.inr rfl) (pe_fn (fn_numbers_of c) (hr.mono (by decide)) rfl (pa_cons (pe_fldK (K := K) (pv 0)) (pa_cons (pv 1) pa_nil))))
      (pss_cons (ps_setLc (i := 3) (own := [("kind", 4)]) (g := gName 4) (tt := tYes) rfl sc_action_of.nd rfl rfl (sw_true rfl rfl rfl (by decide +kernel)) (pi_range1 rfl c.b_range (pa_cons (pe_callB (call_len_seqK (K := K)) (by rfl) c.b_len (by decide +kernel) (pa_cons (pe_fldK (K := K) (pv 0)) pa_nil)) pa_nil)) (blkOk_by (N := N_action_of) (sc := defScope s_action_of) (own := [("kind", 4)]) (by decide +kernel)) (fun _ _ _ _ _ => (pg_name (i := 4) sc_action_of.nd rfl (by first | exact Or.inl rfl | exact Or.inr rfl))) (fun _ _ _ _ _ => pts_nil) (fun _ _ _ _ _ => (pe_fn (fn_went c) (hr.mono (by decide)) rfl (pa_cons (pe_fldK (K := K) (pv 0)) (pa_cons (pv 4) (pa_cons (pv 2) pa_nil))))))
      (pss_one (ps_ret (pe_tup (pa_cons (pe_callTy (call_tuple_ofK (K := K)) (by rfl) c.b_tuple (by decide +kernel) (pa_cons (pe_lc (own := [("pair", 5)]) (g := gName 5) (tt := tYes) rfl sc_action_of.nd (pi_listK (K := K) (pv 3)) (blkOk_by (N := N_action_of) (sc := defScope s_action_of) (own := [("pair", 5)]) (by decide +kernel)) (fun _ _ _ _ _ => (pg_name (i := 5) sc_action_of.nd rfl (by first | exact Or.inl rfl | exact Or.inr rfl))) (fun _ _ _ _ _ => pts_nil) (fun _ _ _ _ _ => (pe_ix (ix_seqK (K := K)) (pv 5) pe_int (fun _ _ => rfl)))) pa_nil)) (pa_cons (pe_callTy (call_tuple_ofK (K := K)) (by rfl) c.b_tuple (by decide +kernel) (pa_cons (pe_lc (own := [("pair", 5)]) (g := gName 5) (tt := tYes) rfl sc_action_of.nd (pi_listK (K := K) (pv 3)) (blkOk_by (N := N_action_of) (sc := defScope s_action_of) (own := [("pair", 5)]) (by decide +kernel)) (fun _ _ _ _ _ => (pg_name (i := 5) sc_action_of.nd rfl (by first | exact Or.inl rfl | exact Or.inr rfl))) (fun _ _ _ _ _ => pts_nil) (fun _ _ _ _ _ => (pe_ix (ix_seqK (K := K)) (pv 5) pe_int (fun _ _ => rfl)))) pa_nil)) pa_nil))))))), ?_⟩
    have cl := c.k_Machine.cl
    refine ⟨v, rfl, ma_asks s0 cl c.n_Machine_asks hd ⟨_, rfl, d.asks, ks, rfl, hA, hk, hkl, fun L H1 s1 nL hL => ?_⟩⟩
    have s01 := s0.trans s1
    obtain ⟨L2', hL2⟩ : ∃ us : List V, us = (ks.map fun (k : Nat) => (k : Int)).map V.int := ⟨_, rfl⟩
    have hn : dLst K dNat H1 (.ref L) ks := ⟨L, _, rfl, .inl (.inl hL), by rw [List.map_map]; exact pmap_of (fun (k : Nat) => V.int (k : Int)) (fun _ => rfl) ks⟩
    refine ⟨v, rfl, ma_steps s01 cl c.n_Machine_steps hd fun us hus => lens_of s01 (seq_tup hus) ⟨_, rfl, by omega, by omega, fun D nD => ?_⟩⟩
    refine lc_range (n := d.steps.length) (M := []) (R := dPair K dNat dInt) (fun i => (goK d.steps i ks, gain d.steps i ks)) mPair nD (fun _ h => nomatch h) (by omega) (fun i H2 hi s2 s3 hM2 Q2 q2 => ?_) (fun H2 s2 ⟨ys, hD2, pD⟩ => ?_)
    · refine ⟨v, rfl, ma_steps (s01.trans s2) cl c.n_Machine_steps hd fun us2 hus2 => ⟨_, rfl, _, rfl, H2, d.asks.cps.size, us2, _, d.steps, i, ks, rfl, Same.refl _, vld, mSteps _ _ _ _ (s01.trans s2) hus2, hi, hk, dLst_mono dNat_mono _ _ _ _ s2 hn, fun T H3 s4 nT hT => q2 _ _ s4 ⟨T, _, _, rfl, .inl (.inl ?_), rfl, rfl⟩⟩⟩
      rw [mk_out (notin_of hM2 nT)]; exact hT
    rw [mk_nil] at pD
    have lenD := Paired.length pD
    rw [List.length_map, List.length_range] at lenD
    have s12 := s1.trans s2
    have fin1 : ∀ {H3 : Hp} (s : Same H2 H3) (D3 : Addr), True := fun _ _ => trivial
    -- tuple([pair[0] for pair in pairs])
    refine ⟨_, rfl, D, rfl, ⟨_, .inl (.inl hD2)⟩, fun D1 nD1 => ?_⟩
    refine lc_map (j := 5) (M := []) walk_list (S := dPair K dNat dInt) (R := dNat) (xs := (List.range d.steps.length).map fun i => (goK d.steps i ks, gain d.steps i ks)) (fun p => p.1) mPair dNat_mono (by rw [mk_nil]; exact pD) nD1 (fun _ h => nomatch h) (by omega) (fun H3 s3 => s3.seq (.inl (.inl hD2))) (fun u p H3 hp s3 s4 hu hM3 Q3 q3 => ⟨_, rfl, px0 mk_same hu fun x hx => q3 x _ (Same.refl _) hx⟩) (fun H3 s3 ⟨y1, hD3, p3⟩ => ?_)
    refine tuple_of hD3 fun l1 nl1 => ?_
    have sl1 : Same H3 (upd H3 l1 (.tup y1)) := same_upd nl1
    refine ⟨_, rfl, D, rfl, ⟨_, .inl (.inl (sl1 _ _ (s3 _ _ hD2)))⟩, fun D4 nD4 => ?_⟩
    refine lc_map (j := 5) (M := []) walk_list (S := dPair K dNat dInt) (R := dInt) (xs := (List.range d.steps.length).map fun i => (goK d.steps i ks, gain d.steps i ks)) (fun p => p.2) mPair dInt_mono (by rw [mk_nil]; exact Paired.mono (fun _ _ => mPair _ _ _ _ (s3.trans sl1)) pD) nD4 (fun _ h => nomatch h) (by omega) (fun H4 s4 => s4.seq (.inl (.inl (sl1 _ _ (s3 _ _ hD2))))) (fun u p H4 hp s4 s5 hu hM4 Q4 q4 => ⟨_, rfl, px1 mk_same hu fun x hx => q4 x _ (Same.refl _) hx⟩) (fun H4 s4 ⟨y2, hD5, p5⟩ => ?_)
    refine tuple_of hD5 fun l2 nl2 => ?_
    have sl2 : Same H4 (upd H4 l2 (.tup y2)) := same_upd nl2
    refine ⟨by show 2 ≤ sizeLine; decide, fun T nT => ?_⟩
    have sT : Same (upd H4 l2 (.tup y2)) (upd (upd H4 l2 (.tup y2)) T (.tup [.ref l1, .ref l2])) := same_upd nT
    rw [List.map_map] at p3 p5
    have e1 : y1 = natV (gk d.steps ks) := by
      have := pof_map (fun (i : Nat) => V.int (i : Int)) (fun _ _ h => h) p3
      rw [this]; rfl
    have e2 : y2 = (gg d.steps ks).map V.int := by
      have := ints_of p5
      rw [this]; rfl
    subst e1 e2
    refine q T l1 l2 _ (s12.trans (s3.trans (sl1.trans (s4.trans (sl2.trans sT))))) upd_same ?_ ?_
    · exact sT _ _ (sl2 _ _ (s4 _ _ upd_same))
    · exact sT _ _ upd_same
end
end AW
namespace AW
open PySem PySem.Spec PyProof.Rows L2
def rlFs (m : Int) : List (Str × V) := putF "second" .non (putF "first" .non (putF "more" (.int m) (putF "holds" (.bl true) [])))
theorem rlFs_holds {m : Int} : (rlFs m).lookup ("holds" : Str) = some (.bl true) := by
  unfold rlFs
  rw [lookup_putF, if_neg (by decide +kernel), lookup_putF, if_neg (by decide +kernel), lookup_putF, if_neg (by decide +kernel), lookup_putF, if_pos rfl]
theorem rlFs_more {m : Int} : (rlFs m).lookup ("more" : Str) = some (.int m) := by
  unfold rlFs
  rw [lookup_putF, if_neg (by decide +kernel), lookup_putF, if_neg (by decide +kernel), lookup_putF, if_pos rfl]
section
variable {P : Program} {w : World} {K : PySem.W.Frag} {mg : Str → Option Value} {base : Heap} {cSt cSg cMa cVe cRl : Addr}
def sp_Verdict_init (K : PySem.W.Frag) : Sp := fun vs H Q _ => ∃ (x C dx : Addr) (fs : List (Str × V)) (b : Bool), vs = [.ref x, .bl b] ∧ H x = some (.ins C dx fs) ∧ Cls K C ∧ NoAttr K C "holds" ∧ fs.length ≤ 10 ∧ Q .non (upd H x (.ins C dx (putF "holds" (.bl b) fs)))
theorem cf_Verdict (c : Env K mg cSt cSg cMa cVe cRl) : Cf P w K mg base cVe 1 P_Verdict_init (sp_Verdict_init K) := by
  refine cf_ok c.v_Verdict sc_Verdict_init (fun _ _ _ _ _ _ us hl => match us, hl with | [_, _], _ => rfl) (fun vs H Q E h => ?_) (fun f cdv A outer s H vs Q E hr h => ?_)
  · obtain ⟨x, C, dx, fs, b, rfl, hx, cl, n, hl, q⟩ := h
    rfl
  · obtain ⟨x, C, dx, fs, b, rfl, hx, cl, n, hl, q⟩ := h
    refine ⟨_, (pss_one (ps_fld (pv 0) (pv 1) rfl)), ?_⟩
    exact ⟨_, rfl, _, rfl, x, C, dx, _, rfl, hx, cl, n, Nat.lt_of_le_of_lt hl (by decide), q⟩
def sp_RowLikeness_init (K : PySem.W.Frag) (cRl : Addr) : Sp := fun vs H Q _ => ∃ (x dx : Addr) (m : Int), vs = [.ref x, .int m, .non, .non] ∧ H x = some (.ins cRl dx []) ∧ Q .non (upd H x (.ins cRl dx (rlFs m)))
theorem ini_RowLikeness (c : Env K mg cSt cSg cMa cVe cRl) : Ini P w K mg base "RowLikeness" cRl 2 P_RowLikeness_init (sp_RowLikeness_init K cRl) := by
  refine ini_ok c.k_RowLikeness sc_RowLikeness_init (fun _ _ _ _ _ _ us hl => match us, hl with | [_, _, _, _], _ => rfl) (fun vs H Q E h => ?_) (fun f cdv A outer s H vs Q E hr h => ?_)
  · obtain ⟨x, dx, m, rfl, hx, q⟩ := h
    rfl
  · obtain ⟨x, dx, m, rfl, hx, q⟩ := h
    refine ⟨_, (pss_cons (ps_expr (pe_clsfn (cf_Verdict c) (hr.mono (by decide)) (pe_glob (v := .ref _) rfl c.v_Verdict.mgC rfl) (pa_cons (pv 0) (pa_cons (pe_cmp (pc_notN (pv 1)) rfl) pa_nil))))
      (pss_cons (ps_fld (pv 0) (pv 1) rfl)
      (pss_cons (ps_fld (pv 0) (pv 2) rfl)
      (pss_one (ps_fld (pv 0) (pv 3) rfl))))), ?_⟩
    have cl := c.k_RowLikeness.cl
    refine ⟨rfl, _, rfl, _, rfl, ?_⟩
    refine ⟨x, cRl, dx, [], true, rfl, hx, cl, c.n_RowLikeness_holds, Nat.zero_le _, ?_⟩
    refine ⟨_, rfl, _, rfl, x, cRl, dx, _, rfl, upd_same, cl, c.n_RowLikeness_more, Nat.lt_of_le_of_lt (few few0) (by decide), ?_⟩
    refine ⟨_, rfl, _, rfl, x, cRl, dx, _, rfl, upd_same, cl, c.n_RowLikeness_first, Nat.lt_of_le_of_lt (few (few few0)) (by decide), ?_⟩
    refine ⟨_, rfl, _, rfl, x, cRl, dx, _, rfl, upd_same, cl, c.n_RowLikeness_second, Nat.lt_of_le_of_lt (few (few (few few0))) (by decide), ?_⟩
    rw [upd_upd, upd_upd, upd_upd]
    exact q
def sp_rows_alike (K : PySem.W.Frag) (cSt cRl : Addr) : Sp := fun vs H Q _ => ∃ (M : List Addr) (v : V) (d : Wd) (S : List (List Int)) (r1 r2 : List Nat) (m : Int), vs = [v, .str (rowS d.asks r1), .str (rowS d.asks r2)] ∧ Wf d ∧ (∀ p ∈ M, H p ≠ none) ∧ dStore K cSt (mk M H) v d ∧ Closed d S ∧
  ((∀ k ∈ r1, k < d.asks.cps.size) ∧ r1.length ≤ 2000) ∧ ((∀ k ∈ r2, k < d.asks.cps.size) ∧ r2.length ≤ 2000) ∧
  (∀ (x : Sd2) (N : Nat), StOk d.asks.cps.size d.begins.length d.costs d.begins x.lots x.steps → Done (beh d.asks.cps.size (closed d.ends x.lots x.steps) 0) N →
    ∀ i, i < N → goK (bfs (beh d.asks.cps.size (closed d.ends x.lots x.steps) 0) N).items i r1 = goK (bfs (beh d.asks.cps.size (closed d.ends x.lots x.steps) 0) N).items i r2 ∧
      gain (bfs (beh d.asks.cps.size (closed d.ends x.lots x.steps) 0) N).items i r1 - gain (bfs (beh d.asks.cps.size (closed d.ends x.lots x.steps) 0) N).items i r2 = m) ∧
  ∀ a dx H', Same H H' → H' a = some (.ins cRl dx (rlFs m)) → Q (.ref a) H'
theorem fn_rows_alike (c : Env K mg cSt cSg cMa cVe cRl) : Fn P w K mg base "rows_alike" 9 P_rows_alike (sp_rows_alike K cSt cRl) := by
  refine fn_ok c.d_rows_alike sc_rows_alike (fun _ _ _ _ _ _ us hl => match us, hl with | [_, _, _], _ => rfl) (fun vs H Q E h => ?_) (fun f cdv A outer s H vs Q E hr h => ?_)
  · obtain ⟨M, v, d, S, r1, r2, m, rfl, wf, hM, hd, hS, ⟨k1, l1⟩, ⟨k2, l2⟩, alike, q⟩ := h
    rfl
  · obtain ⟨M, v, d, S, r1, r2, m, rfl, wf, hM, hd, hS, ⟨k1, l1⟩, ⟨k2, l2⟩, alike, q⟩ := h
    refine ⟨_, (pss_cons (ps_expr (pe_fn (fn_check_row c) (hr.mono (by decide)) rfl (pa_cons (pe_fldK (K := K) (pv 0)) (pa_cons (pv 1) pa_nil))))
      (pss_cons (ps_expr (pe_fn (fn_check_row c) (hr.mono (by decide)) rfl (pa_cons (pe_fldK (K := K) (pv 0)) (pa_cons (pv 2) pa_nil))))
      (pss_cons (ps_set (i := 3) sc_rows_alike.nd rfl (Or.inl rfl) (pe_fn (fn_least_machine c) (hr.mono (by decide)) rfl (pa_cons (pv 0) pa_nil)))
      (pss_cons (ps_asg (pe_fn (fn_action_of c) (hr.mono (by decide)) rfl (pa_cons (pv 3) (pa_cons (pv 1) pa_nil))) (pg_tup rfl (pgs_cons (pg_name (i := 4) sc_rows_alike.nd rfl (Or.inl rfl)) (pgs_cons (pg_name (i := 5) sc_rows_alike.nd rfl (Or.inl rfl)) pgs_nil))))
      (pss_cons (ps_asg (pe_fn (fn_action_of c) (hr.mono (by decide)) rfl (pa_cons (pv 3) (pa_cons (pv 2) pa_nil))) (pg_tup rfl (pgs_cons (pg_name (i := 6) sc_rows_alike.nd rfl (Or.inl rfl)) (pgs_cons (pg_name (i := 7) sc_rows_alike.nd rfl (Or.inl rfl)) pgs_nil))))
      (pss_cons (ps_set (i := 8) sc_rows_alike.nd rfl (Or.inl rfl) (pe_op op_sub (pe_ix (ix_seqK (K := K)) (pv 5) pe_int (fun _ _ => rfl)) (pe_ix (ix_seqK (K := K)) (pv 7) pe_int (fun _ _ => rfl))))
      (pss_cons (ps_for PassesOwn.never rfl (pi_enumT rfl c.b_enumerate (pa_cons (pe_fldK (K := K) (pv 3)) pa_nil)) (pg_tup rfl (pgs_cons (pg_name (i := 9) sc_rows_alike.nd rfl (Or.inl rfl)) (pgs_cons (pg_name (i := 10) sc_rows_alike.nd rfl (Or.inl rfl)) pgs_nil)))
        (pss_cons (ps_if (pt_cmpR op_ne (pe_op op_sub (pe_ix (ix_seqK (K := K)) (pv 5) (pv 9) (fun _ _ => rfl)) (pe_ix (ix_seqK (K := K)) (pv 7) (pv 9) (fun _ _ => rfl))) (pv 8) (nomark _))
          (pss_one ps_never)
          pss_nil)
        (pss_one (ps_if (pt_cmpR op_ne (pe_ix (ix_seqK (K := K)) (pv 4) (pv 9) (fun _ _ => rfl)) (pe_ix (ix_seqK (K := K)) (pv 6) (pv 9) (fun _ _ => rfl)) (nomark _))
          (pss_one ps_never)
          pss_nil))))
      (pss_one (ps_ret (pe_ini (ini_RowLikeness c) (hr.mono (by decide)) rfl (pa_cons (pv 8) (pa_cons pe_non (pa_cons pe_non pa_nil))))))))))))), ?_⟩
    have cl := c.k_Store.cl
    have clm := c.k_Machine.cl
    have hS1 := hS.2.2
    refine ⟨v, rfl, st_asks cl c.n_Store_asks hd ⟨_, rfl, d.asks, r1, rfl, k1, l1, ?_⟩⟩
    refine ⟨v, rfl, st_asks cl c.n_Store_asks hd ⟨_, rfl, d.asks, r2, rfl, k2, l2, ?_⟩⟩
    refine ⟨v, rfl, M, v, d, S, rfl, wf, hM, hd, hS, fun x N st hx dn hN vm H1 s1 hm => ?_⟩
    have al := alike x N st dn
    have okN := ok_of_done dn (Nat.le_refl N)
    have vld := items_valid okN dn
    have hil := okN.ilen
    have hrl : (bfs (beh d.asks.cps.size (closed d.ends x.lots x.steps) 0) N).rows.length = N := by rw [okN.len]; exact dn
    have hpos : 0 < N := by
      have h1 : (bfs (beh d.asks.cps.size (closed d.ends x.lots x.steps) 0) N).line.length = N := dn
      have := (List.getElem?_eq_some_iff.mp okN.zero).1
      omega
    generalize (bfs (beh d.asks.cps.size (closed d.ends x.lots x.steps) 0) N).items = its at al vld hil hm
    refine ⟨_, rfl, _, rfl, mk M H1, vm, _, r1, rfl, mk_same, wf.asks, vld, by show its.length ≤ 1000; omega, hm, k1, l1, fun T1 a1 b1 H2 s2 hT1 ha1 hb1 => pair_tgt hT1 ?_⟩
    refine ⟨_, rfl, _, rfl, mk M H1, vm, _, r2, rfl, mk_same.trans s2, wf.asks, vld, by show its.length ≤ 1000; omega, hm, k2, l2, fun T2 a2 b2 H3 s3 hT2 ha2 hb2 => pair_tgt hT2 ?_⟩
    have ha3 := s3 _ _ ha1
    have hb3 := s3 _ _ hb1
    have gA : ∀ r i, i < N → (natV (gk its r))[i]? = some (.int ((goK its i r : Nat) : Int)) := fun r i hi => by
      unfold natV gk
      rw [List.getElem?_map, List.getElem?_map, List.getElem?_range (by omega)]; rfl
    have gB : ∀ r i, i < N → ((gg its r).map V.int)[i]? = some (.int (gain its i r)) := fun r i hi => by
      unfold gg
      rw [List.getElem?_map, List.getElem?_map, List.getElem?_range (by omega)]; rfl
    refine ⟨_, rfl, ixT_of (.inl (.inl hb3)) (j := 0) rfl (gB r1 0 hpos) ⟨_, rfl, ixT_of (.inl (.inl hb2)) (j := 0) rfl (gB r2 0 hpos) ⟨_, _, rfl, rfl, ?_⟩⟩⟩
    obtain rfl := (al 0 hpos).2
    have s13 := (mk_same (M := M) (H := H1)).trans (s2.trans s3)
    refine ⟨vm, rfl, ma_rows s13 clm c.n_Machine_rows hm fun ur hur => ?_⟩
    obtain ⟨ar, us, rfl, hq, pr⟩ := hur
    have hul : us.length = N := by
      have := Paired.length pr
      rw [List.length_map] at this
      omega
    refine ⟨ar, us, rfl, Same.tup s13 hq, ?_⟩
    refine for_it walk_enumT (fun i σ H' => ∃ (x9 x10 : Option V), σ = [some v, some (.str (rowS d.asks r1)), some (.str (rowS d.asks r2)), some vm, some (.ref a1), some (.ref b1), some (.ref a2), some (.ref b2), some (.int (gain its 0 r1 - gain its 0 r2)), x9, x10] ∧ Same H3 H')
      ⟨none, none, rfl, Same.refl _⟩ (fun i σ H' _ ⟨_, _, _, s⟩ => Same.tup (s13.trans s) hq) ?_ ?_
    · rintro k z σ H4 H5 hk ⟨x9, x10, rfl, s4⟩ ⟨T, y1, y2, rfl, nT, rfl, hy1, hy2⟩
      cases Option.some.inj hy1
      have sT : Same H4 (upd H4 T (.tup [.int (k : Nat), y2])) := same_upd nT
      have s5 := s4.trans sT
      have hkN : k < N := by omega
      refine pair_tgt upd_same ?_
      refine ⟨_, rfl, _, rfl, ixT_of (.inl (.inl (s5 _ _ hb3))) (j := k) rfl (gB r1 k hkN) ⟨_, rfl, _, rfl, ixT_of (.inl (.inl (s5 _ _ hb2))) (j := k) rfl (gB r2 k hkN) ⟨_, _, rfl, rfl, _, rfl, rfl, _, rfl, iteN1 (congrArg V.int (al k hkN).2) ?_⟩⟩⟩
      refine ⟨_, rfl, _, rfl, ixT_of (.inl (.inl (s5 _ _ ha3))) (j := k) rfl (gA r1 k hkN) ⟨_, rfl, _, rfl, ixT_of (.inl (.inl (s5 _ _ ha2))) (j := k) rfl (gA r2 k hkN) ⟨rfl, _, rfl, iteN1 (congrArg (fun z : Nat => V.int (z : Int)) (al k hkN).1) ?_⟩⟩⟩
      exact ⟨_, _, rfl, s5⟩
    · rintro σ H4 ⟨x9, x10, rfl, s4⟩
      refine ⟨_, rfl, ?_⟩
      intro y dx ny ndx ned
      refine ⟨y, dx, _, rfl, upd_same, rfl, ?_⟩
      rw [upd_upd]
      exact q y dx _ (s1.trans (s2.trans (s3.trans (s4.trans (same_upd2 (same_upd ndx) ny))))) upd_same
end
end AW
namespace AW
open PySem PySem.Spec PyProof.Rows L2
/-! ### sources of draws -/
def Src (H : Hp) (s : Addr) : Prop := ∃ g m c : Int, H s = some (.lst [.int g, .int m, .int c])
/-- all but s stands, s is a source again -/
structure OffS (s : Addr) (H H' : Hp) : Prop where
  intro ::
  same : Same (mk [s] H) (mk [s] H')
  src : Src H' s
theorem Src.same {H H' : Hp} {s : Addr} (h : Src H s) (e : Same H H') : Src H' s := let ⟨g, m, c, q⟩ := h; ⟨g, m, c, e _ _ q⟩
theorem OffS.of_same {s : Addr} {H H' : Hp} (h : Src H s) (e : Same H H') : OffS s H H' := ⟨mk_mono e, h.same e⟩
theorem OffS.refl {s : Addr} {H : Hp} (h : Src H s) : OffS s H H := ⟨Same.refl _, h⟩
theorem OffS.trans {s : Addr} {H H1 H2 : Hp} (a : OffS s H H1) (b : OffS s H1 H2) : OffS s H H2 := ⟨a.same.trans b.same, b.src⟩
theorem OffS.then {s : Addr} {H H1 H2 : Hp} (a : OffS s H H1) (b : Same H1 H2) : OffS s H H2 := a.trans (.of_same a.src b)
theorem OffS.at' {s : Addr} {H H' : Hp} (a : OffS s H H') {p : Addr} {o : HO} (ne : p ≠ s) (h : H p = some o) : H' p = some o := by
  have h1 : mk [s] H p = some o := by rw [mk_out (by simpa using ne)]; exact h
  have h2 := a.same _ _ h1
  rw [mk_out (by simpa using ne)] at h2
  exact h2
theorem OffS.free {s : Addr} {H H' : Hp} (a : OffS s H H') {p : Addr} (h : H' p = none) : H p = none := by
  by_cases e : p = s
  · subst e
    obtain ⟨g, m, c, q⟩ := a.src
    rw [q] at h; cases h
  · cases q : H p with
    | none => rfl
    | some o => rw [a.at' e q] at h; cases h
theorem OffS.mono {s : Addr} {H H' : Hp} (a : OffS s H H') {M : List Addr} (hs : s ∈ M) : Same (mk M H) (mk M H') := fun p o e => by
  by_cases hm : p ∈ M
  · rw [mk_in hm] at e; cases e
  · rw [mk_out hm] at e ⊢
    exact a.at' (fun z => hm (z ▸ hs)) e
theorem OffS.dom {s : Addr} {H H' : Hp} (a : OffS s H H') {M : List Addr} (h : ∀ p ∈ M, H p ≠ none) : ∀ p ∈ M, H' p ≠ none := fun p hp e => h p hp (a.free e)
theorem OffS.drew {s : Addr} {H : Hp} (g m c : Int) : OffS s H (upd H s (.lst [.int g, .int m, .int c])) := ⟨by rw [mk_upd_in (by simp)]; exact Same.refl _, g, m, c, upd_same⟩
/-- a list in the making, put further -/
theorem OffS.put {s : Addr} {H H' : Hp} (a : OffS s H H') {D : Addr} {o : HO} (n : H D = none) (ne : D ≠ s) : OffS s H (L2.upd H' D o) := ⟨fun p ob e => by
    have h1 := a.same p ob e
    by_cases hp : p = s
    · subst hp; rw [mk_in (by simp)] at e; cases e
    · rw [mk_out (by simpa using hp)] at e h1 ⊢
      rw [upd_ne (ne_of_none e n)]; exact h1, by
    obtain ⟨g, m, c, q⟩ := a.src
    exact ⟨g, m, c, by rw [upd_ne (Ne.symm ne)]; exact q⟩⟩
/-- a comprehension over a range whose turns draw -/
theorem lc_draw {α : Type} {n : Nat} {te : TE} {j : Nat} {σ : L2.St} {H1 : Hp} {D s : Addr} {Qd : Hp → Prop} {M : List Addr} {R : DR α} (Pg : α → Prop) (mR : Mono R) (hs : Src H1 s) (hsM : s ∈ M) (hD : H1 D = none) (hM : ∀ a ∈ M, H1 a ≠ none) (hn : n ≤ 16000000)
    (he : ∀ i H, i < n → OffS s H1 H → (∀ a ∈ D :: M, H a ≠ none) → ∀ Q : VK, (∀ y x H4, Pg x → OffS s H H4 → R (mk (D :: M) H4) y x → Q y H4) → te ((wipe σ [j]).set j (some (.int (i : Int)))) H Q)
    (hd : ∀ H xs ys, OffS s H1 H → xs.length = n → (∀ x ∈ xs, Pg x) → H D = some (.lst ys) → Paired (R (mk M H)) ys xs → Qd H) :
    ∃ W : Nat → Nat → Hp → Prop, (∃ m, W 0 m (upd H1 D (.lst []))) ∧ ∀ i m H, W i m H →
      ((Itr 0 n).stop i H ∧ Qd H) ∨ ((Itr 0 n).go i H ∧ ∃ Nx : Hp → Prop, (∀ H', Nx H' → ∃ m', m' < m ∧ W (i + 1) m' H') ∧ ∀ x H', (Itr 0 n).yld i H x H' → gName j x (wipe σ [j]) H' fun σ2 H2 => wipe σ2 [j] = wipe σ [j] ∧ tYes σ2 H2 fun b H3 =>
        if b = true then te σ2 H3 fun y H4 => ∃ acc, H4 D = some (.lst acc) ∧ acc.length < sizeLine ∧ Nx (upd H4 D (.lst (acc ++ [y]))) else Nx H3) := by
  have hne : D ≠ s := fun e => by subst e; exact hM _ hsM hD
  refine lc_it walk_range (fun i H => OffS s H1 H ∧ ∃ acc xs, H D = some (.lst acc) ∧ xs.length = i ∧ (∀ x ∈ xs, Pg x) ∧ Paired (R (mk (D :: M) H)) acc xs)
    ⟨(OffS.refl hs).put hD hne, [], ([] : List α), upd_same, rfl, fun x h => absurd h List.not_mem_nil, .nil⟩ (fun _ _ _ _ => trivial) (fun i x H H' hi p y => ?_) (fun H p => ?_)
  · obtain ⟨o1, acc, xs, hA, hl, hP, pA⟩ := p
    obtain ⟨rfl, rfl⟩ := y
    show gName j (V.int (0 + (i : Int))) _ _ _
    rw [Int.zero_add]
    refine ⟨?_, ?_⟩
    · show ((((σ.set j none).set j (some (V.int (i : Int)))).set j none) = σ.set j none)
      rw [List.set_set, List.set_set]
    · unfold tYes; dsimp only
      rw [if_pos rfl]
      refine he i _ hi o1 (fun a ha => ?_) _ fun y x H4 hx o4 r4 => ⟨acc, o4.at' hne hA, ?_, ?_, acc ++ [y], xs ++ [x], upd_same, by simp [hl], fun z hz => ?_, ?_⟩
      · rcases List.mem_cons.mp ha with e | e
        · subst e; rw [hA]; exact fun z => nomatch z
        · exact o1.dom hM a e
      · have e := Paired.length pA
        exact len_ok (by omega)
      · exact (o1.trans o4).put hD hne
      · rcases List.mem_append.mp hz with e | e
        · exact hP z e
        · simp at e; subst e; exact hx
      · rw [mk_upd_in (by simp)]
        exact Paired.snoc (Paired.mono (fun _ _ => mR _ _ _ _ (o4.mono (List.mem_cons_of_mem D hsM))) pA) r4
  · obtain ⟨o1, acc, xs, hA, hl, hP, pA⟩ := p
    exact hd H xs acc o1 hl hP hA (Paired.mono (fun _ _ => mR _ _ _ _ (mk_sub fun a ha => by simp [ha])) pA)
theorem cut_ints (ns : List Int) (lo hi : Option Int) : ∃ m : List Int, cutV (ns.map V.int) lo hi = m.map V.int := by
  unfold cutV
  exact ⟨_, by rw [← List.map_drop, ← List.map_take]⟩
theorem iteAny {b : Bool} {A B : Prop} (h1 : b = true → A) (h2 : b = false → B) : if b = true then A else B := by
  cases b with
  | true => exact h1 rfl
  | false => exact h2 rfl
theorem nz {i j : Int} (h : j ≠ 0) : (fun (_ : Int) (j : Int) => j ≠ 0) i j := h
theorem fmod_nat (g : Int) {n : Nat} (h : 0 < n) : ∃ d : Nat, d < n ∧ g.fmod (n : Int) = (d : Int) := by
  have h1 : (0 : Int) < n := by omega
  have h2 := Int.fmod_nonneg_of_pos g h1
  have h3 := Int.fmod_lt_of_pos g h1
  exact ⟨(g.fmod n).toNat, by omega, by omega⟩
section
variable {P : Program} {w : World} {K : PySem.W.Frag} {mg : Str → Option Value} {base : Heap} {cSt cSg cMa cVe cRl : Addr}
def sp_L_cell (K : PySem.W.Frag) : Sp := fun vs H Q _ => ∃ (L : Addr) (ns : List Int) (k : Nat), vs = [.ref L, .int (k : Int)] ∧ SqL K H L (ns.map V.int) ∧ ns.length ≤ 1000 ∧ k ≤ 1000 ∧ ∀ (z : Int) H', Same H H' → Q (.int z) H'
theorem fn_L_cell (c : Env K mg cSt cSg cMa cVe cRl) : Fn P w K mg base "_law_cell" 1 P_L_cell (sp_L_cell K) := by
  refine fn_ok c.d_L_cell sc_L_cell (fun _ _ _ _ _ _ us hl => match us, hl with | [_, _], _ => rfl) (fun vs H Q E h => ?_) (fun f cdv A outer s H vs Q E hr h => ?_)
  · obtain ⟨L, ns, k, rfl, hL, hn, hk, q⟩ := h
    rfl
  · obtain ⟨L, ns, k, rfl, hL, hn, hk, q⟩ := h
    refine ⟨_, (pss_cons (ps_if (pt_cmpR op_lt (pv 1) (pe_callB (call_len_seqK (K := K)) (by rfl) c.b_len (by decide +kernel) (pa_cons (pv 0) pa_nil)) (nomark _))
        (pss_one (ps_ret (pe_ix (ix_seqK (K := K)) (pv 0) (pv 1) (fun _ _ => rfl))))
        pss_nil)
      (pss_one (ps_ret (pe_op op_add (pe_op op_mul pe_int (pe_op op_add (pv 1) pe_int)) (pe_op op_mul pe_int (pe_op op_modN (pe_callTy call_int1 (by rfl) c.b_int (by decide +kernel) (pa_cons (pe_callB (cr_sumK (K := K) rfl) (by rfl) c.b_sum (by decide +kernel) (pa_cons (pe_slice (sl_listK (K := K)) (pv 0) po_none (po_some pe_int)) pa_nil)) pa_nil)) pe_int)))))), ?_⟩
    have hd : dSeq K dInt H (.ref L) ns := ⟨L, _, rfl, .inl hL, of_ints ns⟩
    refine ⟨_, rfl, _, rfl, len_of hd ⟨_, _, rfl, rfl, _, rfl, ?_⟩⟩
    refine ite2 (fun hlt => ?_) (fun hlt => ?_)
    · have hlt := of_decide_eq_true hlt
      have hlt : k < ns.length := by omega
      exact ⟨_, rfl, _, rfl, ix_of hd (j := k) rfl (getD_some hlt 0) fun u hu => by cases (show u = .int (ns.getD k 0) from hu); exact q _ _ (Same.refl _)⟩
    · refine ⟨_, rfl, _, _, rfl, rfl, ?_⟩
      refine ⟨_, _, rfl, rfl, .inl ⟨by decide, by decide⟩, ?_⟩
      obtain ⟨m, hm⟩ := cut_ints ns none (some 1)
      refine ⟨_, rfl, 1, rfl, L, _, rfl, hL, fun L2 nL2 => ?_⟩
      refine ⟨L2, m, rfl, .inl (.inl (by rw [upd_same, hm])), .inl ⟨_, rfl, ?_⟩⟩
      refine ⟨_, _, rfl, rfl, nz (i := 0) (by decide), ?_⟩
      refine ⟨_, _, rfl, rfl, .inl ⟨by decide, by decide⟩, ?_⟩
      exact ⟨_, _, rfl, rfl, q _ _ (same_upd nL2)⟩
def sp_L_draw (K : PySem.W.Frag) : Sp := fun vs H Q _ => ∃ (s : Addr) (n : Nat), vs = [.ref s, .int (n : Int)] ∧ 0 < n ∧ n ≤ 1000 ∧ Src H s ∧ ∀ (d : Nat) H', d < n → OffS s H H' → Q (.int (d : Int)) H'
theorem fn_L_draw (c : Env K mg cSt cSg cMa cVe cRl) : Fn P w K mg base "_law_draw" 1 P_L_draw (sp_L_draw K) := by
  refine fn_ok c.d_L_draw sc_L_draw (fun _ _ _ _ _ _ us hl => match us, hl with | [_, _], _ => rfl) (fun vs H Q E h => ?_) (fun f cdv A outer s H vs Q E hr h => ?_)
  · obtain ⟨s, n, rfl, h0, hn, hs, q⟩ := h
    rfl
  · obtain ⟨s, n, rfl, h0, hn, hs, q⟩ := h
    refine ⟨_, (pss_cons (ps_if (pt_cmpR op_gt (pe_ix (ix_seqK (K := K)) (pv 0) pe_int (fun _ _ => rfl)) pe_int (nomark _))
        (pss_cons (ps_set (i := 2) sc_L_draw.nd rfl (Or.inl rfl) (pe_op op_modN (pe_callTy call_int1 (by rfl) c.b_int (by decide +kernel) (pa_cons (pe_ix (ix_seqK (K := K)) (pv 0) pe_int (fun _ _ => rfl)) pa_nil)) (pv 1)))
        (pss_cons (ps_asg (pe_op op_fdivN (pe_ix (ix_seqK (K := K)) (pv 0) pe_int (fun _ _ => rfl)) (pv 1)) (pg_sub (pv 0) pe_int set_list))
        (pss_one (ps_ret (pv 2)))))
        pss_nil)
      (pss_cons (ps_asg (pe_op op_add (pe_ix (ix_seqK (K := K)) (pv 0) pe_int (fun _ _ => rfl)) pe_int) (pg_sub (pv 0) pe_int set_list))
      (pss_cons (ps_asg (pe_op op_modN (pe_callTy call_int1 (by rfl) c.b_int (by decide +kernel) (pa_cons (pe_op op_add (pe_op op_add (pe_op op_mul (pe_ix (ix_seqK (K := K)) (pv 0) pe_int (fun _ _ => rfl)) pe_int) (pe_op op_mul (pe_ix (ix_seqK (K := K)) (pv 0) pe_int (fun _ _ => rfl)) pe_int)) pe_int) pa_nil)) pe_int) (pg_sub (pv 0) pe_int set_list))
      (pss_cons (ps_set (i := 3) sc_L_draw.nd rfl (Or.inl rfl) (pe_op op_modN (pe_callTy call_int1 (by rfl) c.b_int (by decide +kernel) (pa_cons (pe_op op_add (pe_op op_mul (pe_ix (ix_seqK (K := K)) (pv 0) pe_int (fun _ _ => rfl)) (pe_op op_add (pe_ix (ix_seqK (K := K)) (pv 0) pe_int (fun _ _ => rfl)) pe_int)) (pe_op op_mul (pe_ix (ix_seqK (K := K)) (pv 0) pe_int (fun _ _ => rfl)) pe_int)) pa_nil)) pe_int))
      (pss_one (ps_ret (pe_op op_modN (pe_callTy call_int1 (by rfl) c.b_int (by decide +kernel) (pa_cons (pe_op op_fdivN (pv 3) pe_int) pa_nil)) (pv 1)))))))), ?_⟩
    obtain ⟨g, m, cc, hs⟩ := hs
    refine ⟨_, rfl, ixL_of hs (j := 0) rfl rfl ⟨_, _, rfl, rfl, _, rfl, ?_⟩⟩
    refine ite2 (fun _ => ?_) (fun _ => ?_)
    · obtain ⟨d, hd, e⟩ := fmod_nat g h0
      refine ⟨_, rfl, ixL_of hs (j := 0) rfl rfl (.inl ⟨_, rfl, ⟨_, rfl, _, _, rfl, rfl, by omega, ?_⟩⟩)⟩
      refine ⟨_, rfl, ixL_of hs (j := 0) rfl rfl ⟨_, rfl, _, _, rfl, rfl, ⟨by omega, by omega⟩, ?_⟩⟩
      refine ⟨_, rfl, s, _, 0, 0, rfl, rfl, hs, ixN_nat (n := 3) (by decide), ?_⟩
      show ∃ v, _
      refine ⟨_, rfl, ?_⟩
      have := q d _ hd (OffS.drew (s := s) (H := H) (g.fdiv n) m cc)
      rw [← e] at this
      exact this
    · refine ⟨_, rfl, ixL_of hs (j := 2) rfl rfl ⟨_, _, rfl, rfl, ?_⟩⟩
      refine ⟨_, rfl, s, _, 2, 2, rfl, rfl, hs, ixN_nat (n := 3) (by decide), ?_⟩
      have hs1 : (upd H s (.lst [.int g, .int m, .int (cc + 1)])) s = some (.lst [.int g, .int m, .int (cc + 1)]) := upd_same
      refine ⟨_, rfl, ixL_of hs1 (j := 1) rfl rfl ⟨_, _, rfl, rfl, .inr ⟨by decide, by decide⟩, ?_⟩⟩
      refine ⟨_, rfl, ixL_of hs1 (j := 2) rfl rfl ⟨_, _, rfl, rfl, .inr ⟨by decide, by decide⟩, ?_⟩⟩
      refine ⟨_, _, rfl, rfl, _, _, rfl, rfl, .inl ⟨_, rfl, ?_⟩⟩
      refine ⟨_, _, rfl, rfl, nz (i := 0) (by decide), ?_⟩
      obtain ⟨m2, hm2, e2⟩ := fmod_nat (m * 48271 + (cc + 1) * 69621 + 11) (n := 2147483647) (by decide)
      refine ⟨_, rfl, s, _, 1, 1, rfl, rfl, hs1, ixN_nat (n := 3) (by decide), ?_⟩
      rw [upd_upd]
      have hs2 : (upd H s (.lst [.int g, .int ((m * 48271 + (cc + 1) * 69621 + 11).fmod 2147483647), .int (cc + 1)])) s = some (.lst [.int g, .int ((m * 48271 + (cc + 1) * 69621 + 11).fmod 2147483647), .int (cc + 1)]) := upd_same
      have hb : -(2 ^ 64) < (m * 48271 + (cc + 1) * 69621 + 11).fmod 2147483647 ∧ (m * 48271 + (cc + 1) * 69621 + 11).fmod 2147483647 < 2 ^ 64 := by
        have e3 : (m * 48271 + (cc + 1) * 69621 + 11).fmod 2147483647 = (m2 : Int) := e2
        rw [e3]; omega
      refine ⟨_, rfl, ixL_of hs2 (j := 1) rfl rfl ⟨_, rfl, ixL_of hs2 (j := 1) rfl rfl ⟨_, _, rfl, rfl, ⟨_, _, rfl, rfl, .inl hb, ?_⟩⟩⟩⟩
      refine ⟨_, rfl, ixL_of hs2 (j := 2) rfl rfl ⟨_, _, rfl, rfl, .inr ⟨by decide, by decide⟩, ?_⟩⟩
      refine ⟨_, _, rfl, rfl, .inl ⟨_, rfl, ?_⟩⟩
      refine ⟨_, _, rfl, rfl, nz (i := 0) (by decide), ?_⟩
      refine ⟨_, rfl, _, _, rfl, rfl, ⟨by decide, by decide⟩, .inl ⟨_, rfl, ?_⟩⟩
      refine ⟨_, rfl, _, _, rfl, rfl, nz (i := 0) (by omega), ?_⟩
      obtain ⟨d, hd, e⟩ := fmod_nat ((((m * 48271 + (cc + 1) * 69621 + 11).fmod 2147483647 * ((m * 48271 + (cc + 1) * 69621 + 11).fmod 2147483647 + 31) + (cc + 1) * 40692).fmod 2147483629).fdiv 512) h0
      have := q d _ hd (OffS.drew (s := s) (H := H) g ((m * 48271 + (cc + 1) * 69621 + 11).fmod 2147483647) (cc + 1))
      rw [← e] at this
      exact this
def sp_L_source (K : PySem.W.Frag) : Sp := fun vs H Q _ => ∃ (L : Addr) (ns : List Int) (k : Nat), vs = [.ref L, .int (k : Int)] ∧ SqL K H L (ns.map V.int) ∧ ns.length ≤ 1000 ∧ k ≤ 1000 ∧ ∀ s H', Same H H' → H s = none → Src H' s → Q (.ref s) H'
theorem fn_L_source (c : Env K mg cSt cSg cMa cVe cRl) : Fn P w K mg base "_law_source" 2 P_L_source (sp_L_source K) := by
  refine fn_ok c.d_L_source sc_L_source (fun _ _ _ _ _ _ us hl => match us, hl with | [_, _], _ => rfl) (fun vs H Q E h => ?_) (fun f cdv A outer s H vs Q E hr h => ?_)
  · obtain ⟨L, ns, k, rfl, hL, hn, hk, q⟩ := h
    rfl
  · obtain ⟨L, ns, k, rfl, hL, hn, hk, q⟩ := h
    refine ⟨_, (pss_cons (ps_set (i := 2) sc_L_source.nd rfl (Or.inl rfl) (pe_fn (fn_L_cell c) (hr.mono (by decide)) rfl (pa_cons (pv 0) (pa_cons (pv 1) pa_nil))))
      (pss_cons (ps_set (i := 3) sc_L_source.nd rfl (Or.inl rfl) (pe_callB call_abs (by rfl) c.b_abs (by decide +kernel) (pa_cons (pv 2) pa_nil)))
      (pss_cutW (ps_if (pt_cmpR op_ne (pe_op op_shr (pv 3) pe_int) pe_int (nomark _))
        (pss_one (ps_set (i := 3) sc_L_source.nd rfl (Or.inl rfl) (pe_op op_modN (pe_callTy call_int1 (by rfl) c.b_int (by decide +kernel) (pa_cons (pv 3) pa_nil)) (pe_op op_pow pe_int pe_int))))
        pss_nil)
      (pss_cons (ps_set (i := 4) sc_L_source.nd rfl (Or.inl rfl) (pe_op op_modN (pe_callTy call_int1 (by rfl) c.b_int (by decide +kernel) (pa_cons (pe_op op_add (pe_op op_add (pe_op op_add (pe_op op_mul (pe_op op_modN (pe_callTy call_int1 (by rfl) c.b_int (by decide +kernel) (pa_cons (pv 3) pa_nil)) pe_int) pe_int) (pe_op op_mul pe_int (pv 1))) pe_int) (pe_callTy call_int1 (by rfl) c.b_int (by decide +kernel) (pa_cons (pe_cmpR op_lt (pv 2) pe_int (nomark _)) pa_nil))) pa_nil)) pe_int))
      (pss_cons (ps_if (pt_cmpR op_ge (pv 3) (pe_op op_pow pe_int pe_int) (nomark _))
        (pss_one (ps_ret (pe_lst (pa_cons (pv 3) (pa_cons (pv 4) (pa_cons pe_int pa_nil))))))
        pss_nil)
      (pss_one (ps_ret (pe_lst (pa_cons pe_int (pa_cons (pv 4) (pa_cons pe_int pa_nil))))))))))), ?_⟩
    refine ⟨_, rfl, _, rfl, L, ns, k, rfl, hL, hn, hk, fun z H1 s1 => ?_⟩
    refine ⟨_, rfl, z, rfl, ?_⟩
    refine ⟨fun σ' H' => H' = H1 ∧ ∃ n : Int, σ' = [some (.ref L), some (.int (k : Int)), some (.int z), some (.int n), none], ?_, ?_⟩
    · refine ⟨_, rfl, _, _, rfl, rfl, (show (0 : Int) ≤ 36000 by decide), ⟨rfl, _, rfl, iteAny (fun _ => ?_) (fun _ => ?_)⟩⟩
      · refine ⟨_, rfl, .inl ⟨_, rfl, ?_⟩⟩
        refine ⟨_, _, rfl, rfl, ⟨by decide, by decide, by decide⟩, ?_⟩
        exact ⟨_, _, rfl, rfl, nz (i := 0) (by decide), rfl, _, rfl⟩
      · exact ⟨rfl, _, rfl⟩
    · rintro σ' H2 ⟨rfl, n, rfl⟩
      refine ⟨_, rfl, .inl ⟨_, rfl, ⟨_, _, rfl, rfl, nz (i := 0) (by decide), ⟨_, _, rfl, rfl, .inr ⟨by decide, by decide⟩, ?_⟩⟩⟩⟩
      refine ⟨_, rfl, _, _, rfl, rfl, .inl ⟨by decide, by decide⟩, ⟨_, _, rfl, rfl, ⟨_, _, rfl, rfl, ?_⟩⟩⟩
      refine ⟨_, rfl, _, _, rfl, rfl, .inr ⟨_, rfl, ⟨_, _, rfl, rfl, .inl ⟨_, rfl, ⟨_, _, rfl, rfl, nz (i := 0) (by decide), ?_⟩⟩⟩⟩⟩
      refine ⟨_, rfl, _, _, rfl, rfl, ⟨by decide, by decide, by decide⟩, ⟨_, _, rfl, rfl, _, rfl, iteAny (fun _ => ?_) (fun _ => ?_)⟩⟩
      · exact ⟨_, rfl, _, rfl, by show 3 ≤ sizeLine; decide, fun s ns => q s _ (s1.trans (same_upd ns)) (s1.free ns) ⟨_, _, _, upd_same⟩⟩
      · exact ⟨_, rfl, by show 3 ≤ sizeLine; decide, fun s ns => q s _ (s1.trans (same_upd ns)) (s1.free ns) ⟨_, _, _, upd_same⟩⟩
def sp_L_asks (K : PySem.W.Frag) : Sp := fun vs H Q _ => ∃ (s : Addr), vs = [.ref s] ∧ Src H s ∧ ∀ A H', Asks A → OffS s H H' → Q (.str A) H'
theorem fn_L_asks (c : Env K mg cSt cSg cMa cVe cRl) : Fn P w K mg base "_law_asks" 2 P_L_asks (sp_L_asks K) := by
  refine fn_ok c.d_L_asks sc_L_asks (fun _ _ _ _ _ _ us hl => match us, hl with | [_], _ => rfl) (fun vs H Q E h => ?_) (fun f cdv A outer s H vs Q E hr h => ?_)
  · obtain ⟨s, rfl, hs, q⟩ := h
    rfl
  · obtain ⟨s, rfl, hs, q⟩ := h
    refine ⟨_, (pss_one (ps_ret (pe_ix (ix_seqK (K := K)) (pe_lst (pa_cons pe_str (pa_cons pe_str (pa_cons pe_str (pa_cons pe_str (pa_cons pe_str (pa_cons pe_str (pa_cons pe_str (pa_cons pe_str pa_nil))))))))) (pe_fn (fn_L_draw c) (hr.mono (by decide)) rfl (pa_cons (pv 0) (pa_cons pe_int pa_nil))) (fun _ _ => rfl)))), ?_⟩
    refine ⟨by show 8 ≤ sizeLine; decide, fun L nL => ?_⟩
    have sL := same_upd (o := .lst [.str "ab", .str "ab", .str "bf", .str "acd", .str "ah", .str "a", .str "ab", .str "ce"]) nL
    have hsL := hs.same sL
    refine ⟨_, rfl, s, 8, rfl, by decide, by decide, hsL, fun d H1 hd o1 => ?_⟩
    have hLs : L ≠ s := fun e => by subst e; obtain ⟨_, _, _, h⟩ := hs; rw [h] at nL; cases nL
    have hL1 := o1.at' hLs (upd_same (H := H) (a := L))
    obtain ⟨A, hA, e⟩ : ∃ A : Str, Asks A ∧ ([.str "ab", .str "ab", .str "bf", .str "acd", .str "ah", .str "a", .str "ab", .str "ce"] : List V)[d]? = some (.str A) := by
      have : d = 0 ∨ d = 1 ∨ d = 2 ∨ d = 3 ∨ d = 4 ∨ d = 5 ∨ d = 6 ∨ d = 7 := by omega
      rcases this with h | h | h | h | h | h | h | h <;> subst h
      · exact ⟨"ab", by decide +kernel, rfl⟩
      · exact ⟨"ab", by decide +kernel, rfl⟩
      · exact ⟨"bf", by decide +kernel, rfl⟩
      · exact ⟨"acd", by decide +kernel, rfl⟩
      · exact ⟨"ah", by decide +kernel, rfl⟩
      · exact ⟨"a", by decide +kernel, rfl⟩
      · exact ⟨"ab", by decide +kernel, rfl⟩
      · exact ⟨"ce", by decide +kernel, rfl⟩
    exact ixL_of hL1 (j := d) rfl e (q A _ hA ((OffS.of_same hs sL).trans o1))
def sp_L_states (K : PySem.W.Frag) : Sp := fun vs H Q _ => ∃ (s : Addr), vs = [.ref s] ∧ Src H s ∧ ∀ (n : Nat) H', 1 ≤ n → n ≤ 3 → OffS s H H' → Q (.int (n : Int)) H'
theorem fn_L_states (c : Env K mg cSt cSg cMa cVe cRl) : Fn P w K mg base "_law_states" 2 P_L_states (sp_L_states K) := by
  refine fn_ok c.d_L_states sc_L_states (fun _ _ _ _ _ _ us hl => match us, hl with | [_], _ => rfl) (fun vs H Q E h => ?_) (fun f cdv A outer s H vs Q E hr h => ?_)
  · obtain ⟨s, rfl, hs, q⟩ := h
    rfl
  · obtain ⟨s, rfl, hs, q⟩ := h
    refine ⟨_, (pss_one (ps_ret (pe_ix (ix_seqK (K := K)) (pe_lst (pa_cons pe_int (pa_cons pe_int (pa_cons pe_int (pa_cons pe_int (pa_cons pe_int (pa_cons pe_int (pa_cons pe_int (pa_cons pe_int pa_nil))))))))) (pe_fn (fn_L_draw c) (hr.mono (by decide)) rfl (pa_cons (pv 0) (pa_cons pe_int pa_nil))) (fun _ _ => rfl)))), ?_⟩
    refine ⟨by show 8 ≤ sizeLine; decide, fun L nL => ?_⟩
    have sL := same_upd (o := .lst [.int 2, .int 2, .int 3, .int 2, .int 3, .int 1, .int 2, .int 3]) nL
    have hsL := hs.same sL
    refine ⟨_, rfl, s, 8, rfl, by decide, by decide, hsL, fun d H1 hd o1 => ?_⟩
    have hLs : L ≠ s := fun e => by subst e; obtain ⟨_, _, _, h⟩ := hs; rw [h] at nL; cases nL
    have hL1 := o1.at' hLs (upd_same (H := H) (a := L))
    obtain ⟨n, h1, h2, e⟩ : ∃ n : Nat, 1 ≤ n ∧ n ≤ 3 ∧ ([.int 2, .int 2, .int 3, .int 2, .int 3, .int 1, .int 2, .int 3] : List V)[d]? = some (.int (n : Int)) := by
      have : d = 0 ∨ d = 1 ∨ d = 2 ∨ d = 3 ∨ d = 4 ∨ d = 5 ∨ d = 6 ∨ d = 7 := by omega
      rcases this with h | h | h | h | h | h | h | h <;> subst h
      · exact ⟨2, by decide, by decide, rfl⟩
      · exact ⟨2, by decide, by decide, rfl⟩
      · exact ⟨3, by decide, by decide, rfl⟩
      · exact ⟨2, by decide, by decide, rfl⟩
      · exact ⟨3, by decide, by decide, rfl⟩
      · exact ⟨1, by decide, by decide, rfl⟩
      · exact ⟨2, by decide, by decide, rfl⟩
      · exact ⟨3, by decide, by decide, rfl⟩
    exact ixL_of hL1 (j := d) rfl e (q n _ h1 h2 ((OffS.of_same hs sL).trans o1))
/-- M masks all that changes -/
structure Msk (M : List Addr) (s : Addr) (H : Hp) : Prop where
  src : Src H s
  mem : s ∈ M
  dom : ∀ p ∈ M, H p ≠ none
theorem Msk.next {M : List Addr} {s : Addr} {H H' : Hp} (m : Msk M s H) (o : OffS s H H') : Msk M s H' := ⟨o.src, m.mem, o.dom m.dom⟩
def sp_L_prices (K : PySem.W.Frag) : Sp := fun vs H Q _ => ∃ (M : List Addr) (s : Addr) (n most : Nat), vs = [.ref s, .int (n : Int), .int (most : Int)] ∧ Msk M s H ∧ n ≤ 1000 ∧ most ≤ 100 ∧ ∀ (ps : List Int) v H', ps.length = n → OffS s H H' → dLst K dInt (mk M H') v ps → Q v H'
theorem fn_L_prices (c : Env K mg cSt cSg cMa cVe cRl) : Fn P w K mg base "_law_prices" 2 P_L_prices (sp_L_prices K) := by
  refine fn_ok c.d_L_prices sc_L_prices (fun _ _ _ _ _ _ us hl => match us, hl with | [_, _, _], _ => rfl) (fun vs H Q E h => ?_) (fun f cdv A outer s H vs Q E hr h => ?_)
  · obtain ⟨M, s, n, most, rfl, ms, hn, hmost, q⟩ := h
    rfl
  · obtain ⟨M, s, n, most, rfl, ms, hn, hmost, q⟩ := h
    refine ⟨_, (pss_one (ps_ret (pe_lc (own := [("_law_k", 3)]) (g := gName 3) (tt := tYes) rfl sc_L_prices.nd (pi_range1 rfl c.b_range (pa_cons (pv 1) pa_nil)) (blkOk_by (N := N_L_prices) (sc := defScope s_L_prices) (own := [("_law_k", 3)]) (by decide +kernel)) (fun _ _ _ _ _ => (pg_name (i := 3) sc_L_prices.nd rfl (by first | exact Or.inl rfl | exact Or.inr rfl))) (fun _ _ _ _ _ => pts_nil) (fun _ _ _ _ _ => (pe_fn (fn_L_draw c) (hr.mono (by decide)) rfl (pa_cons (pv 0) (pa_cons (pe_op op_add (pv 2) pe_int) pa_nil))))))), ?_⟩
    refine ⟨_, rfl, (n : Int), rfl, by omega, by omega, fun D nD => ?_⟩
    refine lc_draw (n := n) (s := s) (M := M) (R := dInt) (fun _ => True) dInt_mono ms.src ms.mem nD ms.dom (by omega) (fun i H1 hi o1 hM1 Q2 q2 => ?_) (fun H1 xs ys o1 hl _ hD pD => ?_)
    · refine ⟨_, rfl, _, rfl, _, _, rfl, rfl, s, most + 1, rfl, by omega, by omega, o1.src, fun d H2 hd o2 => q2 _ (d : Int) _ trivial o2 rfl⟩
    · exact q xs _ _ hl o1 (lst_at hD (notin_of ms.dom nD) pD)
def sp_L_any_table (K : PySem.W.Frag) : Sp := fun vs H Q _ => ∃ (M : List Addr) (s : Addr) (n most : Nat), vs = [.ref s, .int (n : Int), .int (most : Int)] ∧ Msk M s H ∧ n ≤ 1000 ∧ most ≤ 100 ∧ ∀ (t : Tab) v H', Sq n t → OffS s H H' → dLst K (dLst K dInt) (mk M H') v t → Q v H'
theorem fn_L_any_table (c : Env K mg cSt cSg cMa cVe cRl) : Fn P w K mg base "_law_any_table" 3 P_L_any_table (sp_L_any_table K) := by
  refine fn_ok c.d_L_any_table sc_L_any_table (fun _ _ _ _ _ _ us hl => match us, hl with | [_, _, _], _ => rfl) (fun vs H Q E h => ?_) (fun f cdv A outer s H vs Q E hr h => ?_)
  · obtain ⟨M, s, n, most, rfl, ms, hn, hmost, q⟩ := h
    rfl
  · obtain ⟨M, s, n, most, rfl, ms, hn, hmost, q⟩ := h
    refine ⟨_, (pss_one (ps_ret (pe_lc (own := [("_law_s", 3)]) (g := gName 3) (tt := tYes) rfl sc_L_any_table.nd (pi_range1 rfl c.b_range (pa_cons (pv 1) pa_nil)) (blkOk_by (N := N_L_any_table) (sc := defScope s_L_any_table) (own := [("_law_s", 3)]) (by decide +kernel)) (fun _ _ _ _ _ => (pg_name (i := 3) sc_L_any_table.nd rfl (by first | exact Or.inl rfl | exact Or.inr rfl))) (fun _ _ _ _ _ => pts_nil) (fun _ _ _ _ _ => (pe_fn (fn_L_prices c) (hr.mono (by decide)) rfl (pa_cons (pv 0) (pa_cons (pv 1) (pa_cons (pv 2) pa_nil)))))))), ?_⟩
    refine ⟨_, rfl, (n : Int), rfl, by omega, by omega, fun D nD => ?_⟩
    refine lc_draw (n := n) (s := s) (M := M) (R := dLst K dInt) (fun l => l.length = n) (dLst_mono dInt_mono) ms.src ms.mem nD ms.dom (by omega) (fun i H1 hi o1 hM1 Q2 q2 => ?_) (fun H1 xs ys o1 hl hP hD pD => ?_)
    · exact ⟨_, rfl, _, rfl, _, rfl, D :: M, s, n, most, rfl, ⟨o1.src, List.mem_cons_of_mem _ ms.mem, hM1⟩, hn, hmost, fun ps v H2 hps o2 hv => q2 v ps _ hps o2 hv⟩
    · exact q xs _ _ ⟨hl, hP⟩ o1 (lst_at hD (notin_of ms.dom nD) pD)
def sp_L_change (K : PySem.W.Frag) : Sp := fun vs H Q _ => ∃ (s : Addr) (i j most : Nat), vs = [.ref s, .int (i : Int), .int (j : Int), .int (most : Int)] ∧ Src H s ∧ 0 < most ∧ most ≤ 100 ∧ ∀ (z : Int) H', OffS s H H' → Q (.int z) H'
theorem fn_L_change (c : Env K mg cSt cSg cMa cVe cRl) : Fn P w K mg base "_law_change" 2 P_L_change (sp_L_change K) := by
  refine fn_ok c.d_L_change sc_L_change (fun _ _ _ _ _ _ us hl => match us, hl with | [_, _, _, _], _ => rfl) (fun vs H Q E h => ?_) (fun f cdv A outer s H vs Q E hr h => ?_)
  · obtain ⟨s, i, j, most, rfl, hs, h0, hm, q⟩ := h
    rfl
  · obtain ⟨s, i, j, most, rfl, hs, h0, hm, q⟩ := h
    refine ⟨_, (pss_cons (ps_if (pt_cmpR op_eq (pv 1) (pv 2) (nomark _))
        (pss_one (ps_ret pe_int))
        pss_nil)
      (pss_one (ps_ret (pe_op op_add pe_int (pe_fn (fn_L_draw c) (hr.mono (by decide)) rfl (pa_cons (pv 0) (pa_cons (pv 3) pa_nil))))))), ?_⟩
    refine ⟨_, rfl, _, rfl, rfl, _, rfl, iteAny (fun _ => ?_) (fun _ => ?_)⟩
    · exact q _ _ (OffS.refl hs)
    · exact ⟨_, rfl, _, rfl, s, most, rfl, h0, by omega, hs, fun d H1 hd o1 => ⟨_, _, rfl, rfl, q _ _ o1⟩⟩
end
end AW
namespace AW
open PySem PySem.Spec PyProof.Rows L2
/-! ### worlds -/
def dWorld (K : PySem.W.Frag) : DR Wd := fun H v d => ∃ a vb vc ve, v = .ref a ∧ SqL K H a [.str d.asks, vb, vc, ve] ∧ dLst K dInt H vb d.begins ∧ dLst K (dLst K (dLst K dInt)) H vc d.costs ∧ dLst K dInt H ve d.ends
theorem mL1 {K : PySem.W.Frag} : Mono (dLst K dInt) := dLst_mono dInt_mono
theorem mL2 {K : PySem.W.Frag} : Mono (dLst K (dLst K dInt)) := dLst_mono mL1
theorem mL3 {K : PySem.W.Frag} : Mono (dLst K (dLst K (dLst K dInt))) := dLst_mono mL2
theorem dWorld_mono {K : PySem.W.Frag} : Mono (dWorld K) := fun H H' v d s ⟨a, vb, vc, ve, e, h0, h1, h2, h3⟩ => ⟨a, vb, vc, ve, e, s.seq h0, mL1 _ _ _ _ s h1, mL3 _ _ _ _ s h2, mL1 _ _ _ _ s h3⟩
theorem ixq {K : PySem.W.Frag} {H0 H : Hp} {Q : VK} {a : Addr} {xs : List V} {j : Nat} {u : V} {i : Int} (s : Same H0 H) (hq : SqL K H0 a xs) (hi : i = (j : Int)) (e : xs[j]? = some u) (q : Q u H) : rIxQ K (.ref a) (.int i) H Q := by
  unfold rIxQ
  exact .inl ⟨a, xs, i, u, rfl, rfl, s.seq hq, atI_of hi e, q⟩
theorem list_of {K : PySem.W.Frag} {H : Hp} {Q : VK} {a : Addr} {xs : List V} (h : SqL K H a xs) (q : ∀ l, H l = none → Q (.ref l) (upd H l (.lst xs))) : rListQ K [.ref a] H Q := by
  unfold rListQ
  exact ⟨a, xs, rfl, .inl h, q⟩
theorem lseq2 {K : PySem.W.Frag} {H : Hp} {v : V} {t : Tab} (h : dLst K (dLst K dInt) H v t) : dSeq K (dSeq K dInt) H v t := dSeq_imp (seq_lst h) fun _ _ _ => seq_lst
theorem lseq3 {K : PySem.W.Frag} {H : Hp} {v : V} {t : List Tab} (h : dLst K (dLst K (dLst K dInt)) H v t) : dSeq K (dSeq K (dSeq K dInt)) H v t := dSeq_imp (seq_lst h) fun _ _ _ => lseq2
section
variable {P : Program} {w : World} {K : PySem.W.Frag} {mg : Str → Option Value} {base : Heap} {cSt cSg cMa cVe cRl : Addr}
def sp_L_led (K : PySem.W.Frag) : Sp := fun vs H Q _ => ∃ (v t : V) (ws : List Int) (tb : Tab), vs = [v, t] ∧ dSeq K dInt H v ws ∧ dSeq K (dSeq K dInt) H t tb ∧ ws ≠ [] ∧ Sq ws.length tb ∧ ws.length ≤ 1000 ∧ NewInts H (led ws tb) Q
theorem fn_L_led (c : Env K mg cSt cSg cMa cVe cRl) : Fn P w K mg base "_law_led" 1 P_L_led (sp_L_led K) := by
  refine fn_ok c.d_L_led sc_L_led (fun _ _ _ _ _ _ us hl => match us, hl with | [_, _], _ => rfl) (fun vs H Q E h => ?_) (fun f cdv A outer s H vs Q E hr h => ?_)
  · obtain ⟨v, t, ws, tb, rfl, hw, ht, hne, sq, hn, q⟩ := h
    rfl
  · obtain ⟨v, t, ws, tb, rfl, hw, ht, hne, sq, hn, q⟩ := h
    refine ⟨_, (pss_cons (ps_set (i := 2) sc_L_led.nd rfl (Or.inr rfl) (pe_callB (call_len_seqK (K := K)) (by rfl) c.b_len (by decide +kernel) (pa_cons (pv 0) pa_nil)))
      (pss_one (ps_ret (pe_lc (own := [("_law_t", 3)]) (g := gName 3) (tt := tYes) rfl sc_L_led.nd (pi_range1 rfl c.b_range (pa_cons (pv 2) pa_nil)) (blkOk_by (N := N_L_led) (sc := defScope s_L_led) (own := [("_law_t", 3)]) (by decide +kernel)) (fun _ _ _ _ _ => (pg_name (i := 3) sc_L_led.nd rfl (by first | exact Or.inl rfl | exact Or.inr rfl))) (fun _ _ _ _ _ => pts_nil) (fun _ _ _ _ _ => (pe_callB (cr_minSK (K := K) rfl) (by rfl) c.b_min (by decide +kernel) (pa_cons (pe_lc (own := [("_law_s", 4)]) (g := gName 4) (tt := tYes) rfl sc_L_led.nd (pi_range1 rfl c.b_range (pa_cons (pv 2) pa_nil)) (blkOk_by (N := N_L_led) (sc := ({ kind := PySem.ScopeKind.function, names := [ (PySem.Str.ofString ".0", PySem.NameKind.local), (PySem.Str.ofString "_law_t", PySem.NameKind.cell), (PySem.Str.ofString "min", PySem.NameKind.globalImplicit), (PySem.Str.ofString "range", PySem.NameKind.globalImplicit), (PySem.Str.ofString "_law_line", PySem.NameKind.cell), (PySem.Str.ofString "_law_many", PySem.NameKind.cell), (PySem.Str.ofString "_law_table", PySem.NameKind.cell)], isGenerator := false, isCoroutine := false, more := [] : PySem.Scope })) (own := [("_law_s", 4)]) (by decide +kernel)) (fun _ _ _ _ _ => (pg_name (i := 4) sc_L_led.nd rfl (by first | exact Or.inl rfl | exact Or.inr rfl))) (fun _ _ _ _ _ => pts_nil) (fun _ _ _ _ _ => (pe_op op_add (pe_ix (ix_seqK (K := K)) (pv 0) (pv 4) (fun _ _ => rfl)) (pe_ix (ix_seqK (K := K)) (pe_ix (ix_seqK (K := K)) (pv 1) (pv 4) (fun _ _ => rfl)) (pv 3) (fun _ _ => rfl))))) pa_nil))))))), ?_⟩
    have hpos : 0 < ws.length := List.length_pos_iff.mpr hne
    refine ⟨v, rfl, len_of hw ?_⟩
    refine ⟨_, rfl, (ws.length : Int), rfl, by omega, by omega, fun D nD => ?_⟩
    refine lc_range (n := ws.length) (M := []) (R := dInt) (fun j => mn ((List.range ws.length).map fun s => ws.getD s 0 + at2 tb s j)) dInt_mono nD (fun _ h => nomatch h) (by omega) (fun j H1 hj s1 _ _ Q1 q1 => ?_) (fun H1 s1 ⟨ys, h1, p1⟩ => ?_)
    · refine ⟨_, rfl, (ws.length : Int), rfl, by omega, by omega, fun D2 nD2 => ?_⟩
      refine lc_range (n := ws.length) (M := []) (R := dInt) (fun s => ws.getD s 0 + at2 tb s j) dInt_mono nD2 (fun _ h => nomatch h) (by omega) (fun i H2 hi s2 _ _ Q2 q2 => ?_) (fun H2 s2 ⟨ys, h2, p2⟩ => ?_)
      · have s12 := s1.trans s2
        obtain ⟨r0, l0⟩ := tab_row sq hi
        refine ⟨v, rfl, _, rfl, ixs_of s12 hw (j := i) rfl (getD_some hi 0) fun u hu => ?_⟩
        cases (show u = .int (ws.getD i 0) from hu)
        refine ⟨t, rfl, _, rfl, ixs_of s12 ht (j := i) rfl r0 fun u hu => ⟨_, rfl, ixs_of s12 hu (j := j) rfl (getD_some (by rw [l0]; exact hj) 0) fun u2 hu2 => ?_⟩⟩
        cases (show u2 = .int ((tb.getD i []).getD j 0) from hu2)
        exact ⟨_, _, rfl, rfl, q2 _ _ (Same.refl _) rfl⟩
      · refine min_of (ns := (List.range ws.length).map fun s => ws.getD s 0 + at2 tb s j) ⟨D2, ys, rfl, .inl (.inl (.inl h2)), p2⟩ (range_ne hpos _) (q1 _ _ s2 rfl)
    · cases ints_of p1
      exact q D H1 s1 nD h1
def sp_L_low (K : PySem.W.Frag) : Sp := fun vs H Q _ => ∃ (v : V) (xs : List Int), vs = [v] ∧ dSeq K dInt H v xs ∧ xs ≠ [] ∧ xs.length ≤ 1000 ∧ ∀ p H', Same H H' → H p = none → H' p = some (.tup ((low xs).map V.int)) → Q (.ref p) H'
theorem fn_L_low (c : Env K mg cSt cSg cMa cVe cRl) : Fn P w K mg base "_law_low" 1 P_L_low (sp_L_low K) := by
  refine fn_ok c.d_L_low sc_L_low (fun _ _ _ _ _ _ us hl => match us, hl with | [_], _ => rfl) (fun vs H Q E h => ?_) (fun f cdv A outer s H vs Q E hr h => ?_)
  · obtain ⟨v, xs, rfl, hx, hne, hn, q⟩ := h
    rfl
  · obtain ⟨v, xs, rfl, hx, hne, hn, q⟩ := h
    refine ⟨_, (pss_cons (ps_set (i := 1) sc_L_low.nd rfl (Or.inr rfl) (pe_callB (cr_minSK (K := K) rfl) (by rfl) c.b_min (by decide +kernel) (pa_cons (pv 0) pa_nil)))
      (pss_one (ps_ret (pe_callTy (call_tuple_ofK (K := K)) (by rfl) c.b_tuple (by decide +kernel) (pa_cons (pe_lc (own := [("_law_x", 2)]) (g := gName 2) (tt := tYes) rfl sc_L_low.nd (pi_seqK (K := K) (pv 0)) (blkOk_by (N := N_L_low) (sc := defScope s_L_low) (own := [("_law_x", 2)]) (by decide +kernel)) (fun _ _ _ _ _ => (pg_name (i := 2) sc_L_low.nd rfl (by first | exact Or.inl rfl | exact Or.inr rfl))) (fun _ _ _ _ _ => pts_nil) (fun _ _ _ _ _ => (pe_op op_sub (pv 2) (pv 1)))) pa_nil))))), ?_⟩
    refine ⟨v, rfl, min_of hx hne ?_⟩
    obtain ⟨a, us, rfl, p, hq⟩ := seq_cases hx
    have hlen := Paired.length p
    have turn : ∀ (u : V) (x : Int) (H2 : Hp), dInt H2 u x → ∀ Q2 : VK, (∀ y H4, Same H2 H4 → dInt H4 y (x - mn xs) → Q2 y H4) →
        tOp (rI0 fun i j => .int (i - j)) (tVar 2) (tVar 1) [some (.ref a), some (.int (mn xs)), some u] H2 Q2 := fun u x H2 hu Q2 q2 => by
      cases hu
      exact ⟨_, rfl, _, rfl, _, _, rfl, rfl, q2 _ _ (Same.refl _) rfl⟩
    have fin : ∀ (D : Addr) (H2 : Hp), H D = none → Same H H2 → (∃ ys, H2 D = some (.lst ys) ∧ Paired (dInt (mk [] H2)) ys (xs.map fun x => x - mn xs)) → rTupQ K [.ref D] H2 Q := fun D H2 hD s2 ⟨ys, h1, p2⟩ => by
      cases ints_of p2
      exact tuple_of h1 fun l hl => q l _ (s2.trans (same_upd hl)) (s2.free hl) upd_same
    rcases hq with hq | hq
    · refine ⟨_, rfl, a, us, rfl, .inl ⟨hq, fun D hD => ?_⟩⟩
      exact lc_map (j := 2) (M := []) (σ := [some (.ref a), some (.int (mn xs)), none]) walk_list (S := dInt) (R := dInt) (fun x => x - mn xs) dInt_mono dInt_mono (p) hD (fun _ h => nomatch h) (by omega) (fun H2 s2 => s2.seq hq) (fun u x H2 hx2 s2 s3 hu hM2 Q2 q2 => turn u x H2 hu Q2 q2) (fun H2 s2 h => fin D H2 hD s2 h)
    · refine ⟨_, rfl, a, us, rfl, .inr ⟨hq, fun D hD => ?_⟩⟩
      exact lc_map (j := 2) (M := []) (σ := [some (.ref a), some (.int (mn xs)), none]) walk_tup (S := dInt) (R := dInt) (fun x => x - mn xs) dInt_mono dInt_mono (p) hD (fun _ h => nomatch h) (by omega) (fun H2 s2 => Same.tup s2 hq) (fun u x H2 hx2 s2 s3 hu hM2 Q2 q2 => turn u x H2 hu Q2 q2) (fun H2 s2 h => fin D H2 hD s2 h)
def sp_L_work (K : PySem.W.Frag) : Sp := fun vs H Q _ => ∃ (H0 : Hp) (v : V) (d : Wd) (ks : List Nat), vs = [v, .str (rowS d.asks ks)] ∧ Same H0 H ∧ Wf d ∧ dWorld K H0 v d ∧ (∀ k ∈ ks, k < d.asks.cps.size) ∧ ks.length ≤ 2000 ∧ NewInts H (ledR d.costs d.begins ks) Q
theorem fn_L_work (c : Env K mg cSt cSg cMa cVe cRl) : Fn P w K mg base "_law_work" 2 P_L_work (sp_L_work K) := by
  refine fn_ok c.d_L_work sc_L_work (fun _ _ _ _ _ _ us hl => match us, hl with | [_, _], _ => rfl) (fun vs H Q E h => ?_) (fun f cdv A outer s H vs Q E hr h => ?_)
  · obtain ⟨H0, v, d, ks, rfl, s0, wf, hd, hk, hkl, q⟩ := h
    rfl
  · obtain ⟨H0, v, d, ks, rfl, s0, wf, hd, hk, hkl, q⟩ := h
    refine ⟨_, (pss_cons (ps_set (i := 2) sc_L_work.nd rfl (Or.inl rfl) (pe_callTy (call_list_ofK (K := K)) (by rfl) c.b_list (by decide +kernel) (pa_cons (pe_ix (ix_seqK (K := K)) (pv 0) pe_int (fun _ _ => rfl)) pa_nil)))
      (pss_cons (ps_for PassesOwn.never rfl (pi_str (pv 1)) (pg_name (i := 3) sc_L_work.nd rfl (Or.inl rfl))
        (pss_one (ps_set (i := 2) sc_L_work.nd rfl (Or.inl rfl) (pe_fn (fn_L_led c) (hr.mono (by decide)) rfl (pa_cons (pv 2) (pa_cons (pe_ix (ix_seqK (K := K)) (pe_ix (ix_seqK (K := K)) (pv 0) pe_int (fun _ _ => rfl)) (pe_m1 PySem.F.slot_str_find PySem.F.type_str_find mt_find (pe_ix (ix_seqK (K := K)) (pv 0) pe_int (fun _ _ => rfl)) (pv 3)) (fun _ _ => rfl)) pa_nil))))))
      (pss_one (ps_ret (pv 2))))), ?_⟩
    obtain ⟨a, vb, vc, ve, rfl, hq, hb, hc, he⟩ := hd
    have hpos := wf.pos
    have hle := wf.le
    refine ⟨_, rfl, ixq s0 hq (j := 1) rfl rfl ?_⟩
    obtain ⟨b, us, rfl, hqb, pb⟩ := id hb
    cases ints_of pb
    refine list_of (s0.seq hqb) fun L nL => ?_
    have s1 : Same H (upd H L (.lst (d.begins.map V.int))) := same_upd nL
    refine ⟨_, rfl, _, rfl, ?_⟩
    refine for_it (walk_str) (fun i σ H' => ∃ (L : Addr) (x3 : Option V), σ = [some (.ref a), some (.str (rowS d.asks ks)), some (.ref L), x3] ∧ Same H H' ∧ H L = none ∧ H' L = some (.lst ((ledR d.costs d.begins (ks.take i)).map V.int))) ⟨L, none, rfl, s1, nL, upd_same⟩ (fun _ _ _ _ _ => trivial) ?_ ?_
    · rintro i x σ H1 H2 hi ⟨L, x3, rfl, s2, nL, hL⟩ ⟨rfl, cc, hcc, rfl⟩
      obtain ⟨k, hk1, rfl⟩ := rowS_at hcc
      have hkA := hk k (List.mem_of_getElem? hk1)
      have s02 := s0.trans s2
      have hkc : k < d.costs.length := by rw [wf.cl]; exact hkA
      have hlen : (ledR d.costs d.begins (ks.take i)).length = d.begins.length := ledR_len _ _ _
      refine ⟨_, rfl, _, rfl, ixq s02 hq (j := 2) rfl rfl ?_⟩
      refine ⟨_, rfl, ixq s02 hq (j := 0) rfl rfl ?_⟩
      have e : Txt.find d.asks ⟨#[cp d.asks k]⟩ = (k : Int) := asks_find d.asks wf.asks k hkA
      refine ⟨⟨_, rfl⟩, _, rfl, _, _, rfl, rfl, ?_⟩
      rw [e]
      refine ixs_of s02 (seq_lst hc) (j := k) rfl (getD_some hkc []) fun ut hut => ?_
      have hm := List.mem_of_getElem? (getD_some hkc [])
      refine ⟨_, ut, ledR d.costs d.begins (ks.take i), d.costs.getD k [], rfl, ⟨L, _, rfl, .inl (.inl (.inl hL)), of_ints _⟩, mS2 _ _ _ _ s02 (lseq2 hut), fun z => by rw [z] at hlen; simp at hlen; omega, by rw [hlen]; exact wf.sq _ hm, by rw [hlen]; exact hle, fun p H3 s3 np hp => ?_⟩
      have e1 : ks.take (i + 1) = ks.take i ++ [k] := by rw [List.take_add_one, hk1]; rfl
      refine ⟨p, _, rfl, s2.trans s3, s2.free np, ?_⟩
      rw [e1, ledR_append]
      exact hp
    · rintro σ H1 ⟨L, x3, rfl, s2, nL, hL⟩
      rw [rowS_size, List.take_length] at hL
      exact ⟨_, rfl, q L _ s2 nL hL⟩
def sp_L_least_of (K : PySem.W.Frag) : Sp := fun vs H Q _ => ∃ (H0 : Hp) (v : V) (d : Wd) (ks : List Nat), vs = [v, .str (rowS d.asks ks)] ∧ Same H0 H ∧ Wf d ∧ dWorld K H0 v d ∧ (∀ k ∈ ks, k < d.asks.cps.size) ∧ ks.length ≤ 2000 ∧ ∀ H', Same H H' → Q (.int (pay d.costs d.ends d.begins ks)) H'
theorem fn_L_least_of (c : Env K mg cSt cSg cMa cVe cRl) : Fn P w K mg base "_law_least_of" 3 P_L_least_of (sp_L_least_of K) := by
  refine fn_ok c.d_L_least_of sc_L_least_of (fun _ _ _ _ _ _ us hl => match us, hl with | [_, _], _ => rfl) (fun vs H Q E h => ?_) (fun f cdv A outer s H vs Q E hr h => ?_)
  · obtain ⟨H0, v, d, ks, rfl, s0, wf, hd, hk, hkl, q⟩ := h
    rfl
  · obtain ⟨H0, v, d, ks, rfl, s0, wf, hd, hk, hkl, q⟩ := h
    refine ⟨_, (pss_one (ps_ret (pe_callB (cr_minSK (K := K) rfl) (by rfl) c.b_min (by decide +kernel) (pa_cons (pe_lc (own := [("_law_x", 2), ("_law_y", 3)]) (g := gTup K 2 (gCons (gName 2) (gCons (gName 3) gNil))) (tt := tYes) rfl sc_L_least_of.nd (pi_zipAK (K := K) rfl c.b_zip (pa_cons (pe_fn (fn_L_work c) (hr.mono (by decide)) rfl (pa_cons (pv 0) (pa_cons (pv 1) pa_nil))) (pa_cons (pe_ix (ix_seqK (K := K)) (pv 0) pe_int (fun _ _ => rfl)) pa_nil))) (blkOk_by (N := N_L_least_of) (sc := defScope s_L_least_of) (own := [("_law_x", 2), ("_law_y", 3)]) (by decide +kernel)) (fun _ _ _ _ _ => (pg_tup rfl (pgs_cons (pg_name (i := 2) sc_L_least_of.nd rfl (by first | exact Or.inl rfl | exact Or.inr rfl)) (pgs_cons (pg_name (i := 3) sc_L_least_of.nd rfl (by first | exact Or.inl rfl | exact Or.inr rfl)) pgs_nil)))) (fun _ _ _ _ _ => pts_nil) (fun _ _ _ _ _ => (pe_op op_add (pv 2) (pv 3)))) pa_nil)))), ?_⟩
    have hd' := hd
    obtain ⟨a, vb, vc, ve, rfl, hq, hb, hc, he⟩ := hd'
    have hpos := wf.pos
    have hle := wf.le
    have hlen : (ledR d.costs d.begins ks).length = d.begins.length := ledR_len _ _ _
    refine ⟨_, rfl, _, rfl, H0, .ref a, d, ks, rfl, s0, wf, hd, hk, hkl, fun p H1 s1 np hp => ?_⟩
    obtain ⟨e, us, rfl, hqe, pe⟩ := he
    cases ints_of pe
    have s01 := s0.trans s1
    refine ⟨_, rfl, ixq s01 hq (j := 3) rfl rfl ?_⟩
    refine ⟨p, e, _, _, rfl, .inl ⟨.inl (.inl hp), s01.seq hqe, fun D nD => ?_⟩⟩
    refine lc_gen (walk_zip (n := d.begins.length) (xs := (ledR d.costs d.begins ks).map V.int) (ys := d.ends.map V.int) (by rw [List.length_map, List.length_map, hlen, wf.el]; omega)) (fun i => (ledR d.costs d.begins ks).getD i 0 + d.ends.getD i 0) (M := []) (R := dInt) dInt_mono nD (fun _ h => nomatch h) (by omega) (fun H2 s2 => ⟨s2.seq (.inl (.inl hp)), (s01.trans s2).seq hqe⟩) ?_ ?_
    · rintro i x H2 H3 hi s2 _ _ _ ⟨T, x1, y1, rfl, nT, rfl, hx, hy⟩
      refine ⟨_, _, fun k q => pair_tgt upd_same q, rfl, fun Q2 q2 => ?_⟩
      have e1 : x1 = .int ((ledR d.costs d.begins ks).getD i 0) := by
        have := ints_at (l := ledR d.costs d.begins ks) (i := i) (by omega)
        exact Option.some.inj (hx.symm.trans this)
      have e2 : y1 = .int (d.ends.getD i 0) := by
        have := ints_at (l := d.ends) (i := i) (by rw [wf.el]; omega)
        exact Option.some.inj (hy.symm.trans this)
      subst e1 e2
      exact ⟨_, rfl, _, rfl, _, _, rfl, rfl, q2 _ _ (same_upd nT) rfl⟩
    · rintro H2 s2 ⟨ys, h1, p1⟩
      rw [← hlen, zipWith_range _ _ (by rw [hlen, wf.el])] at p1
      refine min_of ⟨D, ys, rfl, .inl (.inl (.inl h1)), p1⟩ (ne_of_len (b := d.ends) (by rw [addv_len _ _ (by rw [hlen, wf.el]), hlen, wf.el]) (fun e => by have := wf.el; rw [e] at this; simp at this; omega)) (q _ (s1.trans s2))
end
end AW
namespace AW
open PySem PySem.Spec PyProof.Rows L2
section
variable {P : Program} {w : World} {K : PySem.W.Frag} {mg : Str → Option Value} {base : Heap} {cSt cSg cMa cVe cRl : Addr}
def sp_L_changes (K : PySem.W.Frag) : Sp := fun vs H Q _ => ∃ (M : List Addr) (s : Addr) (n most : Nat), vs = [.ref s, .int (n : Int), .int (most : Int)] ∧ Msk M s H ∧ n ≤ 1000 ∧ 0 < most ∧ most ≤ 100 ∧ ∀ (t : Tab) v H', Sq n t → OffS s H H' → dLst K (dLst K dInt) (mk M H') v t → Q v H'
theorem fn_L_changes (c : Env K mg cSt cSg cMa cVe cRl) : Fn P w K mg base "_law_changes" 3 P_L_changes (sp_L_changes K) := by
  refine fn_ok c.d_L_changes sc_L_changes (fun _ _ _ _ _ _ us hl => match us, hl with | [_, _, _], _ => rfl) (fun vs H Q E h => ?_) (fun f cdv A outer s H vs Q E hr h => ?_)
  · obtain ⟨M, s, n, most, rfl, ms, hn, h0, hmost, q⟩ := h
    rfl
  · obtain ⟨M, s, n, most, rfl, ms, hn, h0, hmost, q⟩ := h
    refine ⟨_, (pss_cons (ps_set (i := 3) sc_L_changes.nd rfl (Or.inl rfl) (pe_lst pa_nil))
      (pss_cons (ps_for PassesOwn.never rfl (pi_range1 rfl c.b_range (pa_cons (pv 1) pa_nil)) (pg_name (i := 4) sc_L_changes.nd rfl (Or.inr rfl))
        (pss_one (ps_expr (pe_bm PySem.F.plainAttrs_list PySem.F.slot_list_append PySem.F.type_list_append mt_append (pv 3) (pa_cons (pe_lc (own := [("_law_t", 5)]) (g := gName 5) (tt := tYes) rfl sc_L_changes.nd (pi_range1 rfl c.b_range (pa_cons (pv 1) pa_nil)) (blkOk_by (N := N_L_changes) (sc := defScope s_L_changes) (own := [("_law_t", 5)]) (by decide +kernel)) (fun _ _ _ _ _ => (pg_name (i := 5) sc_L_changes.nd rfl (by first | exact Or.inl rfl | exact Or.inr rfl))) (fun _ _ _ _ _ => pts_nil) (fun _ _ _ _ _ => (pe_fn (fn_L_change c) (hr.mono (by decide)) rfl (pa_cons (pv 0) (pa_cons (pv 4) (pa_cons (pv 5) (pa_cons (pv 2) pa_nil))))))) pa_nil)))))
      (pss_one (ps_ret (pv 3))))), ?_⟩
    refine ⟨Nat.zero_le _, fun D nD => ?_⟩
    have hDs : D ≠ s := fun e => by subst e; exact ms.dom _ ms.mem nD
    have sD : Same H (upd H D (.lst [])) := same_upd nD
    refine ⟨_, rfl, (n : Int), rfl, by omega, by omega, ?_⟩
    refine for_range (lo := 0) (n := n) (fun i σ H' => ∃ (x4 x5 : Option V) (acc : List V) (t : Tab), σ = [some (.ref s), some (.int (n : Int)), some (.int (most : Int)), some (.ref D), x4, x5] ∧ OffS s H H' ∧ H' D = some (.lst acc) ∧ t.length = i ∧ (∀ l ∈ t, l.length = n) ∧ Paired (dLst K dInt (mk (D :: M) H')) acc t)
      ⟨none, none, [], [], rfl, OffS.of_same ms.src sD, upd_same, rfl, fun l h => absurd h List.not_mem_nil, .nil⟩ ?_ ?_
    · rintro i σ H1 hi ⟨x4, x5, acc, t, rfl, o1, hD, hl, hP, pA⟩
      rw [Int.zero_add]
      refine ⟨_, rfl, ty_lst hD, _, rfl, (n : Int), rfl, by omega, by omega, fun D2 nD2 => ?_⟩
      have dom1 : ∀ p ∈ D :: M, H1 p ≠ none := dom_cons (o1.dom ms.dom) hD
      refine lc_draw (n := n) (s := s) (M := D :: M) (R := dInt) (fun _ => True) dInt_mono o1.src (List.mem_cons_of_mem _ ms.mem) nD2 dom1 (by omega) (fun j H2 hj o2 hM2 Q2 q2 => ?_) (fun H2 xs ys o2 hxl _ hD2 p2 => ?_)
      · exact ⟨_, rfl, _, rfl, _, rfl, _, rfl, s, i, j, most, rfl, o2.src, h0, hmost, fun z H3 o3 => q2 _ z _ trivial o3 rfl⟩
      · have hD3 := o2.at' hDs hD
        have la := Paired.length pA
        refine ⟨_, _, _, rfl, rfl, hD3, len_ok (by omega), ?_⟩
        have eM : ∀ o, mk (D :: M) (upd H2 D o) = mk (D :: M) H2 := fun o => mk_upd_in (by simp)
        refine ⟨_, _, acc ++ [.ref D2], t ++ [xs], rfl, (o1.trans o2).put nD hDs, upd_same, by simp [hl], fun l hlm => ?_, ?_⟩
        · rcases List.mem_append.mp hlm with e | e
          · exact hP l e
          · simp at e; subst e; exact hxl
        · rw [eM]
          exact Paired.snoc (Paired.mono (fun _ _ => mL1 _ _ _ _ (o2.mono (List.mem_cons_of_mem _ ms.mem))) pA) (lst_at hD2 (notin_of dom1 nD2) p2)
    · rintro σ H1 ⟨x4, x5, acc, t, rfl, o1, hD, hl, hP, pA⟩
      refine ⟨_, rfl, q t _ _ ⟨hl, hP⟩ o1 (lst_at hD (notin_of ms.dom nD) (Paired.mono (fun _ _ => mL1 _ _ _ _ (mk_sub fun a ha => List.mem_cons_of_mem _ ha)) pA))⟩
def sp_L_served (K : PySem.W.Frag) : Sp := fun vs H Q _ => ∃ (M : List Addr) (n : Nat) (v u : V) (t : Tab) (ss : List Int), vs = [v, u] ∧ (∀ p ∈ M, H p ≠ none) ∧ n ≤ 1000 ∧ Sq n t ∧ ss.length = n ∧ dLst K (dLst K dInt) (mk M H) v t ∧ dLst K dInt (mk M H) u ss ∧ ∀ (t' : Tab) v' H', Sq n t' → Same H H' → dLst K (dLst K dInt) (mk M H') v' t' → Q v' H'
theorem fn_L_served (c : Env K mg cSt cSg cMa cVe cRl) : Fn P w K mg base "_law_served" 1 P_L_served (sp_L_served K) := by
  refine fn_ok c.d_L_served sc_L_served (fun _ _ _ _ _ _ us hl => match us, hl with | [_, _], _ => rfl) (fun vs H Q E h => ?_) (fun f cdv A outer s H vs Q E hr h => ?_)
  · obtain ⟨M, n, v, u, t, ss, rfl, hM, hn, sq, hss, hv, hu, q⟩ := h
    rfl
  · obtain ⟨M, n, v, u, t, ss, rfl, hM, hn, sq, hss, hv, hu, q⟩ := h
    refine ⟨_, (pss_one (ps_ret (pe_lc (own := [("_law_line", 2)]) (g := gName 2) (tt := tYes) rfl sc_L_served.nd (pi_seqK (K := K) (pv 0)) (blkOk_by (N := N_L_served) (sc := defScope s_L_served) (own := [("_law_line", 2)]) (by decide +kernel)) (fun _ _ _ _ _ => (pg_name (i := 2) sc_L_served.nd rfl (by first | exact Or.inl rfl | exact Or.inr rfl))) (fun _ _ _ _ _ => pts_nil) (fun _ _ _ _ _ => (pe_lc (own := [("_law_price", 3), ("_law_serve", 4)]) (g := gTup K 2 (gCons (gName 3) (gCons (gName 4) gNil))) (tt := tYes) rfl sc_L_served.nd (pi_zipAK (K := K) rfl c.b_zip (pa_cons (pv 2) (pa_cons (pv 1) pa_nil))) (blkOk_by (N := N_L_served) (sc := ({ kind := PySem.ScopeKind.function, names := [ (PySem.Str.ofString ".0", PySem.NameKind.local), (PySem.Str.ofString "_law_line", PySem.NameKind.local), (PySem.Str.ofString "zip", PySem.NameKind.globalImplicit), (PySem.Str.ofString "_law_serves", PySem.NameKind.cell)], isGenerator := false, isCoroutine := false, more := [] : PySem.Scope })) (own := [("_law_price", 3), ("_law_serve", 4)]) (by decide +kernel)) (fun _ _ _ _ _ => (pg_tup rfl (pgs_cons (pg_name (i := 3) sc_L_served.nd rfl (by first | exact Or.inl rfl | exact Or.inr rfl)) (pgs_cons (pg_name (i := 4) sc_L_served.nd rfl (by first | exact Or.inl rfl | exact Or.inr rfl)) pgs_nil)))) (fun _ _ _ _ _ => pts_nil) (fun _ _ _ _ _ => (pe_op op_add (pv 3) (pv 4)))))))), ?_⟩
    obtain ⟨a, us, rfl, hq, p⟩ := hv
    obtain ⟨b, ws, rfl, hqb, pb⟩ := hu
    cases ints_of pb
    have hlen : us.length = n := by rw [Paired.length p]; exact sq.1
    refine ⟨_, rfl, a, us, rfl, .inl ⟨mk_same.seq hq, fun D nD => ?_⟩⟩
    refine lc_map (j := 2) (M := M) walk_list (S := dLst K dInt) (R := dLst K dInt) (fun l => addv l ss) mL1 mL1 p nD hM (by omega) (fun H2 s2 => s2.seq (mk_same.seq hq)) (fun x l H1 hl s1 m1 hx hM1 Q1 q1 => ?_) (fun H1 s1 ⟨ys, h1, p1⟩ => ?_)
    · obtain ⟨e, zs, rfl, hqe, pe⟩ := hx
      cases ints_of pe
      have hll : l.length = n := sq.2 l hl
      have sq1 := mk_same.seq hqe
      refine ⟨_, rfl, _, rfl, e, b, _, _, rfl, .inl ⟨sq1, s1.seq (mk_same.seq hqb), fun D2 nD2 => ?_⟩⟩
      refine lc_gen (walk_zip (n := n) (xs := l.map V.int) (ys := ss.map V.int) (by rw [List.length_map, List.length_map, hll, hss]; omega)) (fun i => l.getD i 0 + ss.getD i 0) (M := D :: M) (R := dInt) dInt_mono nD2 hM1 (by omega) (fun H2 s2 => ⟨s2.seq sq1, (s1.trans s2).seq (mk_same.seq hqb)⟩) ?_ ?_
      · rintro i x H2 H3 hi s2 _ _ _ ⟨T, x1, y1, rfl, nT, rfl, hx, hy⟩
        refine ⟨_, _, fun k q => pair_tgt upd_same q, rfl, fun Q2 q2 => ?_⟩
        have e1 : x1 = .int (l.getD i 0) := Option.some.inj (hx.symm.trans (ints_at (l := l) (i := i) (by omega)))
        have e2 : y1 = .int (ss.getD i 0) := Option.some.inj (hy.symm.trans (ints_at (l := ss) (i := i) (by omega)))
        subst e1 e2
        exact ⟨_, rfl, _, rfl, _, _, rfl, rfl, q2 _ _ (same_upd nT) rfl⟩
      · rintro H2 s2 ⟨ys, h2, p2⟩
        rw [← hll, zipWith_range _ _ (by rw [hll, hss])] at p2
        exact q1 _ _ s2 (lst_at h2 (notin_of hM1 nD2) p2)
    · refine q (t.map fun l => addv l ss) _ _ ⟨by rw [List.length_map]; exact sq.1, fun l hl => ?_⟩ s1 (lst_at h1 (notin_of hM nD) p1)
      obtain ⟨l', hl', rfl⟩ := List.mem_map.mp hl
      rw [addv_len _ _ (by rw [sq.2 l' hl', hss])]
      exact sq.2 l' hl'
end
end AW
namespace AW
open PySem PySem.Spec PyProof.Rows L2
theorem mk_new2 {M : List Addr} {H H' : Hp} {D : Addr} (s : Same (mk M H) (mk M H')) (n : H D = none) : Same (mk M H) (mk (D :: M) H') := fun b o e => by
  by_cases hm : b ∈ M
  · rw [mk_in hm] at e; cases e
  · have h1 := s b o e
    rw [mk_out hm] at e h1
    have nb : b ≠ D := ne_of_none e n
    rw [mk_out (by simp [nb, hm])]
    exact h1
theorem rep_ints (n : Nat) (z : Int) : (List.replicate n [V.int z]).flatten = (List.replicate n z).map V.int := by rw [List.flatten_replicate_singleton, List.map_replicate]
section
variable {P : Program} {w : World} {K : PySem.W.Frag} {mg : Str → Option Value} {base : Heap} {cSt cSg cMa cVe cRl : Addr}
def sp_L_world (K : PySem.W.Frag) : Sp := fun vs H Q _ => ∃ (M : List Addr) (s : Addr) (n : Nat) (A : Str) (most : Nat), vs = [.ref s, .int (n : Int), .str A, .int (most : Int)] ∧ Msk M s H ∧ 1 ≤ n ∧ n ≤ 1000 ∧ Asks A ∧ 0 < most ∧ most ≤ 100 ∧ ∀ (d : Wd) v H', Wf d → d.asks = A → OffS s H H' → dWorld K (mk M H') v d → Q v H'
theorem fn_L_world (c : Env K mg cSt cSg cMa cVe cRl) : Fn P w K mg base "_law_world" 4 P_L_world (sp_L_world K) := by
  refine fn_ok c.d_L_world sc_L_world (fun _ _ _ _ _ _ us hl => match us, hl with | [_, _, _, _], _ => rfl) (fun vs H Q E h => ?_) (fun f cdv A outer s H vs Q E hr h => ?_)
  · obtain ⟨M, s, n, A, most, rfl, ms, h1, hn, hA, h0, hmost, q⟩ := h
    rfl
  · obtain ⟨M, s, n, A, most, rfl, ms, h1, hn, hA, h0, hmost, q⟩ := h
    refine ⟨_, (pss_cons (ps_set (i := 4) sc_L_world.nd rfl (Or.inl rfl) (pe_fn (fn_L_draw c) (hr.mono (by decide)) rfl (pa_cons (pv 0) (pa_cons pe_int pa_nil))))
      (pss_cons (ps_set (i := 5) sc_L_world.nd rfl (Or.inl rfl) (pe_fn (fn_L_prices c) (hr.mono (by decide)) rfl (pa_cons (pv 0) (pa_cons (pv 1) (pa_cons (pv 3) pa_nil)))))
      (pss_cons (ps_set (i := 6) sc_L_world.nd rfl (Or.inl rfl) (pe_fn (fn_L_prices c) (hr.mono (by decide)) rfl (pa_cons (pv 0) (pa_cons (pv 1) (pa_cons (pv 3) pa_nil)))))
      (pss_cutW (ps_if (pt_cmpR op_eq (pe_fn (fn_L_draw c) (hr.mono (by decide)) rfl (pa_cons (pv 0) (pa_cons pe_int pa_nil))) pe_int (nomark _))
        (pss_one (ps_set (i := 6) sc_L_world.nd rfl (Or.inl rfl) (pe_op op_rep (pe_lst (pa_cons pe_int pa_nil)) (pv 1))))
        pss_nil)
      (pss_cons (ps_set (i := 7) sc_L_world.nd rfl (Or.inl rfl) (pe_fn (fn_L_changes c) (hr.mono (by decide)) rfl (pa_cons (pv 0) (pa_cons (pv 1) (pa_cons (pv 3) pa_nil)))))
      (pss_cons (ps_set (i := 8) sc_L_world.nd rfl (Or.inl rfl) (pe_lst pa_nil))
      (pss_cons (ps_for PassesOwn.never rfl (pi_range1 rfl c.b_range (pa_cons (pe_callB call_len_str (by rfl) c.b_len (by decide +kernel) (pa_cons (pv 2) pa_nil)) pa_nil)) (pg_name (i := 9) sc_L_world.nd rfl (Or.inl rfl))
        (pss_one (ps_if (pt_cmpR op_eq (pv 4) pe_int (nomark _))
          (pss_one (ps_expr (pe_bm PySem.F.plainAttrs_list PySem.F.slot_list_append PySem.F.type_list_append mt_append (pv 8) (pa_cons (pe_fn (fn_L_any_table c) (hr.mono (by decide)) rfl (pa_cons (pv 0) (pa_cons (pv 1) (pa_cons (pv 3) pa_nil)))) pa_nil))))
          (pss_cons (ps_set (i := 10) sc_L_world.nd rfl (Or.inl rfl) (pe_fn (fn_L_prices c) (hr.mono (by decide)) rfl (pa_cons (pv 0) (pa_cons (pv 1) (pa_cons (pv 3) pa_nil)))))
          (pss_cutW (ps_if (pt_cmpR op_gt (pv 4) pe_int (nomark _))
            (pss_cons (ps_setLc (i := 10) (own := [("_law_price", 11)]) (g := gName 11) (tt := tYes) rfl sc_L_world.nd rfl rfl (sw_true rfl rfl rfl (by decide +kernel)) (pi_listK (K := K) (pv 10)) (blkOk_by (N := N_L_world) (sc := defScope s_L_world) (own := [("_law_price", 11)]) (by decide +kernel)) (fun _ _ _ _ _ => (pg_name (i := 11) sc_L_world.nd rfl (by first | exact Or.inl rfl | exact Or.inr rfl))) (fun _ _ _ _ _ => pts_nil) (fun _ _ _ _ _ => (pe_callB (call_max2 rfl) (by rfl) c.b_max (by decide +kernel) (pa_cons (pv 11) (pa_cons pe_int pa_nil)))))
            (pss_one (ps_asg pe_int (pg_sub (pv 10) (pe_op op_modN (pe_callTy call_int1 (by rfl) c.b_int (by decide +kernel) (pa_cons (pv 9) pa_nil)) (pv 1)) set_list))))
            pss_nil)
          (pss_one (ps_expr (pe_bm PySem.F.plainAttrs_list PySem.F.slot_list_append PySem.F.type_list_append mt_append (pv 8) (pa_cons (pe_fn (fn_L_served c) (hr.mono (by decide)) rfl (pa_cons (pv 7) (pa_cons (pv 10) pa_nil))) pa_nil)))))))))
      (pss_one (ps_ret (pe_lst (pa_cons (pv 2) (pa_cons (pv 5) (pa_cons (pv 8) (pa_cons (pv 6) pa_nil)))))))))))))), ?_⟩
    have hA3 : A.cps.size ≤ 3 := (asks_len hA).2
    refine ⟨_, rfl, s, 7, rfl, by decide, by decide, ms.src, fun mm H1 hm o1 => ?_⟩
    refine ⟨_, rfl, _, rfl, _, rfl, M, s, n, most, rfl, ms.next o1, hn, hmost, fun bs vb H2 hbl o2 hb => ?_⟩
    have o12 := o1.trans o2
    refine ⟨_, rfl, _, rfl, _, rfl, M, s, n, most, rfl, ms.next o12, hn, hmost, fun es ve H3 hel o3 he => ?_⟩
    have o13 := o12.trans o3
    refine ⟨fun σ' H' => ∃ (ve : V) (es : List Int), σ' = [some (.ref s), some (.int (n : Int)), some (.str A), some (.int (most : Int)), some (.int (mm : Int)), some vb, some ve, none, none, none, none, none] ∧ OffS s H H' ∧ es.length = n ∧ dLst K dInt (mk M H') ve es ∧ dLst K dInt (mk M H') vb bs, ?_, ?_⟩
    · refine ⟨_, rfl, s, 2, rfl, by decide, by decide, o13.src, fun d H4 hd o4 => ⟨rfl, _, rfl, iteAny (fun _ => ?_) (fun _ => ?_)⟩⟩
      · refine ⟨by show 1 ≤ sizeLine; decide, fun L0 nL0 => ⟨_, rfl, L0, (n : Int), [.int 0], rfl, rfl, upd_same, by omega, by omega, le_ok (by simp; omega), fun E nE => ?_⟩⟩
        have o14 := o13.trans o4
        have nE4 : H4 E = none := (same_upd nL0).free nE
        have sE : Same H4 (upd (upd H4 L0 (.lst [.int 0])) E (.lst (List.replicate ((n : Int)).toNat [V.int 0]).flatten)) := same_upd2 (same_upd nL0) nE4
        refine ⟨.ref E, List.replicate n 0, rfl, o14.then sE, List.length_replicate, lst_at upd_same (notin_of (o14.dom ms.dom) nE4) ?_, mL1 _ _ _ _ ((o3.trans (o4.then sE)).mono ms.mem) hb⟩
        rw [Int.toNat_natCast, rep_ints]
        exact of_ints _
      · exact ⟨ve, es, rfl, o13.trans o4, hel, mL1 _ _ _ _ (o4.mono ms.mem) he, mL1 _ _ _ _ ((o3.trans o4).mono ms.mem) hb⟩
    clear he hel o3 o13 o12 o2 H3 ve es
    rintro σ' H3 ⟨ve, es, rfl, o13, hel, he, hb3⟩
    refine ⟨_, rfl, _, rfl, _, rfl, M, s, n, most, rfl, ms.next o13, hn, h0, hmost, fun t vt H5 sq o5 ht => ?_⟩
    have o15 := o13.trans o5
    have hb5 := mL1 _ _ _ _ (o5.mono ms.mem) hb3
    have he5 := mL1 _ _ _ _ (o5.mono ms.mem) he
    have ms5 := ms.next o15
    refine ⟨Nat.zero_le _, fun D nD => ?_⟩
    have hDs : D ≠ s := fun e => by subst e; exact ms5.dom _ ms5.mem nD
    have sD : Same H5 (upd H5 D (.lst [])) := same_upd nD
    refine ⟨_, rfl, A, rfl, le_ok (show A.cps.size ≤ 16000000 by omega), ((A.cps.size : Nat) : Int), rfl, by omega, by omega, ?_⟩
    refine for_range (lo := 0) (n := A.cps.size) (fun i σ H' => ∃ (x9 x10 x11 : Option V) (acc : List V) (cs : List Tab), σ = [some (.ref s), some (.int (n : Int)), some (.str A), some (.int (most : Int)), some (.int (mm : Int)), some vb, some ve, some vt, some (.ref D), x9, x10, x11] ∧ OffS s H5 H' ∧ H' D = some (.lst acc) ∧ cs.length = i ∧ (∀ t ∈ cs, Sq n t) ∧ Paired (dLst K (dLst K dInt) (mk (D :: M) H')) acc cs)
      ⟨none, none, none, [], [], rfl, OffS.of_same ms5.src sD, upd_same, rfl, fun l h => absurd h List.not_mem_nil, .nil⟩ ?_ ?_
    · rintro i σ H6 hi ⟨x9, x10, x11, acc, cs, rfl, o6, hD, hl, hP, pA⟩
      rw [Int.zero_add]
      have la := Paired.length pA
      have ms6 : Msk (D :: M) s H6 := ⟨o6.src, List.mem_cons_of_mem _ ms.mem, dom_cons (o6.dom ms5.dom) hD⟩
      have post : ∀ {H7 : Hp} {v : V} {t' : Tab}, OffS s H6 H7 → Sq n t' → dLst K (dLst K dInt) (mk (D :: M) H7) v t' → OffS s H5 (upd H7 D (.lst (acc ++ [v]))) ∧ (upd H7 D (.lst (acc ++ [v]))) D = some (.lst (acc ++ [v])) ∧ (cs ++ [t']).length = i + 1 ∧ (∀ t ∈ cs ++ [t'], Sq n t) ∧ Paired (dLst K (dLst K dInt) (mk (D :: M) (upd H7 D (.lst (acc ++ [v]))))) (acc ++ [v]) (cs ++ [t']) := fun {H7 v t'} o7 sq' hv => by
        refine ⟨(o6.trans o7).put nD hDs, upd_same, by simp [hl], fun u hu => ?_, ?_⟩
        · rcases List.mem_append.mp hu with e | e
          · exact hP u e
          · simp at e; subst e; exact sq'
        · rw [mk_upd_in (by simp)]
          exact Paired.snoc (Paired.mono (fun _ _ => mL2 _ _ _ _ (o7.mono (List.mem_cons_of_mem _ ms.mem))) pA) hv
      refine ⟨_, rfl, rfl, _, rfl, iteAny (fun _ => ?_) (fun _ => ?_)⟩
      · refine ⟨_, rfl, ty_lst hD, _, rfl, _, rfl, _, rfl, D :: M, s, n, most, rfl, ms6, hn, hmost, fun t' v H7 sq' o7 hv => ?_⟩
        obtain ⟨p1, p2, p3, p4, p5⟩ := post o7 sq' hv
        exact ⟨_, _, _, rfl, rfl, o7.at' hDs hD, len_ok (by omega), _, _, _, acc ++ [v], cs ++ [t'], rfl, p1, p2, p3, p4, p5⟩
      · refine ⟨_, rfl, _, rfl, _, rfl, D :: M, s, n, most, rfl, ms6, hn, hmost, fun ss vs H7 hsl o7 hs => ?_⟩
        have hD7 := o7.at' hDs hD
        have ms7 := ms6.next o7
        refine ⟨fun σ' H' => ∃ (x11 : Option V) (ss : List Int) (vs : V), σ' = [some (.ref s), some (.int (n : Int)), some (.str A), some (.int (most : Int)), some (.int (mm : Int)), some vb, some ve, some vt, some (.ref D), some (.int (i : Int)), some vs, x11] ∧ OffS s H6 H' ∧ H' D = some (.lst acc) ∧ ss.length = n ∧ dLst K dInt (mk (D :: M) H') vs ss, ?_, ?_⟩
        · refine ⟨_, rfl, _, _, rfl, rfl, _, rfl, iteAny (fun _ => ?_) (fun _ => ?_)⟩
          · obtain ⟨b, us, rfl, hqb, pb⟩ := hs
            have lb := Paired.length pb
            refine ⟨_, rfl, b, rfl, ⟨_, mk_same.seq hqb⟩, fun D2 nD2 => ?_⟩
            refine lc_map (j := 11) (M := D :: M) walk_list (S := dInt) (R := dInt) (fun x => if 1 > x then 1 else x) dInt_mono dInt_mono pb nD2 ms7.dom (by omega) (fun H2 s2 => s2.seq (mk_same.seq hqb)) (fun u x H8 hx s8 m8 hu hM8 Q8 q8 => ?_) (fun H8 s8 ⟨ys, h8, p8⟩ => ?_)
            · cases (show u = .int x from hu)
              exact ⟨_, rfl, _, _, rfl, q8 _ _ (Same.refl _) rfl⟩
            · cases ints_of p8
              obtain ⟨dd, hdd, ed⟩ := fmod_nat (i : Int) (n := n) h1
              have hD2s : D2 ≠ s := fun e => by subst e; exact ms7.dom _ ms7.mem nD2
              have hDD : D ≠ D2 := ne_of_none hD7 nD2
              refine ⟨_, rfl, _, rfl, .inl ⟨_, rfl, ⟨_, rfl, _, _, rfl, rfl, nz (i := 0) (by omega), ?_⟩⟩⟩
              refine ⟨D2, _, _, dd, rfl, rfl, h8, ?_, ?_⟩
              · rw [List.length_map, List.length_map]
                show ixN ss.length ((i : Int).fmod n) = some dd
                rw [ed, hsl]
                exact ixN_nat hdd
              · refine ⟨_, (ss.map fun x => if 1 > x then 1 else x).set dd 0, .ref D2, rfl, o7.trans ((OffS.of_same o7.src s8).put nD2 hD2s), ?_, by simp [hsl], lst_at upd_same (notin_of ms7.dom nD2) ?_⟩
                · rw [upd_ne hDD]; exact s8 _ _ hD7
                · rw [← List.map_set]
                  exact of_ints _
          · exact ⟨_, ss, vs, rfl, o7, hD7, hsl, hs⟩
        · clear hs hsl o7 hD7 ms7 H7 vs ss
          rintro σ' H7 ⟨x11, ss, vs, rfl, o7, hD7, hsl, hs⟩
          refine ⟨_, rfl, ty_lst hD7, _, rfl, _, rfl, D :: M, n, vt, vs, t, ss, rfl, (ms6.next o7).dom, hn, sq, hsl, mL2 _ _ _ _ (mk_new2 ((o6.trans o7).mono ms.mem) nD) ht, hs, fun t' v H8 sq' s8 hv => ?_⟩
          obtain ⟨p1, p2, p3, p4, p5⟩ := post (o7.then s8) sq' hv
          exact ⟨_, _, _, rfl, rfl, s8 _ _ hD7, len_ok (by omega), _, _, _, acc ++ [v], cs ++ [t'], rfl, p1, p2, p3, p4, p5⟩
    · rintro σ H6 ⟨x9, x10, x11, acc, cs, rfl, o6, hD, hl, hP, pA⟩
      refine ⟨_, rfl, _, rfl, _, rfl, _, rfl, by show 4 ≤ sizeLine; decide, fun W nW => ?_⟩
      have sW : Same H6 (upd H6 W (.lst [.str A, vb, .ref D, ve])) := same_upd nW
      have o16 := o15.trans (o6.then sW)
      have mm := (o6.then sW).mono ms.mem
      refine q ⟨A, bs, cs, es⟩ _ _ ⟨hA, by show 0 < bs.length; omega, by show bs.length ≤ 1000; omega, hl, fun t ht => by show Sq bs.length t; rw [hbl]; exact hP t ht, by show es.length = bs.length; omega⟩ rfl o16
        ⟨W, vb, .ref D, ve, rfl, .inl (.inl ?_), mL1 _ _ _ _ mm hb5, ⟨D, acc, rfl, .inl (.inl ?_), ?_⟩, mL1 _ _ _ _ mm he5⟩
      · rw [mk_out (notin_of ((o6.dom ms5.dom)) nW)]; exact upd_same
      · rw [mk_out (notin_of ms5.dom nD)]; exact sW _ _ hD
      · exact Paired.mono (fun _ _ => mL2 _ _ _ _ ((mk_sub fun a ha => List.mem_cons_of_mem _ ha).trans (mk_mono sW))) pA
def sp_L_small (K : PySem.W.Frag) : Sp := fun vs H Q _ => ∃ (M : List Addr) (s : Addr) (A : Str) (most : Nat), vs = [.ref s, .str A, .int (most : Int)] ∧ Msk M s H ∧ Asks A ∧ 0 < most ∧ most ≤ 100 ∧ ∀ (d : Wd) v H', Wf d → d.asks = A → OffS s H H' → dWorld K (mk M H') v d → Q v H'
theorem fn_L_small (c : Env K mg cSt cSg cMa cVe cRl) : Fn P w K mg base "_law_small" 5 P_L_small (sp_L_small K) := by
  refine fn_ok c.d_L_small sc_L_small (fun _ _ _ _ _ _ us hl => match us, hl with | [_, _, _], _ => rfl) (fun vs H Q E h => ?_) (fun f cdv A outer s H vs Q E hr h => ?_)
  · obtain ⟨M, s, A, most, rfl, ms, hA, h0, hmost, q⟩ := h
    rfl
  · obtain ⟨M, s, A, most, rfl, ms, hA, h0, hmost, q⟩ := h
    refine ⟨_, (pss_cons (ps_set (i := 3) sc_L_small.nd rfl (Or.inl rfl) (pe_fn (fn_L_states c) (hr.mono (by decide)) rfl (pa_cons (pv 0) pa_nil)))
      (pss_cons (ps_if (pt_cmpR op_eq (pv 3) pe_int (nomark _))
        (pss_one (ps_ret (pe_fn (fn_L_world c) (hr.mono (by decide)) rfl (pa_cons (pv 0) (pa_cons pe_int (pa_cons (pv 1) (pa_cons (pe_callB (call_min2 rfl) (by rfl) c.b_min (by decide +kernel) (pa_cons (pv 2) (pa_cons pe_int pa_nil))) pa_nil)))))))
        pss_nil)
      (pss_one (ps_ret (pe_fn (fn_L_world c) (hr.mono (by decide)) rfl (pa_cons (pv 0) (pa_cons (pv 3) (pa_cons (pv 1) (pa_cons (pv 2) pa_nil))))))))), ?_⟩
    refine ⟨_, rfl, s, rfl, ms.src, fun n H1 h1 h3 o1 => ?_⟩
    have q' : ∀ (d : Wd) v H', Wf d → d.asks = A → OffS s H1 H' → dWorld K (mk M H') v d → Q v H' := fun d v H' wf e o h => q d v H' wf e (o1.trans o) h
    refine ⟨_, rfl, rfl, _, rfl, iteAny (fun _ => ?_) (fun _ => ?_)⟩
    · refine ⟨_, rfl, _, rfl, _, rfl, _, _, rfl, ?_⟩
      obtain ⟨m2, hm0, hm1, em⟩ : ∃ m2 : Nat, 0 < m2 ∧ m2 ≤ 100 ∧ (if (2 : Int) < (most : Int) then 2 else (most : Int)) = (m2 : Int) := by
        by_cases h : (2 : Int) < most
        · exact ⟨2, by omega, by omega, by rw [if_pos h]; rfl⟩
        · exact ⟨most, h0, hmost, by rw [if_neg h]⟩
      rw [em]
      exact ⟨M, s, 3, A, m2, rfl, ms.next o1, by omega, by omega, hA, hm0, hm1, q'⟩
    · exact ⟨_, rfl, _, rfl, _, rfl, _, rfl, M, s, n, A, most, rfl, ms.next o1, h1, by omega, hA, h0, hmost, q'⟩
end
end AW
namespace AW
open PySem PySem.Spec PyProof.Rows L2
theorem ixsN_of {α : Type} {K : PySem.W.Frag} {R : DR α} {H0 H : Hp} {v : V} {xs : List α} {i : Int} {j : Nat} {x : α} {Q : VK} (s : Same H0 H) (h : dLst K R H0 v xs) (hi : ixN xs.length i = some j) (e : xs[j]? = some x) (q : ∀ u, R H0 u x → Q u H) : rIxQ K v (.int i) H Q := by
  unfold rIxQ
  obtain ⟨a, vs, rfl, hq, p⟩ := h
  obtain ⟨u, hu, r⟩ := pgetR p e
  refine .inl ⟨a, vs, i, u, rfl, rfl, s.seq hq, ?_, q u r⟩
  unfold atI
  rw [Paired.length p, hi]
  exact hu
theorem ixN_neg {n k : Nat} (h0 : 0 < k) (h : k ≤ n) : ixN n (-(k : Int)) = some (n - k) := by
  unfold ixN
  rw [if_neg (by omega), if_pos (by omega)]
  congr 1
  omega
section
variable {P : Program} {w : World} {K : PySem.W.Frag} {mg : Str → Option Value} {base : Heap} {cSt cSg cMa cVe cRl : Addr}
def sp_L_raised (K : PySem.W.Frag) : Sp := fun vs H Q _ => ∃ (M : List Addr) (v vm : V) (d : Wd) (mo : List Int), vs = [v, vm] ∧ (∀ p ∈ M, H p ≠ none) ∧ Wf d ∧ dWorld K (mk M H) v d ∧ dLst K dInt (mk M H) vm mo ∧ mo.length = d.asks.cps.size + 2 ∧ ∀ (d' : Wd) v' H', Wf d' → d'.asks = d.asks → Same H H' → dWorld K (mk M H') v' d' → Q v' H'
theorem fn_L_raised (c : Env K mg cSt cSg cMa cVe cRl) : Fn P w K mg base "_law_raised" 1 P_L_raised (sp_L_raised K) := by
  refine fn_ok c.d_L_raised sc_L_raised (fun _ _ _ _ _ _ us hl => match us, hl with | [_, _], _ => rfl) (fun vs H Q E h => ?_) (fun f cdv A outer s H vs Q E hr h => ?_)
  · obtain ⟨M, v, vm, d, mo, rfl, hM, wf, hd, hmo, hml, q⟩ := h
    rfl
  · obtain ⟨M, v, vm, d, mo, rfl, hM, wf, hd, hmo, hml, q⟩ := h
    refine ⟨_, (pss_cons (ps_asg (pv 0) (pg_unl rfl (pgs_cons (pg_name (i := 2) sc_L_raised.nd rfl (Or.inl rfl)) (pgs_cons (pg_name (i := 3) sc_L_raised.nd rfl (Or.inl rfl)) (pgs_cons (pg_name (i := 4) sc_L_raised.nd rfl (Or.inl rfl)) (pgs_cons (pg_name (i := 5) sc_L_raised.nd rfl (Or.inl rfl)) pgs_nil))))))
      (pss_cons (ps_set (i := 6) sc_L_raised.nd rfl (Or.inl rfl) (pe_lst pa_nil))
      (pss_cons (ps_for PassesOwn.never rfl (pi_range1 rfl c.b_range (pa_cons (pe_callB call_len_str (by rfl) c.b_len (by decide +kernel) (pa_cons (pv 2) pa_nil)) pa_nil)) (pg_name (i := 7) sc_L_raised.nd rfl (Or.inr rfl))
        (pss_one (ps_expr (pe_bm PySem.F.plainAttrs_list PySem.F.slot_list_append PySem.F.type_list_append mt_append (pv 6) (pa_cons (pe_lc (own := [("_law_line", 9)]) (g := gName 9) (tt := tYes) rfl sc_L_raised.nd (pi_seqK (K := K) (pe_ix (ix_seqK (K := K)) (pv 4) (pv 7) (fun _ _ => rfl))) (blkOk_by (N := N_L_raised) (sc := defScope s_L_raised) (own := [("_law_line", 9)]) (by decide +kernel)) (fun _ _ _ _ _ => (pg_name (i := 9) sc_L_raised.nd rfl (by first | exact Or.inl rfl | exact Or.inr rfl))) (fun _ _ _ _ _ => pts_nil) (fun _ _ _ _ _ => (pe_lc (own := [("_law_price", 8)]) (g := gName 8) (tt := tYes) rfl sc_L_raised.nd (pi_listK (K := K) (pv 9)) (blkOk_by (N := N_L_raised) (sc := ({ kind := PySem.ScopeKind.function, names := [ (PySem.Str.ofString ".0", PySem.NameKind.local), (PySem.Str.ofString "_law_line", PySem.NameKind.local), (PySem.Str.ofString "_law_k", PySem.NameKind.cell), (PySem.Str.ofString "_law_more", PySem.NameKind.cell)], isGenerator := false, isCoroutine := false, more := [] : PySem.Scope })) (own := [("_law_price", 8)]) (by decide +kernel)) (fun _ _ _ _ _ => (pg_name (i := 8) sc_L_raised.nd rfl (by first | exact Or.inl rfl | exact Or.inr rfl))) (fun _ _ _ _ _ => pts_nil) (fun _ _ _ _ _ => (pe_op op_add (pv 8) (pe_ix (ix_seqK (K := K)) (pv 1) (pv 7) (fun _ _ => rfl))))))) pa_nil)))))
      (pss_one (ps_ret (pe_lst (pa_cons (pv 2) (pa_cons (pe_lc (own := [("_law_price", 8)]) (g := gName 8) (tt := tYes) rfl sc_L_raised.nd (pi_listK (K := K) (pv 3)) (blkOk_by (N := N_L_raised) (sc := defScope s_L_raised) (own := [("_law_price", 8)]) (by decide +kernel)) (fun _ _ _ _ _ => (pg_name (i := 8) sc_L_raised.nd rfl (by first | exact Or.inl rfl | exact Or.inr rfl))) (fun _ _ _ _ _ => pts_nil) (fun _ _ _ _ _ => (pe_op op_add (pv 8) (pe_ix (ix_seqK (K := K)) (pv 1) (pe_un un_neg pe_int) (fun _ _ => rfl))))) (pa_cons (pv 6) (pa_cons (pe_lc (own := [("_law_price", 8)]) (g := gName 8) (tt := tYes) rfl sc_L_raised.nd (pi_listK (K := K) (pv 5)) (blkOk_by (N := N_L_raised) (sc := defScope s_L_raised) (own := [("_law_price", 8)]) (by decide +kernel)) (fun _ _ _ _ _ => (pg_name (i := 8) sc_L_raised.nd rfl (by first | exact Or.inl rfl | exact Or.inr rfl))) (fun _ _ _ _ _ => pts_nil) (fun _ _ _ _ _ => (pe_op op_sub (pv 8) (pe_ix (ix_seqK (K := K)) (pv 1) (pe_un un_neg pe_int) (fun _ _ => rfl))))) pa_nil)))))))))), ?_⟩
    obtain ⟨a, vb, vc, ve, rfl, hq, hb, hc, he⟩ := hd
    have hpos := wf.pos
    have hle := wf.le
    have hA3 : d.asks.cps.size ≤ 3 := (asks_len wf.asks).2
    refine ⟨_, rfl, a, _, rfl, mk_same.seq hq, rfl, _, _, rfl, _, _, rfl, _, _, rfl, _, _, rfl, rfl, ?_⟩
    refine ⟨Nat.zero_le _, fun D nD => ?_⟩
    have sD : Same H (upd H D (.lst [])) := same_upd nD
    have ms0 : ∀ {H'}, Same H H' → Same (mk M H) H' := fun s => (mk_same (M := M)).trans s
    refine ⟨_, rfl, d.asks, rfl, le_ok (show d.asks.cps.size ≤ 16000000 by omega), ((d.asks.cps.size : Nat) : Int), rfl, by omega, by omega, ?_⟩
    refine for_range (lo := 0) (n := d.asks.cps.size) (fun i σ H' => ∃ (x7 x8 x9 : Option V) (acc : List V) (cs : List Tab), σ = [some (.ref a), some vm, some (.str d.asks), some vb, some vc, some ve, some (.ref D), x7, x8, x9] ∧ Same H H' ∧ H' D = some (.lst acc) ∧ cs.length = i ∧ (∀ t ∈ cs, Sq d.begins.length t) ∧ Paired (dLst K (dLst K dInt) (mk (D :: M) H')) acc cs)
      ⟨none, none, none, [], [], rfl, sD, upd_same, rfl, fun l h => absurd h List.not_mem_nil, .nil⟩ ?_ ?_
    · rintro i σ H1 hi ⟨x7, x8, x9, acc, cs, rfl, s1, hD, hl, hP, pA⟩
      rw [Int.zero_add]
      have la := Paired.length pA
      have dom1 : ∀ p ∈ D :: M, H1 p ≠ none := dom_cons (dom_same hM s1) hD
      have hic : i < d.costs.length := by rw [wf.cl]; exact hi
      have sqi := wf.sq _ (List.mem_of_getElem? (getD_some hic []))
      refine ⟨_, rfl, ty_lst hD, _, rfl, _, rfl, ixs_of (ms0 s1) (seq_lst hc) (j := i) rfl (getD_some hic []) fun u hu => ?_⟩
      obtain ⟨b, us, rfl, hqb, pb⟩ := hu
      have lb : us.length = d.begins.length := by rw [Paired.length pb]; exact sqi.1
      have pb1 : Paired (dLst K dInt (mk (D :: M) H1)) us (d.costs.getD i []) := Paired.mono (fun _ _ => mL1 _ _ _ _ (mk_new2 (mk_mono s1) nD)) pb
      refine ⟨b, us, rfl, .inl ⟨(ms0 s1).seq hqb, fun D2 nD2 => ?_⟩⟩
      refine lc_map (j := 9) (M := D :: M) walk_list (S := dLst K dInt) (R := dLst K dInt) (fun l => l.map fun x => x + mo.getD i 0) mL1 mL1 pb1 nD2 dom1 (by omega) (fun H2 s2 => (ms0 (s1.trans s2)).seq hqb) (fun x l H2 hlm s2 m2 hx hM2 Q2 q2 => ?_) (fun H2 s2 ⟨ys, h2, p2⟩ => ?_)
      · obtain ⟨e, zs, rfl, hqe, pe⟩ := hx
        have le := Paired.length pe
        have hll := sqi.2 l hlm
        refine ⟨_, rfl, e, rfl, ⟨_, mk_same.seq hqe⟩, fun D3 nD3 => ?_⟩
        refine lc_map (j := 8) (M := D2 :: D :: M) walk_list (S := dInt) (R := dInt) (fun x => x + mo.getD i 0) dInt_mono dInt_mono pe nD3 hM2 (by omega) (fun H3 s3 => s3.seq (mk_same.seq hqe)) (fun u x H3 hx s3 m3 hu hM3 Q3 q3 => ?_) (fun H3 s3 ⟨ys, h3, p3⟩ => ?_)
        · cases (show u = .int x from hu)
          refine ⟨_, rfl, _, rfl, _, rfl, ixs_of (ms0 (s1.trans (s2.trans s3))) (seq_lst hmo) (j := i) rfl (getD_some (by omega) 0) fun u2 hu2 => ?_⟩
          cases (show u2 = .int (mo.getD i 0) from hu2)
          exact ⟨_, _, rfl, rfl, q3 _ _ (Same.refl _) rfl⟩
        · exact q2 _ _ s3 (lst_at h3 (notin_of hM2 nD3) p3)
      · have hD2 := s2 _ _ hD
        refine ⟨_, _, _, rfl, rfl, hD2, len_ok (by omega), ?_⟩
        refine ⟨_, _, _, acc ++ [.ref D2], cs ++ [(d.costs.getD i []).map fun l => l.map fun x => x + mo.getD i 0], rfl, same_upd2 (s1.trans s2) nD, upd_same, by simp [hl], fun u hu => ?_, ?_⟩
        · rcases List.mem_append.mp hu with e | e
          · exact hP u e
          · rw [List.mem_singleton] at e
            subst e
            refine ⟨by rw [List.length_map]; exact sqi.1, fun l hlm => ?_⟩
            obtain ⟨l', hl', rfl⟩ := List.mem_map.mp hlm
            rw [List.length_map]
            exact sqi.2 l' hl'
        · rw [mk_upd_in (by simp)]
          exact Paired.snoc (Paired.mono (fun _ _ => mL2 _ _ _ _ (mk_mono s2)) pA) (lst_at h2 (notin_of dom1 nD2) p2)
    · rintro σ H1 ⟨x7, x8, x9, acc, cs, rfl, s1, hD, hl, hP, pA⟩
      have dom1 : ∀ p ∈ D :: M, H1 p ≠ none := dom_cons (dom_same hM s1) hD
      obtain ⟨b, us, rfl, hqb, pb⟩ := hb
      have lb := Paired.length pb
      have pb1 : Paired (dInt (mk (D :: M) H1)) us d.begins := Paired.mono (fun _ _ => dInt_mono _ _ _ _ (mk_new2 (mk_mono s1) nD)) pb
      refine ⟨_, rfl, _, rfl, b, rfl, ⟨_, (ms0 s1).seq hqb⟩, fun D2 nD2 => ?_⟩
      refine lc_map (j := 8) (M := D :: M) walk_list (S := dInt) (R := dInt) (fun x => x + mo.getD (mo.length - 1) 0) dInt_mono dInt_mono pb1 nD2 dom1 (by omega) (fun H2 s2 => (ms0 (s1.trans s2)).seq hqb) (fun u x H2 hx s2 m2 hu hM2 Q2 q2 => ?_) (fun H2 s2 ⟨ys, h2, p2⟩ => ?_)
      · cases (show u = .int x from hu)
        refine ⟨_, rfl, _, rfl, _, rfl, ixsN_of (ms0 (s1.trans s2)) hmo (ixN_neg (k := 1) (by decide) (by omega)) (getD_some (by omega) 0) fun u2 hu2 => ?_⟩
        cases (show u2 = .int (mo.getD (mo.length - 1) 0) from hu2)
        exact ⟨_, _, rfl, rfl, q2 _ _ (Same.refl _) rfl⟩
      · obtain ⟨e, zs, rfl, hqe, pe⟩ := he
        cases ints_of p2
        have le := Paired.length pe
        have hD2M := notin_of dom1 nD2
        have dom2 : ∀ p ∈ D2 :: D :: M, H2 p ≠ none := dom_cons (dom_same dom1 s2) h2
        have pe2 : Paired (dInt (mk (D2 :: D :: M) H2)) zs d.ends := Paired.mono (fun _ _ h => h) pe
        have hel := wf.el
        refine ⟨_, rfl, _, rfl, e, rfl, ⟨_, (ms0 (s1.trans s2)).seq hqe⟩, fun D3 nD3 => ?_⟩
        refine lc_map (j := 8) (M := D2 :: D :: M) walk_list (S := dInt) (R := dInt) (fun x => x - mo.getD (mo.length - 2) 0) dInt_mono dInt_mono pe2 nD3 dom2 (by omega) (fun H3 s3 => (ms0 (s1.trans (s2.trans s3))).seq hqe) (fun u x H3 hx s3 m3 hu hM3 Q3 q3 => ?_) (fun H3 s3 ⟨ys, h3, p3⟩ => ?_)
        · cases (show u = .int x from hu)
          refine ⟨_, rfl, _, rfl, _, rfl, ixsN_of (ms0 (s1.trans (s2.trans s3))) hmo (ixN_neg (k := 2) (by decide) (by omega)) (getD_some (by omega) 0) fun u2 hu2 => ?_⟩
          cases (show u2 = .int (mo.getD (mo.length - 2) 0) from hu2)
          exact ⟨_, _, rfl, rfl, q3 _ _ (Same.refl _) rfl⟩
        · cases ints_of p3
          have hD3M := notin_of dom2 nD3
          refine ⟨by show 4 ≤ sizeLine; decide, fun W nW => ?_⟩
          have sW : Same H3 (upd H3 W (.lst [.str d.asks, .ref D2, .ref D, .ref D3])) := same_upd nW
          have hM3 := dom_same hM (s1.trans (s2.trans s3))
          refine q ⟨d.asks, d.begins.map fun x => x + mo.getD (mo.length - 1) 0, cs, d.ends.map fun x => x - mo.getD (mo.length - 2) 0⟩ _ _ ⟨wf.asks, by simpa using hpos, by simpa using hle, hl, fun t ht => by show Sq (List.map _ d.begins).length t; rw [List.length_map]; exact hP t ht, by simpa using hel⟩ rfl (s1.trans (s2.trans (s3.trans sW)))
            ⟨W, .ref D2, .ref D, .ref D3, rfl, .inl (.inl ?_), lst_at (sW _ _ (s3 _ _ h2)) (fun z => hD2M (List.mem_cons_of_mem _ z)) (of_ints _), lst_at (sW _ _ (s3 _ _ (s2 _ _ hD))) (notin_of hM nD) (Paired.mono (fun _ _ => mL2 _ _ _ _ ((mk_sub fun a ha => List.mem_cons_of_mem _ ha).trans (mk_mono (s2.trans (s3.trans sW))))) pA), lst_at (sW _ _ h3) (fun z => hD3M (by simp [z])) (of_ints _)⟩
          rw [mk_out (notin_of hM3 nW)]; exact upd_same
def sp_L_moved (K : PySem.W.Frag) : Sp := fun vs H Q _ => ∃ (M : List Addr) (s : Addr) (v : V) (d : Wd), vs = [.ref s, v] ∧ Msk M s H ∧ Wf d ∧ dWorld K (mk M H) v d ∧ ∀ (d' : Wd) v' H', Wf d' → d'.asks = d.asks → OffS s H H' → dWorld K (mk M H') v' d' → Q v' H'
theorem fn_L_moved (c : Env K mg cSt cSg cMa cVe cRl) : Fn P w K mg base "_law_moved" 2 P_L_moved (sp_L_moved K) := by
  refine fn_ok c.d_L_moved sc_L_moved (fun _ _ _ _ _ _ us hl => match us, hl with | [_, _], _ => rfl) (fun vs H Q E h => ?_) (fun f cdv A outer s H vs Q E hr h => ?_)
  · obtain ⟨M, s, v, d, rfl, ms, wf, hd, q⟩ := h
    rfl
  · obtain ⟨M, s, v, d, rfl, ms, wf, hd, q⟩ := h
    refine ⟨_, (pss_cons (ps_if (pt_cmpR op_eq (pe_fn (fn_L_draw c) (hr.mono (by decide)) rfl (pa_cons (pv 0) (pa_cons pe_int pa_nil))) pe_int (nomark _))
        (pss_one (ps_ret (pv 1)))
        pss_nil)
      (pss_cons (ps_setLc (i := 2) (own := [("_law_k", 3)]) (g := gName 3) (tt := tYes) rfl sc_L_moved.nd rfl rfl (sw_true rfl rfl rfl (by decide +kernel)) (pi_range1 rfl c.b_range (pa_cons (pe_op op_add (pe_callB call_len_str (by rfl) c.b_len (by decide +kernel) (pa_cons (pe_ix (ix_seqK (K := K)) (pv 1) pe_int (fun _ _ => rfl)) pa_nil)) pe_int) pa_nil)) (blkOk_by (N := N_L_moved) (sc := defScope s_L_moved) (own := [("_law_k", 3)]) (by decide +kernel)) (fun _ _ _ _ _ => (pg_name (i := 3) sc_L_moved.nd rfl (by first | exact Or.inl rfl | exact Or.inr rfl))) (fun _ _ _ _ _ => pts_nil) (fun _ _ _ _ _ => (pe_op op_sub (pe_fn (fn_L_draw c) (hr.mono (by decide)) rfl (pa_cons (pv 0) (pa_cons pe_int pa_nil))) pe_int)))
      (pss_cutW (ps_if (pt_cmpR op_eq (pe_fn (fn_L_draw c) (hr.mono (by decide)) rfl (pa_cons (pv 0) (pa_cons pe_int pa_nil))) pe_int (nomark _))
        (pss_one (ps_setLc (i := 2) (own := [("_law_number", 4)]) (g := gName 4) (tt := tYes) rfl sc_L_moved.nd rfl rfl (sw_true rfl rfl rfl (by decide +kernel)) (pi_seqK (K := K) (pv 2)) (blkOk_by (N := N_L_moved) (sc := defScope s_L_moved) (own := [("_law_number", 4)]) (by decide +kernel)) (fun _ _ _ _ _ => (pg_name (i := 4) sc_L_moved.nd rfl (by first | exact Or.inl rfl | exact Or.inr rfl))) (fun _ _ _ _ _ => pts_nil) (fun _ _ _ _ _ => (pe_op op_mul (pv 4) (pe_op op_pow pe_int pe_int)))))
        pss_nil)
      (pss_one (ps_ret (pe_fn (fn_L_raised c) (hr.mono (by decide)) rfl (pa_cons (pv 1) (pa_cons (pv 2) pa_nil)))))))), ?_⟩
    have hA3 : d.asks.cps.size ≤ 3 := (asks_len wf.asks).2
    refine ⟨_, rfl, s, 3, rfl, by decide, by decide, ms.src, fun d0 H1 hd0 o1 => ?_⟩
    refine ⟨rfl, _, rfl, iteAny (fun _ => ?_) (fun _ => ?_)⟩
    · exact ⟨_, rfl, q d _ _ wf rfl o1 (dWorld_mono _ _ _ _ (o1.mono ms.mem) hd)⟩
    have ms1 := ms.next o1
    have hd1 := dWorld_mono _ _ _ _ (o1.mono ms.mem) hd
    obtain ⟨a, vb, vc, ve, rfl, hq, hb, hc, he⟩ := id hd1
    refine ⟨_, rfl, ixq mk_same hq (j := 0) rfl rfl ?_⟩
    refine ⟨d.asks, rfl, le_ok (show d.asks.cps.size ≤ 16000000 by omega), ?_⟩
    refine ⟨_, _, rfl, rfl, (((d.asks.cps.size + 2 : Nat)) : Int), rfl, by omega, by omega, fun D nD => ?_⟩
    refine lc_draw (n := d.asks.cps.size + 2) (s := s) (M := M) (R := dInt) (fun _ => True) dInt_mono ms1.src ms1.mem nD ms1.dom (by omega) (fun i H2 hi o2 hM2 Q2 q2 => ?_) (fun H2 xs ys o2 hxl _ hD2 p2 => ?_)
    · exact ⟨_, rfl, s, 9, rfl, by decide, by decide, o2.src, fun d3 H3 hd3 o3 => ⟨_, _, rfl, rfl, q2 _ _ _ trivial o3 rfl⟩⟩
    have o12 := o1.trans o2
    have hxs := lst_at (K := K) (R := dInt) hD2 (notin_of ms1.dom nD) p2
    refine ⟨fun σ' H' => ∃ (x3 x4 : Option V) (mo : List Int) (vm : V), σ' = [some (.ref s), some (.ref a), some vm, x3, x4] ∧ OffS s H2 H' ∧ mo.length = d.asks.cps.size + 2 ∧ dLst K dInt (mk M H') vm mo, ?_, ?_⟩
    · refine ⟨_, rfl, s, 8, rfl, by decide, by decide, o2.src, fun d4 H4 hd4 o4 => ⟨rfl, _, rfl, iteAny (fun _ => ?_) (fun _ => ?_)⟩⟩
      · have ms4 := ms.next (o12.trans o4)
        obtain ⟨b, us, e, hqb, pb⟩ := mL1 _ _ _ _ (o4.mono ms.mem) hxs
        cases e
        have lb := Paired.length pb
        refine ⟨_, rfl, D, us, rfl, .inl ⟨mk_same.seq hqb, fun D5 nD5 => ?_⟩⟩
        refine lc_map (j := 4) (M := M) walk_list (S := dInt) (R := dInt) (fun x => x * 10 ^ 15) dInt_mono dInt_mono pb nD5 ms4.dom (by omega) (fun H5 s5 => s5.seq (mk_same.seq hqb)) (fun u x H5 hx s5 m5 hu hM5 Q5 q5 => ?_) (fun H5 s5 ⟨ys, h5, p5⟩ => ?_)
        · cases (show u = .int x from hu)
          refine ⟨_, rfl, _, _, rfl, rfl, ⟨by decide, by decide, by decide⟩, ⟨_, _, rfl, rfl, .inr ⟨by decide, by decide⟩, q5 _ _ (Same.refl _) rfl⟩⟩
        · exact ⟨_, _, xs.map fun x => x * 10 ^ 15, .ref D5, rfl, o4.then s5, by simpa using hxl, lst_at h5 (notin_of ms4.dom nD5) p5⟩
      · exact ⟨_, _, xs, .ref D, rfl, o4, hxl, mL1 _ _ _ _ (o4.mono ms.mem) hxs⟩
    · rintro σ' H3 ⟨x3, x4, mo, vm, rfl, o3, hml, hmo⟩
      have o13 := o12.trans o3
      refine ⟨_, rfl, _, rfl, M, _, vm, d, mo, rfl, (ms.next o13).dom, wf, dWorld_mono _ _ _ _ ((o2.trans o3).mono ms.mem) hd1, hmo, hml, fun d' v' H' wf' e' s' h' => q d' v' H' wf' e' (o13.then s') h'⟩
end
end AW
namespace AW
open PySem PySem.Spec PyProof.Rows L2
theorem LotsOk.wide {n A : Nat} {costs : List Tab} {b0 : List Int} {S S' lots : List (List Int)} {steps : Steps} (h : LotsOk n A costs b0 S lots steps) (hs : ∀ l ∈ lots, l ∈ S') : LotsOk n A costs b0 S' lots steps := ⟨h.nd, hs, h.zero, h.all, h.it, h.sl⟩
section
variable {P : Program} {w : World} {K : PySem.W.Frag} {mg : Str → Option Value} {base : Heap} {cSt cSg cMa cVe cRl : Addr}
/-- the state of the while -/
structure SL (P : Program) (w : World) (K : PySem.W.Frag) (H0 H : Hp) (M : List Addr) (L Rw Dp St : Addr) (vsL vsS : List V) (zs : List Str) (lots : List (List Int)) (steps : Steps) : Prop where
  same : Same H0 H
  l : H L = some (.lst vsL)
  pl : Paired (dTup K dInt (mk (L :: Rw :: Dp :: St :: M) H)) vsL lots
  r : H Rw = some (.lst (zs.map V.str))
  zl : zs.length = lots.length
  zb : ∀ (i : Nat) (z : Str), zs[i]? = some z → z.length ≤ i
  dp : ND P w K H Dp (kvsI (lots.map lotKey))
  s : H St = some (.lst vsS)
  ps : Paired (dLst K (dPair K dNat dInt) (mk (L :: Rw :: Dp :: St :: M) H)) vsS steps
section
variable {H0 H : Hp} {M : List Addr} {L Rw Dp St : Addr} {vsL vsS : List V} {zs : List Str} {lots : List (List Int)} {steps : Steps}
theorem sl_dom (sw : SL P w K H0 H M L Rw Dp St vsL vsS zs lots steps) (hM : ∀ a ∈ M, H a ≠ none) : ∀ a ∈ L :: Rw :: Dp :: St :: M, H a ≠ none := fun a ha e => by
  obtain ⟨φ, hφ⟩ := sw.dp.mut
  simp at ha
  rcases ha with h | h | h | h | h
  · subst h; rw [sw.l] at e; cases e
  · subst h; rw [sw.r] at e; cases e
  · subst h; rw [hφ] at e; cases e
  · subst h; rw [sw.s] at e; cases e
  · exact hM a h e
theorem sl_mono (sw : SL P w K H0 H M L Rw Dp St vsL vsS zs lots steps) {H' : Hp} (s : Same H H') : SL P w K H0 H' M L Rw Dp St vsL vsS zs lots steps := by
  obtain ⟨φ, hφ⟩ := sw.dp.mut
  exact ⟨sw.same.trans s, s _ _ sw.l, Paired.mono (fun _ _ => mT1 _ _ _ _ (mk_mono s)) sw.pl, s _ _ sw.r, sw.zl, sw.zb, sw.dp.keeps (Tups.of_same s) ((s _ _ hφ).trans hφ.symm), s _ _ sw.s, Paired.mono (fun _ _ => dLst_mono mPair _ _ _ _ (mk_mono s)) sw.ps⟩
theorem sl_mask (sw : SL P w K H0 H M L Rw Dp St vsL vsS zs lots steps) {M' : List Addr} (s : Same (mk (L :: Rw :: Dp :: St :: M) H) (mk (L :: Rw :: Dp :: St :: M') H)) : SL P w K H0 H M' L Rw Dp St vsL vsS zs lots steps :=
  ⟨sw.same, sw.l, Paired.mono (fun _ _ => mT1 _ _ _ _ s) sw.pl, sw.r, sw.zl, sw.zb, sw.dp, sw.s, Paired.mono (fun _ _ => dLst_mono mPair _ _ _ _ s) sw.ps⟩
theorem sl_other (sw : SL P w K H0 H M L Rw Dp St vsL vsS zs lots steps) {It : Addr} {xs : List V} {o : HO} (h : H It = some (.lst xs)) (hm : It ∈ M) (n0 : H0 It = none) (hL : L ≠ It) (hR : Rw ≠ It) (hS : St ≠ It) : SL P w K H0 (upd H It o) M L Rw Dp St vsL vsS zs lots steps := by
  have hD : Dp ≠ It := Ne.symm (ne_lst_nd sw.dp h)
  have e : mk (L :: Rw :: Dp :: St :: M) (upd H It o) = mk (L :: Rw :: Dp :: St :: M) H := mk_upd_in (by simp [hm])
  refine ⟨same_upd2 sw.same n0, by rw [upd_ne hL]; exact sw.l, by rw [e]; exact sw.pl, by rw [upd_ne hR]; exact sw.r, sw.zl, sw.zb, sw.dp.keeps (Tups.mut (mut_lst h)) (upd_ne hD), by rw [upd_ne hS]; exact sw.s, by rw [e]; exact sw.ps⟩
theorem sl_lot (sc : SC H0 L Rw Dp St) (sw : SL P w K H0 H M L Rw Dp St vsL vsS zs lots steps) {ob : HO} {u : V} {l : List Int} {z : Str} (hn : l ∉ lots) (hu : dTup K dInt (mk (L :: Rw :: Dp :: St :: M) H) u l) (hz : z.length ≤ zs.length)
    (nd : ND P w K (upd H Dp ob) Dp (putK (kvsI (lots.map lotKey)) (lotKey l) (.int (lots.length : Int)))) :
    SL P w K H0 (upd (upd (upd H Dp ob) L (.lst (vsL ++ [u]))) Rw (.lst ((zs ++ [z]).map V.str))) M L Rw Dp St (vsL ++ [u]) vsS (zs ++ [z]) (lots ++ [l]) steps := by
  have e : mk (L :: Rw :: Dp :: St :: M) (upd (upd (upd H Dp ob) L (.lst (vsL ++ [u]))) Rw (.lst ((zs ++ [z]).map V.str))) = mk (L :: Rw :: Dp :: St :: M) H := by
    rw [mk_upd_in (by simp), mk_upd_in (by simp), mk_upd_in (by simp)]
  have hl : (lots.map lotKey).length = lots.length := by simp
  rw [← hl, putK_kvsI (fun q => hn (mem_lotKey.mp q)), map_snoc] at nd
  have hL1 : (upd H Dp ob) L = some (.lst vsL) := by rw [upd_ne sc.LD]; exact sw.l
  have hR1 : (upd (upd H Dp ob) L (.lst (vsL ++ [u]))) Rw = some (.lst (zs.map V.str)) := by rw [upd_ne (Ne.symm sc.LR), upd_ne sc.RD]; exact sw.r
  refine ⟨same_upd2 (same_upd2 (same_upd2 sw.same sc.nD) sc.nL) sc.nR, by rw [upd_ne sc.LR, upd_same], by rw [e]; exact Paired.snoc sw.pl hu, upd_same, by simp [sw.zl], fun i y hy => ?_, ?_, ?_, by rw [e]; exact sw.ps⟩
  · by_cases hi : i < zs.length
    · rw [List.getElem?_append_left hi] at hy; exact sw.zb i y hy
    · rw [List.getElem?_append_right (by omega)] at hy
      have := (List.getElem?_eq_some_iff.mp hy).1
      have h0 : i - zs.length = 0 := by simp at this; omega
      rw [h0] at hy
      simp at hy
      subst hy
      omega
  · exact (nd.keeps (Tups.mut (mut_lst hL1)) (upd_ne (Ne.symm sc.LD))).keeps (Tups.mut (mut_lst hR1)) (upd_ne (Ne.symm sc.RD))
  · rw [upd_ne (Ne.symm sc.RS), upd_ne (Ne.symm sc.LS), upd_ne (Ne.symm sc.DS)]; exact sw.s
theorem sl_step (sc : SC H0 L Rw Dp St) (sw : SL P w K H0 H M L Rw Dp St vsL vsS zs lots steps) {u : V} {row : List (Nat × Int)} (hu : dLst K (dPair K dNat dInt) (mk (L :: Rw :: Dp :: St :: M) H) u row) :
    SL P w K H0 (upd H St (.lst (vsS ++ [u]))) M L Rw Dp St vsL (vsS ++ [u]) zs lots (steps ++ [row]) := by
  have e : mk (L :: Rw :: Dp :: St :: M) (upd H St (.lst (vsS ++ [u]))) = mk (L :: Rw :: Dp :: St :: M) H := mk_upd_in (by simp)
  exact ⟨same_upd2 sw.same sc.nS, by rw [upd_ne sc.LS]; exact sw.l, by rw [e]; exact sw.pl, by rw [upd_ne sc.RS]; exact sw.r, sw.zl, sw.zb, sw.dp.keeps (Tups.mut (mut_lst sw.s)) (upd_ne sc.DS), upd_same, by rw [e]; exact Paired.snoc sw.ps hu⟩
end

def sp_L_lots (K : PySem.W.Frag) : Sp := fun vs H Q _ => ∃ (M : List Addr) (H0 : Hp) (v : V) (d : Wd) (most : Nat), vs = [v, .int (most : Int)] ∧ (∀ p ∈ M, H p ≠ none) ∧ Same H0 H ∧ Wf d ∧ dWorld K H0 v d ∧ most ≤ 200 ∧ (∀ H', Same H H' → Q .non H') ∧
  ∀ (x : Sd2) (T L St : Addr) (vr : V) H', StOk d.asks.cps.size d.begins.length d.costs d.begins x.lots x.steps → x.lots.length ≤ most → Same H H' → H' T = some (.lst [.ref L, vr, .ref St]) → dLst K (dTup K dInt) (mk M H') (.ref L) x.lots → dLst K (dLst K (dPair K dNat dInt)) (mk M H') (.ref St) x.steps → Q (.ref T) H'
theorem fn_L_lots (c : Env K mg cSt cSg cMa cVe cRl) : Fn P w K mg base "_law_lots" 2 P_L_lots (sp_L_lots K) := by
  refine fn_ok c.d_L_lots sc_L_lots (fun _ _ _ _ _ _ us hl => match us, hl with | [_, _], _ => rfl) (fun vs H Q E h => ?_) (fun f cdv A outer s H vs Q E hr h => ?_)
  · obtain ⟨M, H0, v, d, most, rfl, hM, s0, wf, hd, hmost, qn, q⟩ := h
    rfl
  · obtain ⟨M, H0, v, d, most, rfl, hM, s0, wf, hd, hmost, qn, q⟩ := h
    refine ⟨_, (pss_cons (ps_set (i := 2) sc_L_lots.nd rfl (Or.inl rfl) (pe_ix (ix_seqK (K := K)) (pv 0) pe_int (fun _ _ => rfl)))
      (pss_cons (ps_set (i := 3) sc_L_lots.nd rfl (Or.inl rfl) (pe_lst (pa_cons (pe_fn (fn_L_low c) (hr.mono (by decide)) rfl (pa_cons (pe_ix (ix_seqK (K := K)) (pv 0) pe_int (fun _ _ => rfl)) pa_nil)) pa_nil)))
      (pss_cons (ps_set (i := 4) sc_L_lots.nd rfl (Or.inl rfl) (pe_lst (pa_cons pe_str pa_nil)))
      (pss_cons (ps_set (i := 5) sc_L_lots.nd rfl (Or.inl rfl) pe_nnew)
      (pss_cons (ps_nput hr.units (pv 5) (pe_ix (ix_seqK (K := K)) (pv 3) pe_int (fun _ _ => rfl)) pe_int rfl)
      (pss_cons (ps_set (i := 6) sc_L_lots.nd rfl (Or.inl rfl) (pe_lst pa_nil))
      (pss_cons (ps_for PassesOwn.never rfl (pi_range1 rfl c.b_range (pa_cons (pe_op op_add (pv 1) pe_int) pa_nil)) (pg_name (i := 7) sc_L_lots.nd rfl (Or.inl rfl))
        (pss_cons (ps_if (pt_cmpR op_eq (pv 7) (pe_callB (call_len_seqK (K := K)) (by rfl) c.b_len (by decide +kernel) (pa_cons (pv 3) pa_nil)) (nomark _))
          (pss_one (ps_ret (pe_lst (pa_cons (pv 3) (pa_cons (pv 4) (pa_cons (pv 6) pa_nil))))))
          pss_nil)
        (pss_cons (ps_set (i := 8) sc_L_lots.nd rfl (Or.inl rfl) (pe_lst pa_nil))
        (pss_cons (ps_for PassesOwn.never rfl (pi_range1 rfl c.b_range (pa_cons (pe_callB call_len_str (by rfl) c.b_len (by decide +kernel) (pa_cons (pv 2) pa_nil)) pa_nil)) (pg_name (i := 9) sc_L_lots.nd rfl (Or.inl rfl))
          (pss_cons (ps_set (i := 10) sc_L_lots.nd rfl (Or.inl rfl) (pe_fn (fn_L_led c) (hr.mono (by decide)) rfl (pa_cons (pe_ix (ix_seqK (K := K)) (pv 3) (pv 7) (fun _ _ => rfl)) (pa_cons (pe_ix (ix_seqK (K := K)) (pe_ix (ix_seqK (K := K)) (pv 0) pe_int (fun _ _ => rfl)) (pv 9) (fun _ _ => rfl)) pa_nil))))
          (pss_cons (ps_set (i := 11) sc_L_lots.nd rfl (Or.inl rfl) (pe_fn (fn_L_low c) (hr.mono (by decide)) rfl (pa_cons (pv 10) pa_nil)))
          (pss_cutW (ps_if (pt_cmp (pc_nnotin hr.units (pv 11) (pv 5)))
            (pss_cons (ps_nput hr.units (pv 5) (pv 11) (pe_callB (call_len_seqK (K := K)) (by rfl) c.b_len (by decide +kernel) (pa_cons (pv 3) pa_nil)) rfl)
            (pss_cons (ps_expr (pe_bm PySem.F.plainAttrs_list PySem.F.slot_list_append PySem.F.type_list_append mt_append (pv 3) (pa_cons (pv 11) pa_nil)))
            (pss_one (ps_expr (pe_bm PySem.F.plainAttrs_list PySem.F.slot_list_append PySem.F.type_list_append mt_append (pv 4) (pa_cons (pe_op op_add_str (pe_ix (ix_seqK (K := K)) (pv 4) (pv 7) (fun _ _ => rfl)) (pe_ix (ix_seqK (K := K)) (pv 2) (pv 9) (fun _ _ => rfl))) pa_nil))))))
            pss_nil)
          (pss_one (ps_expr (pe_bm PySem.F.plainAttrs_list PySem.F.slot_list_append PySem.F.type_list_append mt_append (pv 8) (pa_cons (pe_tup (pa_cons (pe_nget hr.units (pv 5) (pv 11) (fun _ _ => rfl)) (pa_cons (pe_callB (cr_minSK (K := K) rfl) (by rfl) c.b_min (by decide +kernel) (pa_cons (pv 10) pa_nil)) pa_nil))) pa_nil))))))))
        (pss_one (ps_expr (pe_bm PySem.F.plainAttrs_list PySem.F.slot_list_append PySem.F.type_list_append mt_append (pv 6) (pa_cons (pv 8) pa_nil))))))))
      (pss_one (ps_ret pe_non))))))))), ?_⟩
    obtain ⟨a, vb, vc, ve, rfl, hq, hb, hc, he⟩ := hd
    have hpos := wf.pos
    have hle := wf.le
    have hA3 : d.asks.cps.size ≤ 3 := (asks_len wf.asks).2
    have hbne : d.begins ≠ [] := List.length_pos_iff.mp hpos
    refine ⟨_, rfl, ixq s0 hq (j := 0) rfl rfl ?_⟩
    refine ⟨_, rfl, ixq s0 hq (j := 1) rfl rfl ?_⟩
    refine ⟨vb, d.begins, rfl, mS1 _ _ _ _ s0 (seq_lst hb), hbne, hle, fun q1 H1 s1 nq1 hq1 => ?_⟩
    refine ⟨by show 1 ≤ sizeLine; decide, fun L nL => ?_⟩
    refine ⟨by show 1 ≤ sizeLine; decide, fun Rw nRw => ?_⟩
    have hLR : L ≠ Rw := fun e => by rw [← e, upd_same] at nRw; cases nRw
    have sL : Same H1 (upd H1 L (.lst [.ref q1])) := same_upd nL
    have sR := same_upd (o := .lst [.str ""]) nRw
    intro Dp ob nDp nd0
    have sD : Same (upd (upd H1 L (.lst [.ref q1])) Rw (.lst [.str ""])) (upd (upd (upd H1 L (.lst [.ref q1])) Rw (.lst [.str ""])) Dp ob) := same_upd nDp
    have hLv : (upd (upd (upd H1 L (.lst [.ref q1])) Rw (.lst [.str ""])) Dp ob) L = some (.lst [.ref q1]) := sD _ _ (sR _ _ upd_same)
    have hqv : (upd (upd (upd H1 L (.lst [.ref q1])) Rw (.lst [.str ""])) Dp ob) q1 = some (.tup ((low d.begins).map V.int)) := sD _ _ (sR _ _ (sL _ _ hq1))
    refine ⟨_, rfl, _, rfl, ixL_of hLv (j := 0) rfl rfl ?_⟩
    refine ⟨Dp, q1, _, lotKey (low d.begins), rfl, rfl, nd0, nk_lot (.inl (.inl hqv)), lotKey_depth _, len_ok (by decide), fun ob2 nd1 => ?_⟩
    have hDL : Dp ≠ L := fun e => by rw [e] at nDp; rw [upd_ne hLR, upd_same] at nDp; cases nDp
    have hDR : Dp ≠ Rw := fun e => by rw [e] at nDp; rw [upd_same] at nDp; cases nDp
    have hDq : q1 ≠ Dp := ne_of_none (sR _ _ (sL _ _ hq1)) nDp
    have hLq : q1 ≠ L := ne_of_none hq1 nL
    have hRq : q1 ≠ Rw := ne_of_none (sL _ _ hq1) nRw
    rw [upd_upd] at nd1 ⊢
    refine ⟨Nat.zero_le _, fun St nSt => ?_⟩
    generalize hHw : upd (upd (upd (upd H1 L (.lst [.ref q1])) Rw (.lst [.str ""])) Dp ob2) St (.lst []) = Hw
    have hSD : St ≠ Dp := fun e => by rw [e, upd_same] at nSt; cases nSt
    have hSL : St ≠ L := fun e => by rw [e, upd_ne (Ne.symm hDL), upd_ne hLR, upd_same] at nSt; cases nSt
    have hSR : St ≠ Rw := fun e => by rw [e, upd_ne (Ne.symm hDR), upd_same] at nSt; cases nSt
    have sD2 : Same (upd (upd H1 L (.lst [.ref q1])) Rw (.lst [.str ""])) (upd (upd (upd H1 L (.lst [.ref q1])) Rw (.lst [.str ""])) Dp ob2) := same_upd nDp
    have hSq : q1 ≠ St := ne_of_none (sD2 _ _ (sR _ _ (sL _ _ hq1))) nSt
    have sHw : Same H Hw := by
      rw [← hHw]
      exact s1.trans (sL.trans (sR.trans (sD2.trans (same_upd nSt))))
    have n1 : ∀ {a : Addr}, H1 a = none → H a = none := fun h => s1.free h
    have nL0 : H L = none := n1 nL
    have nR0 : H Rw = none := n1 (sL.free nRw)
    have nD0 : H Dp = none := n1 (sL.free (sR.free nDp))
    have nS0 : H St = none := n1 (sL.free (sR.free (sD2.free nSt)))
    have hqM : q1 ∉ M := notin_of hM nq1
    have hW : ∀ a, a ∈ L :: Rw :: Dp :: St :: M ↔ a = L ∨ a = Rw ∨ a = Dp ∨ a = St ∨ a ∈ M := fun a => by simp
    have sc : SC H L Rw Dp St := ⟨hLR, Ne.symm hDL, Ne.symm hSL, Ne.symm hDR, Ne.symm hSR, Ne.symm hSD, nL0, nR0, nD0, nS0⟩
    have base0 : SL P w K H Hw M L Rw Dp St [.ref q1] [] [""] [low d.begins] [] := by
      refine ⟨sHw, ?_, .cons ⟨q1, _, rfl, .inl (.inl ?_), of_ints _⟩ .nil, ?_, rfl, fun i z hz => ?_, ?_, ?_, .nil⟩
      · rw [← hHw, upd_ne (Ne.symm hSL), upd_ne (Ne.symm hDL), upd_ne hLR, upd_same]
      · rw [mk_out (by rw [hW]; simp [hLq, hRq, hDq, hSq, hqM]), ← hHw, upd_ne hSq, upd_ne hDq, upd_ne hRq, upd_ne hLq, hq1]
      · rw [← hHw, upd_ne (Ne.symm hSR), upd_ne (Ne.symm hDR), upd_same]; rfl
      · cases i with
        | zero => simp at hz; subst hz; exact Nat.le_refl _
        | succ i => simp at hz
      · rw [← hHw]
        exact nd1.keeps (Tups.of_same (same_upd nSt)) (by rw [upd_ne (Ne.symm hSD)])
      · rw [← hHw, upd_same]
    have lots0 : LotsOk d.begins.length d.asks.cps.size d.costs d.begins [low d.begins] [low d.begins] [] :=
      ⟨by simp, fun l hl => hl, rfl, fun l hl => by simp at hl; subst hl; exact low_len _, fun i r hr => by simp at hr, by simp⟩
    refine ⟨_, rfl, _, _, rfl, rfl, ((most + 1 : Nat) : Int), rfl, by omega, by omega, ?_⟩
    refine for_range (lo := 0) (n := most + 1) (fun p σ H' => ∃ (vsL vsS : List V) (zs : List Str) (lots : List (List Int)) (steps : Steps) (x7 x8 x9 x10 x11 : Option V), steps.length = p ∧ lots.length ≤ 1 + 3 * p ∧ σ = [some (.ref a), some (.int (most : Int)), some (.str d.asks), some (.ref L), some (.ref Rw), some (.ref Dp), some (.ref St), x7, x8, x9, x10, x11] ∧
        SL P w K H H' M L Rw Dp St vsL vsS zs lots steps ∧ LotsOk d.begins.length d.asks.cps.size d.costs d.begins lots lots steps)
      ⟨_, _, _, _, _, none, none, none, none, none, rfl, by show 1 ≤ 1 + 3 * 0; decide, rfl, base0, lots0⟩ ?_ ?_
    · rintro p σ H2 hp ⟨vsL, vsS, zs, lots, steps, x7, x8, x9, x10, x11, hsp, hll, rfl, sw, lo⟩
      rw [Int.zero_add]
      subst hsp
      have lenL := Paired.length sw.pl
      have lenS := Paired.length sw.ps
      have hsl := lo.sl
      have hM2 := dom_same hM sw.same
      refine ⟨_, rfl, _, rfl, lenL_of sw.l ⟨rfl, _, rfl, iteAny (fun hb => ?_) (fun hb => ?_)⟩⟩
      · have heq : steps.length = lots.length := by
          have h := of_decide_eq_true hb
          injection h with h
          omega
        refine ⟨_, rfl, _, rfl, _, rfl, by show 3 ≤ sizeLine; decide, fun T nT => ?_⟩
        have sT : Same H2 (upd H2 T (.lst [.ref L, .ref Rw, .ref St])) := same_upd nT
        have sub : Same (mk (L :: Rw :: Dp :: St :: M) H2) (mk M (upd H2 T (.lst [.ref L, .ref Rw, .ref St]))) := (mk_sub fun a ha => by simp [ha]).trans (mk_mono sT)
        exact q ⟨lots, steps⟩ T L St _ _ (lo.done heq) (by show lots.length ≤ most; omega) (sw.same.trans sT) upd_same (lst_at (sT _ _ sw.l) (notin_of hM nL0) (Paired.mono (fun _ _ => mT1 _ _ _ _ sub) sw.pl)) (lst_at (sT _ _ sw.s) (notin_of hM nS0) (Paired.mono (fun _ _ => dLst_mono mPair _ _ _ _ sub) sw.ps))
      have hlt : steps.length < lots.length := by
        have h := of_decide_eq_false hb
        have : steps.length ≠ lots.length := fun e => h (by rw [e, lenL])
        omega
      obtain ⟨z, hz⟩ : ∃ z, zs[steps.length]? = some z := ⟨zs[steps.length]'(by rw [sw.zl]; exact hlt), List.getElem?_eq_getElem (by rw [sw.zl]; exact hlt)⟩
      generalize hlot' : lots.getD steps.length [] = lot
      refine ⟨Nat.zero_le _, fun It nIt => ?_⟩
      have sIt : Same H2 (upd H2 It (.lst [])) := same_upd nIt
      have iL : L ≠ It := ne_of_none sw.l nIt
      have iR : Rw ≠ It := ne_of_none sw.r nIt
      have iS : St ≠ It := ne_of_none sw.s nIt
      have n0 : H It = none := sw.same.free nIt
      have iM : It ∉ M := notin_of hM2 nIt
      have swI : SL P w K H (upd H2 It (.lst [])) (It :: M) L Rw Dp St vsL vsS zs lots steps := by
        have e : Same (mk (L :: Rw :: Dp :: St :: M) H2) (mk (L :: Rw :: Dp :: St :: It :: M) (upd H2 It (.lst []))) := mk_grow nIt fun a ha => by
          simp at ha ⊢
          rcases ha with h | h | h | h | h | h <;> simp [h]
        have s0 := sl_mono sw sIt
        exact ⟨s0.same, s0.l, Paired.mono (fun _ _ => mT1 _ _ _ _ e) sw.pl, s0.r, s0.zl, s0.zb, s0.dp, s0.s, Paired.mono (fun _ _ => dLst_mono mPair _ _ _ _ e) sw.ps⟩
      refine ⟨_, rfl, d.asks, rfl, le_ok (show d.asks.cps.size ≤ 16000000 by omega), ((d.asks.cps.size : Nat) : Int), rfl, by omega, by omega, ?_⟩
      refine for_range (lo := 0) (n := d.asks.cps.size) (fun i σ H' => ∃ (vsL : List V) (zs : List Str) (lots : List (List Int)) (vsI : List V) (item : List (Nat × Int)) (x9 x10 x11 : Option V), σ = [some (.ref a), some (.int (most : Int)), some (.str d.asks), some (.ref L), some (.ref Rw), some (.ref Dp), some (.ref St), some (.int (steps.length : Int)), some (.ref It), x9, x10, x11] ∧
          lots.length ≤ 1 + 3 * steps.length + i ∧ zs[steps.length]? = some z ∧ SL P w K H H' (It :: M) L Rw Dp St vsL vsS zs lots steps ∧ LotsOk d.begins.length d.asks.cps.size d.costs d.begins lots lots steps ∧ steps.length < lots.length ∧ lots.getD steps.length [] = lot ∧
          H' It = some (.lst vsI) ∧ Paired (dPair K dNat dInt (mk (L :: Rw :: Dp :: St :: It :: M) H')) vsI item ∧ item.length = i ∧ (∀ j s, item[j]? = some s → StepOk d.costs lots lot j s))
        ⟨vsL, zs, lots, [], [], x9, x10, x11, rfl, hll, hz, swI, lo, hlt, hlot', upd_same, .nil, rfl, fun j s h => by simp at h⟩ ?_ ?_
      · rintro k σ H3 hk ⟨vsL, zs, lots, vsI, item, x9, x10, x11, rfl, hlk, hz, sw, lo, hlt, hlot', hIt, pI, hil, hok⟩
        rw [Int.zero_add]
        have hkc : k < d.costs.length := by rw [wf.cl]; exact hk
        have s03 := s0.trans sw.same
        obtain ⟨ul, hul, hlot⟩ := pgetR sw.pl (getD_some hlt [])
        rw [hlot'] at hlot
        have hzb := sw.zb _ _ hz
        have hlotlen : lot.length = d.begins.length := by
          rw [← hlot', List.getD_eq_getElem?_getD, List.getElem?_eq_getElem hlt]
          exact lo.all _ (List.getElem_mem hlt)
        have hlne : lot ≠ [] := fun e => by rw [e] at hlotlen; simp at hlotlen; omega
        have hcm := List.mem_of_getElem? (getD_some hkc [])
        have sqk := wf.sq _ hcm
        refine ⟨_, rfl, _, rfl, ixL_of sw.l (j := steps.length) rfl hul ⟨_, rfl, ixq s03 hq (j := 2) rfl rfl ⟨_, rfl, ixs_of s03 (seq_lst hc) (j := k) rfl (getD_some hkc []) fun ut hut => ?_⟩⟩⟩
        refine ⟨ul, ut, lot, d.costs.getD k [], rfl, off mS1 (seq_tup hlot), mS2 _ _ _ _ s03 (lseq2 hut), hlne, by rw [hlotlen]; exact sqk, by omega, fun pl H5 s5 npl hpl => ?_⟩
        refine ⟨_, rfl, .ref pl, led lot (d.costs.getD k []), rfl, seq_lst (dLst_new hpl), led_ne hlne _, by rw [led_len]; omega, fun qq H6 s6 nqq hqq => ?_⟩
        have s46 := s5.trans s6
        have sw6 := sl_mono sw s46
        have hnlen : (low (led lot (d.costs.getD k []))).length = d.begins.length := by rw [low_len, led_len]; exact hlotlen
        have nq3 : H3 qq = none := s5.free nqq
        have dom3 := sl_dom sw (M := It :: M) (dom_cons (dom_same hM sw.same) hIt)
        have hqW : qq ∉ L :: Rw :: Dp :: St :: It :: M := notin_of dom3 nq3
        have huq : dTup K dInt (mk (L :: Rw :: Dp :: St :: It :: M) H6) (.ref qq) (low (led lot (d.costs.getD k []))) := tup_at hqq hqW (of_ints _)
        have nkq : NK K H6 (lotKey (low (led lot (d.costs.getD k [])))) (.ref qq) := nk_lot (.inl (.inl hqq))
        have hpl6 := s6 _ _ hpl
        have pW : pl ∉ L :: Rw :: Dp :: St :: It :: M := notin_of dom3 npl
        have pL : pl ≠ L := fun e => pW (by simp [e])
        have pR : pl ≠ Rw := fun e => pW (by simp [e])
        have pD : pl ≠ Dp := fun e => pW (by simp [e])
        have pIt : pl ≠ It := fun e => pW (by simp [e])
        refine ⟨fun σ' H' => ∃ (vsL : List V) (zs : List Str) (lots : List (List Int)), σ' = [some (.ref a), some (.int (most : Int)), some (.str d.asks), some (.ref L), some (.ref Rw), some (.ref Dp), some (.ref St), some (.int (steps.length : Int)), some (.ref It), some (.int (k : Int)), some (.ref pl), some (.ref qq)] ∧
            lots.length ≤ 1 + 3 * steps.length + (k + 1) ∧ zs[steps.length]? = some z ∧ SL P w K H H' (It :: M) L Rw Dp St vsL vsS zs lots steps ∧ LotsOk d.begins.length d.asks.cps.size d.costs d.begins lots lots steps ∧ steps.length < lots.length ∧ lots.getD steps.length [] = lot ∧
            H' It = some (.lst vsI) ∧ Paired (dPair K dNat dInt (mk (L :: Rw :: Dp :: St :: It :: M) H')) vsI item ∧ (∀ j s, item[j]? = some s → StepOk d.costs lots lot j s) ∧ H' pl = some (.lst ((led lot (d.costs.getD k [])).map V.int)) ∧
            low (led lot (d.costs.getD k [])) ∈ lots ∧ NK K H' (lotKey (low (led lot (d.costs.getD k [])))) (.ref qq), ?_, ?_⟩
        · refine ⟨_, rfl, _, rfl, Dp, qq, _, _, rfl, rfl, sw6.dp, nkq, lotKey_depth _, _, rfl, ?_⟩
          by_cases hin : low (led lot (d.costs.getD k [])) ∈ lots
          · obtain ⟨i, hi⟩ := List.getElem?_of_mem hin
            have hk' : (lots.map lotKey)[i]? = some (lotKey (low (led lot (d.costs.getD k [])))) := by rw [List.getElem?_map, hi]; rfl
            rw [valV_some (nodup_lotKey lo.nd) hk']
            refine iteF ?_
            exact ⟨vsL, zs, lots, rfl, by omega, hz, sw6, lo, hlt, hlot', s46 _ _ hIt, Paired.mono (fun _ _ => mPair _ _ _ _ (mk_mono s46)) pI, hok, hpl6, hin, nkq⟩
          · rw [valV_none (fun q => hin (mem_lotKey.mp q))]
            refine iteT ?_
            have len6 := Paired.length sw6.pl
            have zl6 := sw6.zl
            refine ⟨_, rfl, lenL_of sw6.l ⟨_, rfl, _, rfl, Dp, qq, _, _, rfl, rfl, sw6.dp, nkq, lotKey_depth _, len_ok (by rw [kvsI_len, List.length_map]; omega), fun ob nd7 => ?_⟩⟩
            rw [len6] at nd7
            have hL7 : (upd H6 Dp ob) L = some (.lst vsL) := by rw [upd_ne sc.LD]; exact sw6.l
            have hR7 : (upd (upd H6 Dp ob) L (.lst (vsL ++ [.ref qq]))) Rw = some (.lst (zs.map V.str)) := by rw [upd_ne (Ne.symm sc.LR), upd_ne sc.RD]; exact sw6.r
            have hI6 := s46 _ _ hIt
            have iD' : Dp ≠ It := Ne.symm (ne_lst_nd sw6.dp hI6)
            refine ⟨_, rfl, ty_lst hL7, _, rfl, _, _, _, rfl, rfl, hL7, len_ok (by omega), ?_⟩
            have hcp : d.asks.cps.toList[k]? = some (cp d.asks k) := by
              unfold cp
              rw [Array.getElem?_toList, Array.getD_eq_getD_getElem?, Array.getElem?_eq_getElem hk]
              rfl
            refine ⟨_, rfl, ty_lst hR7, _, rfl, _, rfl, ixL_of hR7 (j := steps.length) rfl (by rw [List.getElem?_map, hz]; rfl) ⟨_, rfl, _, rfl, ixS_of (show d.asks.cps.size ≤ 1000 by omega) (j := k) rfl hcp ⟨z, _, rfl, rfl, le_ok (show z.length + 1 ≤ 16000000 by omega), _, _, _, rfl, rfl, hR7, len_ok (by rw [List.length_map]; omega), ?_⟩⟩⟩
            have eM : mk (L :: Rw :: Dp :: St :: It :: M) (upd (upd (upd H6 Dp ob) L (.lst (vsL ++ [.ref qq]))) Rw (.lst ((zs ++ [z ++ ⟨#[cp d.asks k]⟩]).map V.str))) = mk (L :: Rw :: Dp :: St :: It :: M) H6 := by
              rw [mk_upd_in (by simp), mk_upd_in (by simp), mk_upd_in (by simp)]
            rw [map_snoc V.str]
            refine ⟨vsL ++ [.ref qq], zs ++ [z ++ ⟨#[cp d.asks k]⟩], lots ++ [low (led lot (d.costs.getD k []))], rfl, by rw [List.length_append]; simp; omega, by rw [List.getElem?_append_left (by omega)]; exact hz, sl_lot sc sw6 hin huq ?_ nd7, (lo.wide (S' := lots ++ [low (led lot (d.costs.getD k []))]) fun l hl => List.mem_append_left _ hl).more hin (by simp) hnlen, ?_, ?_, ?_, ?_, stepsOk_ext _ hok, ?_, by simp, ?_⟩
            · have : (z ++ ⟨#[cp d.asks k]⟩ : Str).length = z.length + 1 := by
                show (z.cps ++ #[cp d.asks k]).size = _
                rw [Array.size_append]; rfl
              omega
            · rw [List.length_append]; omega
            · rw [getD_app hlt]; exact hlot'
            · rw [upd_ne (Ne.symm iR), upd_ne (Ne.symm iL), upd_ne (Ne.symm iD')]; exact hI6
            · rw [eM]; exact Paired.mono (fun _ _ => mPair _ _ _ _ (mk_mono s46)) pI
            · rw [upd_ne pR, upd_ne pL, upd_ne pD]; exact hpl6
            · exact ((nkq.mono (Tups.mut (mut_nd sw6.dp))).mono (Tups.mut (mut_lst hL7))).mono (Tups.mut (mut_lst hR7))
        · rintro σ' H7 ⟨vsL, zs, lots, rfl, hlk7, hz7, sw7, lo7, hlt7, hlot7, hIt7, pI7, hok7, hpl7, hin7, nk7⟩
          obtain ⟨i, hi⟩ := List.getElem?_of_mem hin7
          have hk' : (lots.map lotKey)[i]? = some (lotKey (low (led lot (d.costs.getD k [])))) := by rw [List.getElem?_map, hi]; rfl
          have lI7 := Paired.length pI7
          refine ⟨_, rfl, ty_lst hIt7, _, rfl, _, rfl, Dp, qq, _, _, _, rfl, rfl, sw7.dp, nk7, lotKey_depth _, valV_some (nodup_lotKey lo7.nd) hk', _, rfl, min_of (seq_lst (dLst_new hpl7)) (led_ne hlne _) ⟨by show 2 ≤ sizeLine; decide, fun T2 nT2 => ?_⟩⟩
          have sT2 : Same H7 (upd H7 T2 (.tup [.int ((i : Nat) : Int), .int (mn (led lot (d.costs.getD k [])))])) := same_upd nT2
          have hI8 := sT2 _ _ hIt7
          have dom7 := sl_dom sw7 (M := It :: M) (dom_cons (dom_same hM sw7.same) hIt7)
          refine ⟨_, _, _, rfl, rfl, hI8, len_ok (by omega), ?_⟩
          have eM : mk (L :: Rw :: Dp :: St :: It :: M) (upd (upd H7 T2 (.tup [.int ((i : Nat) : Int), .int (mn (led lot (d.costs.getD k [])))])) It (.lst (vsI ++ [.ref T2]))) = mk (L :: Rw :: Dp :: St :: It :: M) (upd H7 T2 (.tup [.int ((i : Nat) : Int), .int (mn (led lot (d.costs.getD k [])))])) := mk_upd_in (by simp)
          refine ⟨vsL, zs, lots, vsI ++ [.ref T2], item ++ [(i, mn (led lot (d.costs.getD k [])))], _, _, _, rfl, hlk7, hz7, sl_other (sl_mono sw7 sT2) hI8 (by simp) n0 iL iR iS, lo7, hlt7, hlot7, upd_same, ?_, ?_, ?_⟩
          · rw [eM]
            refine Paired.snoc (Paired.mono (fun _ _ => mPair _ _ _ _ (mk_mono sT2)) pI7) ⟨T2, _, _, rfl, .inl (.inl ?_), rfl, rfl⟩
            rw [mk_out (notin_of dom7 nT2)]; exact upd_same
          · rw [List.length_append]; simp; omega
          · intro j s hs
            rcases snoc_get hs with ⟨_, h⟩ | ⟨h, e⟩
            · exact hok7 j s h
            · subst e
              subst h
              rw [hil]
              exact ⟨hi, rfl⟩
      · rintro σ H3 ⟨vsL, zs, lots, vsI, item, x9, x10, x11, rfl, hlk, hz, sw, lo, hlt, hlot', hIt, pI, hil, hok⟩
        have lenS := Paired.length sw.ps
        refine ⟨_, rfl, ty_lst sw.s, _, rfl, _, _, _, rfl, rfl, sw.s, len_ok (by omega), ?_⟩
        have hu : dLst K (dPair K dNat dInt) (mk (L :: Rw :: Dp :: St :: M) H3) (.ref It) item := by
          refine ⟨It, vsI, rfl, .inl (.inl ?_), Paired.mono (fun _ _ => mPair _ _ _ _ (mk_sub fun b hb => by
            simp at hb ⊢
            rcases hb with h | h | h | h | h <;> simp [h])) pI⟩
          rw [mk_out (by simp [Ne.symm iL, Ne.symm iR, Ne.symm iS, iM, ne_lst_nd sw.dp hIt]), hIt]
        have fin := sl_step sc (sl_mask (M' := M) sw (mk_sub fun b hb => by
          simp at hb ⊢
          rcases hb with h | h | h | h | h <;> simp [h])) hu
        exact ⟨vsL, vsS ++ [.ref It], zs, lots, steps ++ [item], _, _, _, _, _, by simp, by omega, rfl, fin, (lo.wide (S' := lots) fun l hl => hl).item hlt ⟨hil, by rw [hlot']; exact hok⟩⟩
    · rintro σ H2 ⟨vsL, vsS, zs, lots, steps, x7, x8, x9, x10, x11, hsp, hll, rfl, sw, lo⟩
      exact qn _ sw.same
end
end AW
namespace AW
open PySem PySem.Spec PyProof.Rows L2
def sgnKeyL (s : Nat × List (Nat × Int)) : NestedKey := .tup (.num (s.1 : Int) :: s.2.map pairKey)
theorem sgnKeyL_inj {s t : Nat × List (Nat × Int)} (h : sgnKeyL s = sgnKeyL t) : s = t := by
  unfold sgnKeyL at h
  injection h with h
  injection h with h1 h2
  injection h1 with h1
  exact Prod.ext (by omega) (map_pairKey_inj h2)
theorem sgnKeyL_depth (s : Nat × List (Nat × Int)) : (sgnKeyL s).depth ≤ 8 := by
  have := depthAll_pair s.2
  unfold sgnKeyL
  simp [NestedKey.depth, NestedKey.depthAll]
  omega
theorem nk_sgnL {K : PySem.W.Frag} {H : Hp} {a : Addr} {c : Nat} {vs : List V} {ps : List (Nat × Int)} (h1 : SqT K H a (.int (c : Int) :: vs)) (p : Paired (dPair K dNat dInt H) vs ps) : NK K H (sgnKeyL (c, ps)) (.ref a) :=
  .tup h1 (.cons (.num _) (nk_pairs p))
abbrev dStepsLL (K : PySem.W.Frag) : DR Steps := dLst K (dLst K (dPair K dNat dInt))
theorem mLP {K : PySem.W.Frag} : Mono (dLst K (dPair K dNat dInt)) := dLst_mono mPair
theorem mStepsLL {K : PySem.W.Frag} : Mono (dStepsLL K) := dLst_mono mLP
section
variable {P : Program} {w : World} {K : PySem.W.Frag} {mg : Str → Option Value} {base : Heap} {cSt cSg cMa cVe cRl : Addr}
def sp_L_classes (K : PySem.W.Frag) : Sp := fun vs H Q _ => ∃ (A : Nat) (v : V) (st : Steps), vs = [v] ∧ Valid A st ∧ 0 < st.length ∧ st.length ≤ 1000 ∧ A ≤ 3 ∧ dStepsLL K H v st ∧
  ∀ (cl : List Nat) p H', ClOk A st cl → Same H H' → H p = none → H' p = some (.lst (natV cl)) → Q (.ref p) H'
theorem fn_L_classes (c : Env K mg cSt cSg cMa cVe cRl) : Fn P w K mg base "_law_classes" 1 P_L_classes (sp_L_classes K) := by
  refine fn_ok c.d_L_classes sc_L_classes (fun _ _ _ _ _ _ us hl => match us, hl with | [_], _ => rfl) (fun vs H Q E h => ?_) (fun f cdv A outer s H vs Q E hr h => ?_)
  · obtain ⟨A, v, st, rfl, vld, hpos, hle, hA, hv, q⟩ := h
    rfl
  · obtain ⟨A, v, st, rfl, vld, hpos, hle, hA, hv, q⟩ := h
    refine ⟨_, (pss_cons (ps_set (i := 1) sc_L_classes.nd rfl (Or.inr rfl) (pe_op op_rep (pe_lst (pa_cons pe_int pa_nil)) (pe_callB (call_len_seqK (K := K)) (by rfl) c.b_len (by decide +kernel) (pa_cons (pv 0) pa_nil))))
      (pss_cons (ps_set (i := 2) sc_L_classes.nd rfl (Or.inl rfl) pe_int)
      (pss_cons (ps_for PassesOwn.never rfl (pi_range1 rfl c.b_range (pa_cons (pe_op op_add (pe_callB (call_len_seqK (K := K)) (by rfl) c.b_len (by decide +kernel) (pa_cons (pv 0) pa_nil)) pe_int) pa_nil)) (pg_name (i := 3) sc_L_classes.nd rfl (Or.inl rfl))
        (pss_cons (ps_set (i := 4) sc_L_classes.nd rfl (Or.inl rfl) pe_nnew)
        (pss_cons (ps_set (i := 5) sc_L_classes.nd rfl (Or.inl rfl) (pe_lst pa_nil))
        (pss_cons (ps_for PassesOwn.never rfl (pi_range1 rfl c.b_range (pa_cons (pe_callB (call_len_seqK (K := K)) (by rfl) c.b_len (by decide +kernel) (pa_cons (pv 0) pa_nil)) pa_nil)) (pg_name (i := 6) sc_L_classes.nd rfl (Or.inl rfl))
          (pss_cons (ps_set (i := 7) sc_L_classes.nd rfl (Or.inl rfl) (pe_callTy (call_tuple_ofK (K := K)) (by rfl) c.b_tuple (by decide +kernel) (pa_cons (pe_op op_cat (pe_lst (pa_cons (pe_ix (ix_seqK (K := K)) (pv 1) (pv 6) (fun _ _ => rfl)) pa_nil)) (pe_lc (own := [("_law_step", 8)]) (g := gName 8) (tt := tYes) rfl sc_L_classes.nd (pi_seqK (K := K) (pe_ix (ix_seqK (K := K)) (pv 0) (pv 6) (fun _ _ => rfl))) (blkOk_by (N := N_L_classes) (sc := defScope s_L_classes) (own := [("_law_step", 8)]) (by decide +kernel)) (fun _ _ _ _ _ => (pg_name (i := 8) sc_L_classes.nd rfl (by first | exact Or.inl rfl | exact Or.inr rfl))) (fun _ _ _ _ _ => pts_nil) (fun _ _ _ _ _ => (pe_tup (pa_cons (pe_ix (ix_seqK (K := K)) (pv 1) (pe_ix (ix_seqK (K := K)) (pv 8) pe_int (fun _ _ => rfl)) (fun _ _ => rfl)) (pa_cons (pe_ix (ix_seqK (K := K)) (pv 8) pe_int (fun _ _ => rfl)) pa_nil)))))) pa_nil)))
          (pss_cutW (ps_if (pt_cmp (pc_nnotin hr.units (pv 7) (pv 4)))
            (pss_one (ps_nput hr.units (pv 4) (pv 7) (pe_callB call_len_n (by rfl) c.b_len (by decide +kernel) (pa_cons (pv 4) pa_nil)) rfl))
            pss_nil)
          (pss_one (ps_expr (pe_bm PySem.F.plainAttrs_list PySem.F.slot_list_append PySem.F.type_list_append mt_append (pv 5) (pa_cons (pe_nget hr.units (pv 4) (pv 7) (fun _ _ => rfl)) pa_nil)))))))
        (pss_cons (ps_if (pt_cmpR op_eq (pe_callB call_len_n (by rfl) c.b_len (by decide +kernel) (pa_cons (pv 4) pa_nil)) (pv 2) (nomark _))
          (pss_one (ps_ret (pv 5)))
          pss_nil)
        (pss_cons (ps_set (i := 2) sc_L_classes.nd rfl (Or.inl rfl) (pe_callB call_len_n (by rfl) c.b_len (by decide +kernel) (pa_cons (pv 4) pa_nil)))
        (pss_one (ps_set (i := 1) sc_L_classes.nd rfl (Or.inr rfl) (pv 5)))))))))
      (pss_one (ps_ret (pv 1)))))), ?_⟩
    obtain ⟨a, us, rfl, hq, p⟩ := id hv
    have hlen := Paired.length p
    refine ⟨by show 1 ≤ sizeLine; decide, fun L0 nL0 => ⟨_, rfl, lens_of (same_upd nL0) (seq_lst hv) ?_⟩⟩
    refine ⟨L0, _, [.int 0], rfl, rfl, upd_same, by omega, by omega, le_ok (by simp; omega), fun C nC => ?_⟩
    have nC0 : H C = none := (same_upd nL0).free nC
    have s1 : Same H (upd (upd H L0 (.lst [.int 0])) C (.lst (natV (List.replicate st.length 0)))) := same_upd2 (same_upd nL0) nC0
    have eC : (List.replicate ((st.length : Int)).toNat [V.int 0]).flatten = natV (List.replicate st.length 0) := by
      rw [Int.toNat_natCast, List.flatten_replicate_singleton]
      unfold natV
      rw [List.map_replicate]
      rfl
    rw [eC]
    generalize hHw : upd (upd H L0 (.lst [.int 0])) C (.lst (natV (List.replicate st.length 0))) = Hw at s1 ⊢
    have hCw : Hw C = some (.lst (natV (List.replicate st.length 0))) := by rw [← hHw, upd_same]
    clear hHw eC
    refine ⟨_, rfl, lens_of s1 (seq_lst hv) ⟨_, _, rfl, rfl, ((st.length + 1 : Nat) : Int), rfl, by omega, by omega, ?_⟩⟩
    refine for_range (lo := 0) (n := st.length + 1) (fun t σ H' => ∃ (C : Addr) (m : Nat) (cl : List Nat) (x3 x4 x5 x6 x7 x8 : Option V), t + 1 ≤ m ∧ σ = [some (.ref a), some (.ref C), some (.int (m : Int)), x3, x4, x5, x6, x7, x8] ∧ Same H H' ∧ H C = none ∧ H' C = some (.lst (natV cl)) ∧ Part A st t cl m)
      ⟨C, 1, _, none, none, none, none, none, none, Nat.le_refl _, rfl, s1, nC0, hCw, part_zero hpos⟩ ?_ ?_
    · clear hCw s1 nC0 nC C
      rintro t σ H1 ht ⟨C, m, cl, x3, x4, x5, x6, x7, x8, htm, rfl, s1, nC, hC, pt⟩
      rw [Int.zero_add]
      have hcl := pt.len
      have hmle := dense_le pt.dense
      intro Kd ob nKd nd0
      have sK : Same H1 (upd H1 Kd ob) := same_upd nKd
      refine ⟨Nat.zero_le _, fun Fd nFd => ?_⟩
      have sF : Same (upd H1 Kd ob) (upd (upd H1 Kd ob) Fd (.lst [])) := same_upd nFd
      have hKF : Kd ≠ Fd := fun e => by rw [← e, upd_same] at nFd; cases nFd
      have hCK : C ≠ Kd := ne_of_none hC nKd
      have hCF : C ≠ Fd := ne_of_none (sK _ _ hC) nFd
      have nK0 : H Kd = none := s1.free nKd
      have nF0 : H Fd = none := s1.free (sK.free nFd)
      have s12 := s1.trans (sK.trans sF)
      refine ⟨_, rfl, lens_of s12 (seq_lst hv) ⟨((st.length : Nat) : Int), rfl, by omega, by omega, ?_⟩⟩
      refine for_range (lo := 0) (n := st.length) (fun i σ H' => ∃ (ks : List (Nat × List (Nat × Int))) (fd : List Nat) (x6 x7 x8 : Option V), σ = [some (.ref a), some (.ref C), some (.int (m : Int)), some (.int (t : Int)), some (.ref Kd), some (.ref Fd), x6, x7, x8] ∧ Same H H' ∧ H' C = some (.lst (natV cl)) ∧ ND P w K H' Kd (kvsI (ks.map sgnKeyL)) ∧ H' Fd = some (.lst (natV fd)) ∧ Rnd (sgn A st cl) i ks fd)
        ⟨[], [], x6, x7, x8, rfl, s12, sF _ _ (sK _ _ hC), nd0.keeps (Tups.of_same sF) (by rw [upd_ne hKF]), upd_same, rnd_zero _⟩ ?_ ?_
      · rintro k σ H2 hk' ⟨ks, fd, x6, x7, x8, rfl, s2, hC2, nd2, hF2, rn⟩
        rw [Int.zero_add]
        obtain ⟨v1, v2⟩ := vld k hk'
        -- sign
        refine ⟨_, rfl, _, rfl, ixL_of hC2 (j := k) rfl (natV_at (by omega)) ⟨by show 1 ≤ sizeLine; decide, fun L1 nL1 => ?_⟩⟩
        have sL1 : Same H2 (upd H2 L1 (.lst [.int ((cl.getD k 0 : Nat) : Int)])) := same_upd nL1
        have s3 := s2.trans sL1
        refine ⟨_, rfl, _, rfl, ixs_of s3 (seq_lst hv) (j := k) rfl (getD_some hk' []) fun ur hur => ?_⟩
        obtain ⟨b, vs, rfl, hqb, pb⟩ := hur
        have hvl : vs.length = A := by rw [Paired.length pb]; exact v1
        refine ⟨b, vs, rfl, .inl ⟨s3.seq hqb, fun D nD => ?_⟩⟩
        have pb' : Paired (dPair K dNat dInt (mk [] (upd H2 L1 (.lst [.int ((cl.getD k 0 : Nat) : Int)])))) vs (st.getD k []) := by rw [mk_nil]; exact Paired.mono (fun _ _ => mPair _ _ _ _ s3) pb
        refine lc_map (j := 8) (M := []) walk_list (S := dPair K dNat dInt) (R := dPair K dNat dInt) (fun s => (cl.getD s.1 0, s.2)) mPair mPair pb' nD (fun _ h => nomatch h) (by omega) (fun H4 s4 => (s3.trans s4).seq hqb) (fun u s H4 hs s4 m4 hu hM4 Q2 q2 => ?_) (fun H4 s4 ⟨ys, hD4, pD⟩ => ?_)
        · obtain ⟨i, hi⟩ := List.getElem?_of_mem hs
          have hiA : i < A := by have := (List.getElem?_eq_some_iff.mp hi).1; omega
          have hs1 : s.1 < st.length := by
            have h := v2 i hiA
            have e' : nx st k i = s.1 := by unfold nx; rw [List.getD_eq_getElem?_getD (l := st.getD k []), hi]; rfl
            rw [e'] at h; exact h
          refine ⟨_, rfl, _, rfl, px0 mk_same hu fun x hx => ?_⟩
          cases (show x = .int (s.1 : Int) from hx)
          refine ixL_of (s4 _ _ (sL1 _ _ hC2)) (j := s.1) rfl (natV_at (by rw [hcl]; exact hs1)) ?_
          refine ⟨_, rfl, px1 mk_same hu fun y hy => ?_⟩
          cases (show y = .int s.2 from hy)
          refine ⟨by show 2 ≤ sizeLine; decide, fun T2 nT2 => q2 _ _ (same_upd nT2) ⟨T2, _, _, rfl, .inl (.inl ?_), rfl, rfl⟩⟩
          rw [mk_out (notin_of hM4 nT2)]; exact upd_same
        have eS : (st.getD k []).map (fun s => (cl.getD s.1 0, s.2)) = (List.range A).map fun i => (cl.getD (nx st k i) 0, ad st k i) := by
          conv => lhs; rw [row_range v1]
          rw [List.map_map]; rfl
        rw [mk_nil, eS] at pD
        have lD := Paired.length pD
        rw [List.length_map, List.length_range] at lD
        refine ⟨L1, D, _, _, rfl, rfl, s4 _ _ upd_same, hD4, le_ok (by simp; omega), fun l nl => ?_⟩
        refine tuple_of upd_same fun Sg nSg => ?_
        have sl : Same H4 (upd H4 l (.lst ([.int ((cl.getD k 0 : Nat) : Int)] ++ ys))) := same_upd nl
        have sS : Same (upd H4 l (.lst ([.int ((cl.getD k 0 : Nat) : Int)] ++ ys))) (upd (upd H4 l (.lst ([.int ((cl.getD k 0 : Nat) : Int)] ++ ys))) Sg (.tup ([.int ((cl.getD k 0 : Nat) : Int)] ++ ys))) := same_upd nSg
        have pS := Paired.mono (fun _ _ => mPair _ _ _ _ (sl.trans sS)) pD
        have nk6 : NK K (upd (upd H4 l (.lst ([.int ((cl.getD k 0 : Nat) : Int)] ++ ys))) Sg (.tup ([.int ((cl.getD k 0 : Nat) : Int)] ++ ys))) (sgnKeyL (sgn A st cl k)) (.ref Sg) := nk_sgnL (.inl (.inl upd_same)) pS
        have s26 := sL1.trans (s4.trans (sl.trans sS))
        have s6 := s2.trans s26
        have hC6 := s26 _ _ hC2
        have hF6 := s26 _ _ hF2
        obtain ⟨φ, hφ⟩ := nd2.mut
        have nd6 : ND P w K (upd (upd H4 l (.lst ([.int ((cl.getD k 0 : Nat) : Int)] ++ ys))) Sg (.tup ([.int ((cl.getD k 0 : Nat) : Int)] ++ ys))) Kd (kvsI (ks.map sgnKeyL)) := nd2.keeps (Tups.of_same s26) ((s26 _ _ hφ).trans hφ.symm)
        generalize upd (upd H4 l (.lst ([.int ((cl.getD k 0 : Nat) : Int)] ++ ys))) Sg (.tup ([.int ((cl.getD k 0 : Nat) : Int)] ++ ys)) = H6 at nk6 s6 hC6 hF6 nd6 ⊢
        have hkl := rn.le
        refine ⟨fun σ' H' => ∃ (ks' : List (Nat × List (Nat × Int))) (u : Nat) (x8 : Option V), σ' = [some (.ref a), some (.ref C), some (.int (m : Int)), some (.int (t : Int)), some (.ref Kd), some (.ref Fd), some (.int (k : Int)), some (.ref Sg), x8] ∧ Same H H' ∧ H' C = some (.lst (natV cl)) ∧ ND P w K H' Kd (kvsI (ks'.map sgnKeyL)) ∧ H' Fd = some (.lst (natV fd)) ∧
            NK K H' (sgnKeyL (sgn A st cl k)) (.ref Sg) ∧ ks'[u]? = some (sgn A st cl k) ∧ Rnd (sgn A st cl) (k + 1) ks' (fd ++ [u]), ?_, ?_⟩
        · refine ⟨_, rfl, _, rfl, Kd, Sg, _, _, rfl, rfl, nd6, nk6, sgnKeyL_depth _, _, rfl, ?_⟩
          by_cases hin : sgn A st cl k ∈ ks
          · obtain ⟨u, hu⟩ := List.getElem?_of_mem hin
            have hk2 : (ks.map sgnKeyL)[u]? = some (sgnKeyL (sgn A st cl k)) := by rw [List.getElem?_map, hu]; rfl
            rw [valV_some (nodup_keys sgnKeyL_inj rn.nd) hk2]
            exact iteF ⟨ks, u, _, rfl, s6, hC6, nd6, hF6, nk6, hu, rn.old hu⟩
          · rw [valV_none (fun z => hin ((mem_keys sgnKeyL_inj).mp z))]
            refine iteT ?_
            refine ⟨_, rfl, Kd, _, rfl, nd6, ⟨_, rfl, _, rfl, Kd, Sg, _, _, rfl, rfl, nd6, nk6, sgnKeyL_depth _, len_ok (by rw [kvsI_len, List.length_map]; omega), fun ob7 nd7 => ?_⟩⟩
            have e7 := putK_kvsI (k := sgnKeyL (sgn A st cl k)) (ks := ks.map sgnKeyL) (fun z => hin ((mem_keys sgnKeyL_inj).mp z))
            rw [kvsI_len, e7, map_snoc] at nd7
            refine ⟨ks ++ [sgn A st cl k], ks.length, _, rfl, same_upd2 s6 nK0, by rw [upd_ne hCK]; exact hC6, nd7, by rw [upd_ne (Ne.symm hKF)]; exact hF6, nk6.mono (Tups.mut (mut_nd nd6)), ?_, rn.new hin⟩
            rw [List.getElem?_append_right (Nat.le_refl _)]; simp
        · rintro σ' H7 ⟨ks', u, x8, rfl, s7, hC7, nd7, hF7, nk7, hu, rn7⟩
          have hk2 : (ks'.map sgnKeyL)[u]? = some (sgnKeyL (sgn A st cl k)) := by rw [List.getElem?_map, hu]; rfl
          have fl := rn.len
          refine ⟨_, rfl, ty_lst hF7, _, rfl, _, rfl, Kd, Sg, _, _, _, rfl, rfl, nd7, nk7, sgnKeyL_depth _, valV_some (nodup_keys sgnKeyL_inj rn7.nd) hk2, ?_⟩
          refine ⟨_, _, _, rfl, rfl, hF7, len_ok (by rw [natV_len]; omega), ?_⟩
          rw [natV_snoc]
          exact ⟨ks', fd ++ [u], _, _, _, rfl, same_upd2 s7 nF0, by rw [upd_ne hCF]; exact hC7, nd7.keeps (Tups.mut (mut_lst hF7)) (upd_ne hKF), upd_same, rn7⟩
      · rintro σ H2 ⟨ks, fd, x6, x7, x8, rfl, s2, hC2, nd2, hF2, rn⟩
        have pt' := rnd_done vld pt rn
        have hmm := part_le pt pt'
        have hle2 := rn.le
        refine ⟨_, rfl, Kd, _, rfl, nd2, ⟨_, rfl, rfl, _, rfl, ?_⟩⟩
        rw [kvsI_len, List.length_map]
        by_cases hm : ks.length = m
        · refine iteD (by rw [hm]) ?_
          rw [hm] at pt'
          exact ⟨_, rfl, q fd Fd _ (cl_done vld pt pt') s2 nF0 hF2⟩
        · refine iteND (fun e => hm (by injection e with e; omega)) ?_
          refine ⟨_, rfl, Kd, _, rfl, nd2, ?_⟩
          rw [kvsI_len, List.length_map]
          exact ⟨_, rfl, Fd, ks.length, fd, _, _, _, _, _, _, by omega, rfl, s2, nF0, hF2, pt'⟩
    · rintro σ H1 ⟨C, m, cl, x3, x4, x5, x6, x7, x8, htm, rfl, s1, nC, hC, pt⟩
      have hmle := dense_le pt.dense
      have := pt.len
      omega
end
end AW
namespace AW
open PySem PySem.Spec PyProof.Rows L2
def rowL (A : Str) {n : Nat} (R : List (List (Fin n))) : List V := R.map fun r => V.str (rowS A (vals r))
theorem rowL_at {A : Str} {n : Nat} {R : List (List (Fin n))} {i : Nat} (h : i < R.length) : (rowL A R)[i]? = some (.str (rowS A (vals (R.getD i [])))) := by
  unfold rowL
  rw [List.getElem?_map, getD_some h []]
  rfl
theorem rowL_snoc {A : Str} {n : Nat} {R : List (List (Fin n))} (r : List (Fin n)) : rowL A R ++ [.str (rowS A (vals r))] = rowL A (R ++ [r]) := by unfold rowL; rw [List.map_append]; rfl
theorem cps_get {A : Str} {k : Nat} (hk : k < A.cps.size) : A.cps.toList[k]? = some (cp A k) := by
  unfold cp
  rw [Array.getElem?_toList, Array.getD_eq_getD_getElem?, Array.getElem?_eq_getElem hk]
  rfl
/-- the state of the law's search -/
structure SM (K : PySem.W.Frag) (A : Str) (st : Steps) (cl : List Nat) (H0 H : Hp) (W : List Addr) (Ln Rw Dd It : Addr) (lk : List Nat) (line : List (Beh A.cps.size)) (R : List (List (Fin A.cps.size))) (vsI : List V) (items : Steps) : Prop where
  same : Same H0 H
  l : H Ln = some (.lst (natV lk))
  r : H Rw = some (.lst (rowL A R))
  d : H Dd = some (.dK (numK cl lk))
  i : H It = some (.lst vsI)
  pi : Paired (dLst K (dPair K dNat dInt) (mk W H)) vsI items
  lk : Paired (LkR A.cps.size st) lk line
section
variable {P : Program} {w : World} {K : PySem.W.Frag} {mg : Str → Option Value} {base : Heap} {cSt cSg cMa cVe cRl : Addr}
def sp_L_shrunk (K : PySem.W.Frag) : Sp := fun vs H Q _ => ∃ (M : List Addr) (A : Str) (f : Int) (v : V) (st : Steps), vs = [.str A, .int f, v] ∧ (∀ p ∈ M, H p ≠ none) ∧ Asks A ∧ Valid A.cps.size st ∧ 0 < st.length ∧ st.length ≤ 1000 ∧ dStepsLL K H v st ∧
  ∀ N T vi vr H', Done (beh A.cps.size st 0) N → N ≤ st.length → Same H H' → H' T = some (.lst [.int f, vi, vr]) → dStepsLL K (mk M H') vi (bfs (beh A.cps.size st 0) N).items → dLst K (dRow A) (mk M H') vr ((bfs (beh A.cps.size st 0) N).rows.map vals) → Q (.ref T) H'
theorem fn_L_shrunk (c : Env K mg cSt cSg cMa cVe cRl) : Fn P w K mg base "_law_shrunk" 2 P_L_shrunk (sp_L_shrunk K) := by
  refine fn_ok c.d_L_shrunk sc_L_shrunk (fun _ _ _ _ _ _ us hl => match us, hl with | [_, _, _], _ => rfl) (fun vs H Q E h => ?_) (fun f cdv A outer s H vs Q E hr h => ?_)
  · obtain ⟨M, A, f0, v, st, rfl, hM, hAs, vld, hpos, hle, hv, q⟩ := h
    rfl
  · obtain ⟨M, A, f0, v, st, rfl, hM, hAs, vld, hpos, hle, hv, q⟩ := h
    refine ⟨_, (pss_cons (ps_set (i := 3) sc_L_shrunk.nd rfl (Or.inl rfl) (pe_fn (fn_L_classes c) (hr.mono (by decide)) rfl (pa_cons (pv 2) pa_nil)))
      (pss_cons (ps_set (i := 4) sc_L_shrunk.nd rfl (Or.inl rfl) (pe_lst (pa_cons pe_int pa_nil)))
      (pss_cons (ps_set (i := 5) sc_L_shrunk.nd rfl (Or.inl rfl) (pe_lst (pa_cons pe_str pa_nil)))
      (pss_cons (ps_set (i := 6) sc_L_shrunk.nd rfl (Or.inl rfl) pe_dnewK)
      (pss_cons (ps_dput (hu_of hr) (pv 6) (pe_ix (ix_seqK (K := K)) (pv 3) pe_int (fun _ _ => rfl)) pe_int rfl)
      (pss_cons (ps_set (i := 7) sc_L_shrunk.nd rfl (Or.inl rfl) (pe_lst pa_nil))
      (pss_cons (ps_for PassesOwn.never rfl (pi_range1 rfl c.b_range (pa_cons (pe_op op_add (pe_callB (call_len_seqK (K := K)) (by rfl) c.b_len (by decide +kernel) (pa_cons (pv 2) pa_nil)) pe_int) pa_nil)) (pg_name (i := 8) sc_L_shrunk.nd rfl (Or.inl rfl))
        (pss_cons (ps_if (pt_cmpR op_eq (pv 8) (pe_callB (call_len_seqK (K := K)) (by rfl) c.b_len (by decide +kernel) (pa_cons (pv 4) pa_nil)) (nomark _))
          (pss_one ps_break)
          pss_nil)
        (pss_cons (ps_set (i := 9) sc_L_shrunk.nd rfl (Or.inl rfl) (pe_lst pa_nil))
        (pss_cons (ps_for PassesOwn.never rfl (pi_range1 rfl c.b_range (pa_cons (pe_callB call_len_str (by rfl) c.b_len (by decide +kernel) (pa_cons (pv 0) pa_nil)) pa_nil)) (pg_name (i := 10) sc_L_shrunk.nd rfl (Or.inl rfl))
          (pss_cons (ps_set (i := 11) sc_L_shrunk.nd rfl (Or.inl rfl) (pe_ix (ix_seqK (K := K)) (pe_ix (ix_seqK (K := K)) (pv 2) (pe_ix (ix_seqK (K := K)) (pv 4) (pv 8) (fun _ _ => rfl)) (fun _ _ => rfl)) (pv 10) (fun _ _ => rfl)))
          (pss_cons (ps_set (i := 12) sc_L_shrunk.nd rfl (Or.inl rfl) (pe_ix (ix_seqK (K := K)) (pv 3) (pe_ix (ix_seqK (K := K)) (pv 11) pe_int (fun _ _ => rfl)) (fun _ _ => rfl)))
          (pss_cutW (ps_if (pt_cmp (pc_dnotin (hu_of hr) (pv 12) (pv 6)))
            (pss_cons (ps_dput (hu_of hr) (pv 6) (pv 12) (pe_callB (call_len_seqK (K := K)) (by rfl) c.b_len (by decide +kernel) (pa_cons (pv 4) pa_nil)) rfl)
            (pss_cons (ps_expr (pe_bm PySem.F.plainAttrs_list PySem.F.slot_list_append PySem.F.type_list_append mt_append (pv 4) (pa_cons (pe_ix (ix_seqK (K := K)) (pv 11) pe_int (fun _ _ => rfl)) pa_nil)))
            (pss_one (ps_expr (pe_bm PySem.F.plainAttrs_list PySem.F.slot_list_append PySem.F.type_list_append mt_append (pv 5) (pa_cons (pe_op op_add_str (pe_ix (ix_seqK (K := K)) (pv 5) (pv 8) (fun _ _ => rfl)) (pe_ix (ix_seqK (K := K)) (pv 0) (pv 10) (fun _ _ => rfl))) pa_nil))))))
            pss_nil)
          (pss_one (ps_expr (pe_bm PySem.F.plainAttrs_list PySem.F.slot_list_append PySem.F.type_list_append mt_append (pv 9) (pa_cons (pe_tup (pa_cons (pe_dget (hu_of hr) (pv 6) (pv 12) (fun _ _ => rfl)) (pa_cons (pe_ix (ix_seqK (K := K)) (pv 11) pe_int (fun _ _ => rfl)) pa_nil))) pa_nil))))))))
        (pss_one (ps_expr (pe_bm PySem.F.plainAttrs_list PySem.F.slot_list_append PySem.F.type_list_append mt_append (pv 7) (pa_cons (pv 9) pa_nil))))))))
      (pss_one (ps_ret (pe_lst (pa_cons (pv 1) (pa_cons (pv 7) (pa_cons (pv 5) pa_nil))))))))))))), ?_⟩
    obtain ⟨N, hN, d⟩ := done_ex vld hpos
    have okN := ok_of_done d (Nat.le_refl N)
    have hA : A.cps.size ≤ 3 := (asks_len hAs).2
    refine ⟨_, rfl, A.cps.size, v, st, rfl, vld, hpos, hle, hA, hv, fun cl C H1 co s1 nC hC => ?_⟩
    have hcl := co.len
    refine ⟨by show 1 ≤ sizeLine; decide, fun Ln nLn => ?_⟩
    have sL : Same H1 (upd H1 Ln (.lst [.int 0])) := same_upd nLn
    refine ⟨by show 1 ≤ sizeLine; decide, fun Rw nRw => ?_⟩
    have hLR : Ln ≠ Rw := fun e => by rw [← e, upd_same] at nRw; cases nRw
    have sR : Same (upd H1 Ln (.lst [.int 0])) (upd (upd H1 Ln (.lst [.int 0])) Rw (.lst [.str ""])) := same_upd nRw
    intro Dd nDd
    have sD : Same (upd (upd H1 Ln (.lst [.int 0])) Rw (.lst [.str ""])) (upd (upd (upd H1 Ln (.lst [.int 0])) Rw (.lst [.str ""])) Dd (.dK [])) := same_upd nDd
    refine ⟨_, rfl, _, rfl, ixL_of (sD _ _ (sR _ _ (sL _ _ hC))) (j := 0) rfl (natV_at (by omega)) ?_⟩
    refine ⟨Dd, _, rfl, DPut.k (k := iK (cl.getD 0 0)) upd_same (len_ok (by decide)), ?_⟩
    rw [upd_upd]
    have hLD : Ln ≠ Dd := fun e => by rw [← e, upd_ne hLR, upd_same] at nDd; cases nDd
    have hRD : Rw ≠ Dd := fun e => by rw [← e, upd_same] at nDd; cases nDd
    refine ⟨Nat.zero_le _, fun It nIt => ?_⟩
    have hLI : Ln ≠ It := fun e => by rw [← e, upd_ne hLD, upd_ne hLR, upd_same] at nIt; cases nIt
    have hRI : Rw ≠ It := fun e => by rw [← e, upd_ne hRD, upd_same] at nIt; cases nIt
    have hDI : Dd ≠ It := fun e => by rw [← e, upd_same] at nIt; cases nIt
    have nR1 : H1 Rw = none := sL.free nRw
    have nD1 : H1 Dd = none := sL.free (sR.free nDd)
    have nI1 : H1 It = none := by rw [upd_ne (Ne.symm hDI), upd_ne (Ne.symm hRI), upd_ne (Ne.symm hLI)] at nIt; exact nIt
    have hM1 := dom_same hM s1
    have su0 : SM K A st cl H1 (upd (upd (upd (upd H1 Ln (.lst [.int 0])) Rw (.lst [.str ""])) Dd (.dK (putK [] (iK (cl.getD 0 0)) (.int 0)))) It (.lst [])) (Ln :: Rw :: Dd :: It :: M) Ln Rw Dd It [0] [beh A.cps.size st 0] [[]] [] [] :=
      ⟨same_upd2 (same_upd2 (same_upd2 sL nR1) nD1) nI1, by rw [upd_ne hLI, upd_ne hLD, upd_ne hLR, upd_same]; rfl, by rw [upd_ne hRI, upd_ne hRD, upd_same]; rfl, by rw [upd_ne hDI, upd_same]; rfl, upd_same, .nil, .cons ⟨hpos, rfl⟩ .nil⟩
    generalize upd (upd (upd (upd H1 Ln (.lst [.int 0])) Rw (.lst [.str ""])) Dd (.dK (putK [] (iK (cl.getD 0 0)) (.int 0)))) It (.lst []) = Hw at su0 ⊢
    refine ⟨_, rfl, lens_of (s1.trans su0.same) (seq_lst hv) ⟨_, _, rfl, rfl, ((st.length + 1 : Nat) : Int), rfl, by omega, by omega, ?_⟩⟩
    refine for_range (lo := 0) (n := st.length + 1) (fun p σ H' => ∃ (lk : List Nat) (vsI : List V) (x8 x9 x10 x11 x12 : Option V), p ≤ N ∧ σ = [some (.str A), some (.int f0), some v, some (.ref C), some (.ref Ln), some (.ref Rw), some (.ref Dd), some (.ref It), x8, x9, x10, x11, x12] ∧ SM K A st cl H1 H' (Ln :: Rw :: Dd :: It :: M) Ln Rw Dd It lk (bfs (beh A.cps.size st 0) p).line (bfs (beh A.cps.size st 0) p).rows vsI (bfs (beh A.cps.size st 0) p).items)
      ⟨[0], [], none, none, none, none, none, Nat.zero_le _, rfl, su0⟩ ?_ ?_
    · clear su0 Hw
      rintro p σ H2 hpn ⟨lk, vsI, x8, x9, x10, x11, x12, hp, rfl, su⟩
      rw [Int.zero_add]
      have ok := ok_of_done d hp
      have lenI := Paired.length su.pi
      have lenL := Paired.length su.lk
      rw [ok.ilen] at lenI
      refine ⟨_, rfl, _, rfl, lenL_of su.l ⟨rfl, _, rfl, iteAny (fun hb => ?_) (fun hb => ?_)⟩⟩
      · have heq : p = (bfs (beh A.cps.size st 0) p).line.length := by
          have h := of_decide_eq_true hb
          injection h with h
          rw [natV_len] at h
          omega
        have hpN : p = N := done_unique (show (bfs (beh A.cps.size st 0) p).line.length = p by omega) d
        subst hpN
        refine ⟨_, rfl, _, rfl, _, rfl, by show 3 ≤ sizeLine; decide, fun T nT => ?_⟩
        have sT : Same H2 (upd H2 T (.lst [.int f0, .ref It, .ref Rw])) := same_upd nT
        have sub : Same (mk (Ln :: Rw :: Dd :: It :: M) H2) (mk M (upd H2 T (.lst [.int f0, .ref It, .ref Rw]))) := (mk_sub fun b hb => by simp [hb]).trans (mk_mono sT)
        exact q p T _ _ _ d hN (s1.trans (su.same.trans sT)) upd_same (lst_at (sT _ _ su.i) (notin_of hM1 nI1) (Paired.mono (fun _ _ => mLP _ _ _ _ sub) su.pi))
          (lst_at (sT _ _ su.r) (notin_of hM1 nR1) (pmapR (F := fun (u : V) (r : List (Fin A.cps.size)) => u = .str (rowS A (vals r))) vals (fun a r h => h) (pmap_of (fun r => V.str (rowS A (vals r))) (fun _ => rfl) _)))
      have hlt : p < (bfs (beh A.cps.size st 0) p).line.length := by
        have h := of_decide_eq_false hb
        have : p ≠ (bfs (beh A.cps.size st 0) p).line.length := fun e => h (by rw [natV_len, lenL, ← e])
        have := ok.ple
        omega
      have hpN : p < N := by
        rcases Nat.lt_or_ge p N with g | g
        · exact g
        · have : p = N := by omega
          subst this
          rw [show (bfs (beh A.cps.size st 0) p).line.length = p from d] at hlt
          omega
      refine ⟨Nat.zero_le _, fun Im nIm => ?_⟩
      have sIm : Same H2 (upd H2 Im (.lst [])) := same_upd nIm
      have nIm1 : H1 Im = none := su.same.free nIm
      have hLm : Ln ≠ Im := ne_of_none su.l nIm
      have hRm : Rw ≠ Im := ne_of_none su.r nIm
      have hDm : Dd ≠ Im := ne_of_none su.d nIm
      have hIm : It ≠ Im := ne_of_none su.i nIm
      have hImM : Im ∉ M := notin_of (dom_same hM1 su.same) nIm
      have hk0 : lk.getD p 0 < st.length := by
        obtain ⟨_, h2, _⟩ := lk_get su.lk (getD_some hlt (beh A.cps.size st 0))
        exact h2
      obtain ⟨v1, v2⟩ := vld _ hk0
      refine ⟨_, rfl, A, rfl, le_ok (show A.cps.size ≤ 16000000 by omega), ((A.cps.size : Nat) : Int), rfl, by omega, by omega, ?_⟩
      refine for_range (lo := 0) (n := A.cps.size) (fun k σ H' => ∃ (lk' : List Nat) (vsm : List V) (x10 x11 x12 : Option V), σ = [some (.str A), some (.int f0), some v, some (.ref C), some (.ref Ln), some (.ref Rw), some (.ref Dd), some (.ref It), some (.int (p : Int)), some (.ref Im), x10, x11, x12] ∧ lk'.getD p 0 = lk.getD p 0 ∧
          SM K A st cl H1 H' (Im :: Ln :: Rw :: Dd :: It :: M) Ln Rw Dd It lk' (innAt (beh A.cps.size st 0) p k).line (innAt (beh A.cps.size st 0) p k).rows vsI (bfs (beh A.cps.size st 0) p).items ∧ H' Im = some (.lst vsm) ∧ Paired (dPair K dNat dInt (mk (Im :: Ln :: Rw :: Dd :: It :: M) H')) vsm (innAt (beh A.cps.size st 0) p k).item)
        ⟨lk, [], x10, x11, x12, rfl, rfl, ⟨su.same.trans sIm, sIm _ _ su.l, sIm _ _ su.r, sIm _ _ su.d, sIm _ _ su.i, by rw [mk_new nIm]; exact su.pi, su.lk⟩, upd_same, .nil⟩ ?_ ?_
      · rintro k σ H3 hkA ⟨lk', vsm, x10, x11, x12, rfl, hlk', su', hm, pm⟩
        rw [Int.zero_add]
        have s03 := s1.trans su'.same
        obtain ⟨g1, g2, nd, hcase⟩ := sh_step vld co d hpN hkA su'.lk
        rw [hlk'] at hcase g2
        have haft : nx st (lk.getD p 0) k < cl.length := by rw [hcl]; exact v2 k hkA
        have iok := innAt_ok ok k (by omega)
        have lenk := Paired.length su'.lk
        have lenm := Paired.length pm
        rw [iok.ilen] at lenm
        have hlN := line_le d hpN (j := k) (by omega)
        have hpl : p < lk'.length := (List.getElem?_eq_some_iff.mp g2).1
        have hRl : (innAt (beh A.cps.size st 0) p k).rows.length = lk'.length := by rw [iok.len, lenk]
        refine ⟨_, rfl, _, rfl, _, rfl, ixL_of su'.l (j := p) rfl (natV_at hpl) ?_⟩
        rw [hlk']
        refine ixs_of s03 (seq_lst hv) (j := lk.getD p 0) rfl (getD_some hk0 []) fun ur hur => ⟨_, rfl, ixs_of s03 (seq_lst hur) (j := k) rfl (getD_some (by rw [v1]; exact hkA) (0, 0)) fun us hus => ?_⟩
        refine ⟨_, rfl, _, rfl, px0 s03 hus fun x hx => ?_⟩
        cases (show x = .int ((nx st (lk.getD p 0) k : Nat) : Int) from hx)
        refine ixL_of (su'.same _ _ hC) (j := nx st (lk.getD p 0) k) rfl (natV_at haft) ?_
        refine ⟨fun σ' H' => ∃ (lk'' : List Nat) (u : Nat), σ' = [some (.str A), some (.int f0), some v, some (.ref C), some (.ref Ln), some (.ref Rw), some (.ref Dd), some (.ref It), some (.int (p : Int)), some (.ref Im), some (.int (k : Int)), some us, some (.int ((cl.getD (nx st (lk.getD p 0) k) 0 : Nat) : Int))] ∧ lk''.getD p 0 = lk.getD p 0 ∧
            SM K A st cl H1 H' (Im :: Ln :: Rw :: Dd :: It :: M) Ln Rw Dd It lk'' (innAt (beh A.cps.size st 0) p (k + 1)).line (innAt (beh A.cps.size st 0) p (k + 1)).rows vsI (bfs (beh A.cps.size st 0) p).items ∧ H' Im = some (.lst vsm) ∧ Paired (dPair K dNat dInt (mk (Im :: Ln :: Rw :: Dd :: It :: M) H')) vsm (innAt (beh A.cps.size st 0) p k).item ∧
            (clsL cl lk'').Nodup ∧ (clsL cl lk'')[u]? = some (cl.getD (nx st (lk.getD p 0) k) 0) ∧ (innAt (beh A.cps.size st 0) p (k + 1)).item = (innAt (beh A.cps.size st 0) p k).item ++ [(u, ad st (lk.getD p 0) k)], ?_, ?_⟩
        · refine ⟨_, rfl, _, rfl, Dd, _, rfl, DGet.k (k := iK (cl.getD (nx st (lk.getD p 0) k) 0)) su'.d, ⟨_, rfl, ?_⟩⟩
          rcases hcase with ⟨u, hu, e⟩ | ⟨hnin, hltN, e, plk⟩
          · rw [numK_some nd hu]
            refine iteF ⟨lk', u, rfl, hlk', ?_, hm, pm, nd, hu, by rw [e]⟩
            rw [e]
            exact su'
          · rw [numK_none hnin]
            refine iteT ?_
            have hdn : upd H3 Dd (.dK (putK (numK cl lk') (iK (cl.getD (nx st (lk.getD p 0) k) 0)) (.int (lk'.length : Int)))) Ln = some (.lst (natV lk')) := by rw [upd_ne hLD]; exact su'.l
            have hrn : (upd (upd H3 Dd (.dK (putK (numK cl lk') (iK (cl.getD (nx st (lk.getD p 0) k) 0)) (.int (lk'.length : Int))))) Ln (.lst (natV (lk' ++ [nx st (lk.getD p 0) k])))) Rw = some (.lst (rowL A (innAt (beh A.cps.size st 0) p k).rows)) := by rw [upd_ne (Ne.symm hLR), upd_ne hRD]; exact su'.r
            refine ⟨_, rfl, lenL_of su'.l ⟨_, rfl, _, rfl, Dd, _, rfl, DPut.k (k := iK (cl.getD (nx st (lk.getD p 0) k) 0)) su'.d (len_ok (by rw [numK_len]; omega)), ?_⟩⟩
            rw [natV_len]
            have bs4 : Same H (upd H3 Dd (.dK (putK (numK cl lk') (iK (cl.getD (nx st (lk.getD p 0) k) 0)) (.int (lk'.length : Int))))) := s1.trans (same_upd2 su'.same nD1)
            refine ⟨_, rfl, ty_lst hdn, _, rfl, px0 bs4 hus fun x hx => ?_⟩
            cases (show x = .int ((nx st (lk.getD p 0) k : Nat) : Int) from hx)
            refine ⟨_, _, _, rfl, rfl, hdn, len_ok (by rw [natV_len]; omega), ?_⟩
            rw [natV_snoc]
            have hsh : (vals ((innAt (beh A.cps.size st 0) p k).rows.getD p [])).length ≤ p := by
              have := inn_short (rows_short d p hp) (by rw [ok.len]; exact hlt) k (by omega) p _ (getD_some (by omega) [])
              unfold vals
              rw [List.length_map]; exact this
            refine ⟨_, rfl, ty_lst hrn, _, rfl, _, rfl, ixL_of hrn (j := p) rfl (rowL_at (by omega)) ⟨_, rfl, _, rfl, ixS_of (show A.cps.size ≤ 1000 by omega) (j := k) rfl (cps_get hkA) ⟨_, _, rfl, rfl, le_ok ?_, _, _, _, rfl, rfl, hrn, len_ok (by unfold rowL; rw [List.length_map]; omega), ?_⟩⟩⟩
            · show (rowS A _).cps.size + 1 ≤ _
              rw [rowS_size]; omega
            rw [rowS_snoc, show vals ((innAt (beh A.cps.size st 0) p k).rows.getD p []) ++ [k] = vals ((innAt (beh A.cps.size st 0) p k).rows.getD p [] ++ [⟨k, hkA⟩]) from (vals_append ((innAt (beh A.cps.size st 0) p k).rows.getD p []) [⟨k, hkA⟩]).symm, rowL_snoc, numK_put hnin]
            have em : mk (Im :: Ln :: Rw :: Dd :: It :: M) (upd (upd (upd H3 Dd (.dK (numK cl (lk' ++ [nx st (lk.getD p 0) k])))) Ln (.lst (natV (lk' ++ [nx st (lk.getD p 0) k])))) Rw (.lst (rowL A ((innAt (beh A.cps.size st 0) p k).rows ++ [(innAt (beh A.cps.size st 0) p k).rows.getD p [] ++ [⟨k, hkA⟩]])))) = mk (Im :: Ln :: Rw :: Dd :: It :: M) H3 := by rw [mk_upd_in (by simp), mk_upd_in (by simp), mk_upd_in (by simp)]
            refine ⟨lk' ++ [nx st (lk.getD p 0) k], lk'.length, rfl, ?_, ?_, ?_, by rw [em]; exact pm, ?_, ?_, by rw [e]⟩
            · rw [getD_app hpl]; exact hlk'
            · rw [e]
              exact ⟨same_upd2 (same_upd2 (same_upd2 su'.same nD1) nLn) nR1, by rw [upd_ne hLR, upd_same], upd_same, by rw [upd_ne (Ne.symm hRD), upd_ne (Ne.symm hLD), upd_same], by rw [upd_ne (Ne.symm hRI), upd_ne (Ne.symm hLI), upd_ne (Ne.symm hDI)]; exact su'.i, by rw [em]; exact su'.pi, plk⟩
            · rw [upd_ne (Ne.symm hRm), upd_ne (Ne.symm hLm), upd_ne (Ne.symm hDm)]; exact hm
            · unfold clsL at nd hnin ⊢
              rw [List.map_append, List.nodup_append]
              exact ⟨nd, by simp, fun a ha b hb e => hnin (by rw [List.map_cons, List.map_nil, List.mem_singleton] at hb; rw [← hb, ← e]; exact ha)⟩
            · unfold clsL
              rw [List.map_append, List.getElem?_append_right (by simp)]
              simp
        · rintro σ' H4 ⟨lk'', u, rfl, hlk'', su4, hm4, pm4, nd4, hu4, e4⟩
          have hdg := DGet.k (k := iK (cl.getD (nx st (lk.getD p 0) k) 0)) su4.d
          rw [numK_some nd4 hu4] at hdg
          refine ⟨_, rfl, ty_lst hm4, _, rfl, _, rfl, Dd, .int (u : Int), rfl, hdg, _, rfl, px1 (s1.trans su4.same) hus fun y hy => ?_⟩
          cases (show y = .int (ad st (lk.getD p 0) k) from hy)
          refine ⟨by show 2 ≤ sizeLine; decide, fun T nT => ?_⟩
          have sT : Same H4 (upd H4 T (.tup [.int (u : Int), .int (ad st (lk.getD p 0) k)])) := same_upd nT
          have hm5 := sT _ _ hm4
          have eM : mk (Im :: Ln :: Rw :: Dd :: It :: M) (upd (upd H4 T (.tup [.int (u : Int), .int (ad st (lk.getD p 0) k)])) Im (.lst (vsm ++ [.ref T]))) = mk (Im :: Ln :: Rw :: Dd :: It :: M) (upd H4 T (.tup [.int (u : Int), .int (ad st (lk.getD p 0) k)])) := mk_upd_in (by simp)
          have hTm : T ∉ Im :: Ln :: Rw :: Dd :: It :: M := fun hz => by
            simp at hz
            rcases hz with h | h | h | h | h | h
            · subst h; rw [hm4] at nT; cases nT
            · subst h; rw [su4.l] at nT; cases nT
            · subst h; rw [su4.r] at nT; cases nT
            · subst h; rw [su4.d] at nT; cases nT
            · subst h; rw [su4.i] at nT; cases nT
            · exact dom_same hM1 su4.same T h nT
          refine ⟨_, _, _, rfl, rfl, hm5, len_ok (by omega), ?_⟩
          refine ⟨lk'', vsm ++ [.ref T], _, _, _, rfl, hlk'', ⟨same_upd2 (su4.same.trans sT) nIm1, by rw [upd_ne hLm]; exact sT _ _ su4.l, by rw [upd_ne hRm]; exact sT _ _ su4.r, by rw [upd_ne hDm]; exact sT _ _ su4.d, by rw [upd_ne hIm]; exact sT _ _ su4.i, ?_, su4.lk⟩, upd_same, ?_⟩
          · rw [eM]; exact Paired.mono (fun _ _ => mLP _ _ _ _ (mk_mono sT)) su4.pi
          · rw [eM, e4]
            refine Paired.snoc (Paired.mono (fun _ _ => mPair _ _ _ _ (mk_mono sT)) pm4) ⟨T, _, _, rfl, .inl (.inl ?_), rfl, rfl⟩
            rw [mk_out hTm]; exact upd_same
      · rintro σ H3 ⟨lk', vsm, x10, x11, x12, rfl, hlk', su', hm, pm⟩
        refine ⟨_, rfl, ty_lst su'.i, _, rfl, _, _, _, rfl, rfl, su'.i, len_ok (by omega), ?_⟩
        have hImW : Im ∉ Ln :: Rw :: Dd :: It :: M := by simp [Ne.symm hLm, Ne.symm hRm, Ne.symm hDm, Ne.symm hIm, hImM]
        have shr : Same (mk (Im :: Ln :: Rw :: Dd :: It :: M) H3) (mk (Ln :: Rw :: Dd :: It :: M) H3) := mk_sub fun z hz => List.mem_cons_of_mem _ hz
        have eM : ∀ o, mk (Ln :: Rw :: Dd :: It :: M) (upd H3 It o) = mk (Ln :: Rw :: Dd :: It :: M) H3 := fun o => mk_upd_in (by simp)
        refine ⟨lk', vsI ++ [.ref Im], _, _, _, _, _, hpN, rfl, ?_⟩
        rw [bfs_succ hlt]
        refine ⟨same_upd2 su'.same nI1, by rw [upd_ne hLI]; exact su'.l, by rw [upd_ne hRI]; exact su'.r, by rw [upd_ne hDI]; exact su'.d, upd_same, ?_, su'.lk⟩
        rw [eM]
        exact Paired.snoc (Paired.mono (fun _ _ => mLP _ _ _ _ shr) su'.pi) (lst_at hm hImW (Paired.mono (fun _ _ => mPair _ _ _ _ shr) pm))
    · rintro σ H2 ⟨lk, vsI, x8, x9, x10, x11, x12, hp, rfl, su⟩
      omega
end
end AW
namespace AW
open PySem PySem.Spec PyProof.Rows L2
section
variable {P : Program} {w : World} {K : PySem.W.Frag} {mg : Str → Option Value} {base : Heap} {cSt cSg cMa cVe cRl : Addr}
def sp_L_machine (K : PySem.W.Frag) : Sp := fun vs H Q _ => ∃ (M : List Addr) (H0 : Hp) (v : V) (d : Wd) (most : Nat), vs = [v, .int (most : Int)] ∧ (∀ p ∈ M, H p ≠ none) ∧ Same H0 H ∧ Wf d ∧ dWorld K H0 v d ∧ most ≤ 200 ∧ (∀ H', Same H H' → Q .non H') ∧
  ∀ (x : Sd2) (N : Nat) (T : Addr) (vi vr : V) H', StOk d.asks.cps.size d.begins.length d.costs d.begins x.lots x.steps → x.lots.length ≤ most → Done (beh d.asks.cps.size (closed d.ends x.lots x.steps) 0) N → N ≤ most → Same H H' →
    H' T = some (.lst [.int (mn d.begins + close d.ends (x.lots.getD 0 [])), vi, vr]) → dStepsLL K (mk M H') vi (bfs (beh d.asks.cps.size (closed d.ends x.lots x.steps) 0) N).items → Q (.ref T) H'
theorem fn_L_machine (c : Env K mg cSt cSg cMa cVe cRl) : Fn P w K mg base "_law_machine" 3 P_L_machine (sp_L_machine K) := by
  refine fn_ok c.d_L_machine sc_L_machine (fun _ _ _ _ _ _ us hl => match us, hl with | [_, _], _ => rfl) (fun vs H Q E h => ?_) (fun f cdv A outer s H vs Q E hr h => ?_)
  · obtain ⟨M, H0, v, d, most, rfl, hM, s0, wf, hd, hmost, qn, q⟩ := h
    rfl
  · obtain ⟨M, H0, v, d, most, rfl, hM, s0, wf, hd, hmost, qn, q⟩ := h
    refine ⟨_, (pss_cons (ps_set (i := 2) sc_L_machine.nd rfl (Or.inl rfl) (pe_fn (fn_L_lots c) (hr.mono (by decide)) rfl (pa_cons (pv 0) (pa_cons (pv 1) pa_nil))))
      (pss_cons (ps_if (pt_cmp (pc_isN (pv 2)))
        (pss_one (ps_ret pe_non))
        pss_nil)
      (pss_cons (ps_asg (pv 2) (pg_unl rfl (pgs_cons (pg_name (i := 3) sc_L_machine.nd rfl (Or.inl rfl)) (pgs_cons (pg_name (i := 4) sc_L_machine.nd rfl (Or.inl rfl)) (pgs_cons (pg_name (i := 5) sc_L_machine.nd rfl (Or.inl rfl)) pgs_nil)))))
      (pss_cons (ps_set (i := 6) sc_L_machine.nd rfl (Or.inr rfl) (pe_lc (own := [("_law_lot", 9)]) (g := gName 9) (tt := tYes) rfl sc_L_machine.nd (pi_seqK (K := K) (pv 3)) (blkOk_by (N := N_L_machine) (sc := defScope s_L_machine) (own := [("_law_lot", 9)]) (by decide +kernel)) (fun _ _ _ _ _ => (pg_name (i := 9) sc_L_machine.nd rfl (by first | exact Or.inl rfl | exact Or.inr rfl))) (fun _ _ _ _ _ => pts_nil) (fun _ _ _ _ _ => (pe_callB (cr_minSK (K := K) rfl) (by rfl) c.b_min (by decide +kernel) (pa_cons (pe_lc (own := [("_law_x", 10), ("_law_y", 11)]) (g := gTup K 2 (gCons (gName 10) (gCons (gName 11) gNil))) (tt := tYes) rfl sc_L_machine.nd (pi_zipTLK (K := K) rfl c.b_zip (pa_cons (pv 9) (pa_cons (pe_ix (ix_seqK (K := K)) (pv 0) pe_int (fun _ _ => rfl)) pa_nil))) (blkOk_by (N := N_L_machine) (sc := ({ kind := PySem.ScopeKind.function, names := [ (PySem.Str.ofString ".0", PySem.NameKind.local), (PySem.Str.ofString "_law_lot", PySem.NameKind.local), (PySem.Str.ofString "min", PySem.NameKind.globalImplicit), (PySem.Str.ofString "zip", PySem.NameKind.globalImplicit), (PySem.Str.ofString "_law_world_here", PySem.NameKind.cell)], isGenerator := false, isCoroutine := false, more := [] : PySem.Scope })) (own := [("_law_x", 10), ("_law_y", 11)]) (by decide +kernel)) (fun _ _ _ _ _ => (pg_tup rfl (pgs_cons (pg_name (i := 10) sc_L_machine.nd rfl (by first | exact Or.inl rfl | exact Or.inr rfl)) (pgs_cons (pg_name (i := 11) sc_L_machine.nd rfl (by first | exact Or.inl rfl | exact Or.inr rfl)) pgs_nil)))) (fun _ _ _ _ _ => pts_nil) (fun _ _ _ _ _ => (pe_op op_add (pv 10) (pv 11)))) pa_nil)))))
      (pss_cons (ps_set (i := 7) sc_L_machine.nd rfl (Or.inl rfl) (pe_lst pa_nil))
      (pss_cons (ps_for PassesOwn.never rfl (pi_range1 rfl c.b_range (pa_cons (pe_callB (call_len_seqK (K := K)) (by rfl) c.b_len (by decide +kernel) (pa_cons (pv 5) pa_nil)) pa_nil)) (pg_name (i := 8) sc_L_machine.nd rfl (Or.inr rfl))
        (pss_one (ps_expr (pe_bm PySem.F.plainAttrs_list PySem.F.slot_list_append PySem.F.type_list_append mt_append (pv 7) (pa_cons (pe_lc (own := [("_law_step", 12)]) (g := gName 12) (tt := tYes) rfl sc_L_machine.nd (pi_seqK (K := K) (pe_ix (ix_seqK (K := K)) (pv 5) (pv 8) (fun _ _ => rfl))) (blkOk_by (N := N_L_machine) (sc := defScope s_L_machine) (own := [("_law_step", 12)]) (by decide +kernel)) (fun _ _ _ _ _ => (pg_name (i := 12) sc_L_machine.nd rfl (by first | exact Or.inl rfl | exact Or.inr rfl))) (fun _ _ _ _ _ => pts_nil) (fun _ _ _ _ _ => (pe_tup (pa_cons (pe_ix (ix_seqK (K := K)) (pv 12) pe_int (fun _ _ => rfl)) (pa_cons (pe_op op_sub (pe_op op_add (pe_ix (ix_seqK (K := K)) (pv 12) pe_int (fun _ _ => rfl)) (pe_ix (ix_seqK (K := K)) (pv 6) (pe_ix (ix_seqK (K := K)) (pv 12) pe_int (fun _ _ => rfl)) (fun _ _ => rfl))) (pe_ix (ix_seqK (K := K)) (pv 6) (pv 8) (fun _ _ => rfl))) pa_nil))))) pa_nil)))))
      (pss_one (ps_ret (pe_fn (fn_L_shrunk c) (hr.mono (by decide)) rfl (pa_cons (pe_ix (ix_seqK (K := K)) (pv 0) pe_int (fun _ _ => rfl)) (pa_cons (pe_op op_add (pe_callB (cr_minSK (K := K) rfl) (by rfl) c.b_min (by decide +kernel) (pa_cons (pe_ix (ix_seqK (K := K)) (pv 0) pe_int (fun _ _ => rfl)) pa_nil)) (pe_ix (ix_seqK (K := K)) (pv 6) pe_int (fun _ _ => rfl))) (pa_cons (pv 7) pa_nil)))))))))))), ?_⟩
    have hd' := hd
    obtain ⟨a, vb, vc, ve, rfl, hq, hb, hc, he⟩ := hd'
    obtain ⟨eA, zs, rfl, hqe, pe⟩ := he
    cases ints_of pe
    have hpos := wf.pos
    have hle := wf.le
    have hA3 : d.asks.cps.size ≤ 3 := (asks_len wf.asks).2
    refine ⟨_, rfl, _, rfl, M, H0, .ref a, d, most, rfl, hM, s0, wf, hd, hmost, fun H1 s1 => ?_, fun x T L St vr H1 st hxm s1 hT hL hS => ?_⟩
    · exact ⟨_, rfl, _, rfl, iteD rfl (qn _ s1)⟩
    refine ⟨_, rfl, _, rfl, iteND (fun e => nomatch e) ?_⟩
    refine ⟨_, rfl, T, _, rfl, .inl (.inl hT), rfl, _, _, rfl, _, _, rfl, _, _, rfl, rfl, ?_⟩
    have hM1 := dom_same hM s1
    have s01 := s0.trans s1
    obtain ⟨aL, us, eL, hqL, p⟩ := hL
    cases eL
    have hlen := Paired.length p
    refine ⟨_, rfl, L, us, rfl, .inl ⟨mk_same.seq hqL, fun D nD => ?_⟩⟩
    refine lc_map (j := 9) (M := M) walk_list (S := dTup K dInt) (R := dInt) (close d.ends) mT1 dInt_mono p nD hM1 (by omega) (fun H2 s2 => s2.seq (mk_same.seq hqL)) (fun u l H2 hl s2 s3 hu hM3 Q2 q2 => ?_) (fun H2 s2 ⟨ys, hD2, pD⟩ => ?_)
    · have hll := st.all l hl
      obtain ⟨b, ws, rfl, hqb, pb⟩ := hu
      cases ints_of pb
      have s02 := s01.trans s2
      refine ⟨_, rfl, _, rfl, ixq s02 hq (j := 3) rfl rfl ?_⟩
      refine ⟨b, eA, _, _, rfl, Same.tup mk_same hqb, s02.seq hqe, fun D2 nD2 => ?_⟩
      refine lc_gen (walk_zipTL (n := d.begins.length) (xs := l.map V.int) (ys := d.ends.map V.int) (by simp [hll]) (by simp [wf.el])) (fun i => l.getD i 0 + d.ends.getD i 0) (M := []) (R := dInt) dInt_mono nD2 (fun _ h => nomatch h) (by omega) (fun H3 s3 => ⟨Same.tup (mk_same.trans s3) hqb, (s02.trans s3).seq hqe⟩) ?_ ?_
      · rintro i x H3 H4 hi s3 _ _ _ ⟨T, x1, y1, rfl, nT, rfl, hx, hy⟩
        refine ⟨_, _, fun k q => pair_tgt upd_same q, rfl, fun Q3 q3 => ?_⟩
        have e1 : x1 = .int (l.getD i 0) := Option.some.inj (hx.symm.trans (ints_at (l := l) (i := i) (by omega)))
        have e2 : y1 = .int (d.ends.getD i 0) := Option.some.inj (hy.symm.trans (ints_at (l := d.ends) (i := i) (by rw [wf.el]; omega)))
        subst e1 e2
        exact ⟨_, rfl, _, rfl, _, _, rfl, rfl, q3 _ _ (same_upd nT) rfl⟩
      · rintro H3 s3 ⟨ys, h3, p3⟩
        rw [← hll, zipWith_range _ _ (by rw [hll, wf.el])] at p3
        refine min_of ⟨D2, ys, rfl, .inl (.inl (.inl h3)), p3⟩ (ne_of_len (b := d.ends) (by rw [addv_len _ _ (by rw [hll, wf.el]), hll, wf.el]) (fun e => by have := wf.el; rw [e] at this; simp at this; omega)) (q2 _ _ s3 rfl)
    cases ints_of pD
    have hD2' : H2 D = some (.lst ((x.lots.map (close d.ends)).map V.int)) := hD2
    have s12 := s1.trans s2
    have hM2 := dom_same hM1 s2
    refine ⟨Nat.zero_le _, fun It nIt => ?_⟩
    have sI : Same H2 (upd H2 It (.lst [])) := same_upd nIt
    have nI1 : H1 It = none := s2.free nIt
    have hDI : D ≠ It := ne_of_none hD2' nIt
    have hIM := notin_of hM2 nIt
    have hu2 := Same.trans (mk_same (M := M)) (s2.trans sI)
    refine ⟨_, rfl, lens_of hu2 (seq_lst hS) ⟨((x.steps.length : Nat) : Int), rfl, by have := st.len; omega, by have := st.len; omega, ?_⟩⟩
    have gm : ∀ j, j < x.lots.length → ((x.lots.map (close d.ends)).map V.int)[j]? = some (.int (close d.ends (x.lots.getD j []))) := fun j hj => by
      rw [List.getElem?_map, List.getElem?_map, getD_some hj []]; rfl
    refine for_range (lo := 0) (n := x.steps.length) (fun i σ H' => ∃ (vsI : List V) (x8 x9 x10 x11 x12 : Option V), σ = [some (.ref a), some (.int (most : Int)), some (.ref T), some (.ref L), some vr, some (.ref St), some (.ref D), some (.ref It), x8, x9, x10, x11, x12] ∧ Same H1 H' ∧ H' D = some (.lst ((x.lots.map (close d.ends)).map V.int)) ∧ H' It = some (.lst vsI) ∧ Paired (dLst K (dPair K dNat dInt) (mk (It :: M) H')) vsI ((List.range i).map (cRow d.ends x.lots x.steps)))
      ⟨[], none, none, none, none, none, rfl, s2.trans sI, sI _ _ hD2', upd_same, .nil⟩ ?_ ?_
    · rintro k σ H3 hk ⟨vsI, x8, x9, x10, x11, x12, rfl, s3, hD3, hI3, pI⟩
      rw [Int.zero_add]
      have hkl : k < x.lots.length := by rw [← st.len]; omega
      obtain ⟨r1, r2⟩ := st.it k hkl
      have bs := Same.trans (mk_same (M := M)) s3
      refine ⟨_, rfl, ty_lst hI3, _, rfl, _, rfl, ixs_of bs (seq_lst hS) (j := k) rfl (getD_some hk []) fun ur hur => ?_⟩
      obtain ⟨e, ws, rfl, hqe2, pe2⟩ := hur
      have hwl : ws.length = d.asks.cps.size := by rw [Paired.length pe2]; exact r1
      refine ⟨e, ws, rfl, .inl ⟨bs.seq hqe2, fun D2 nD2 => ?_⟩⟩
      have dom3 : ∀ p ∈ It :: M, H3 p ≠ none := dom_cons (dom_same hM1 s3) hI3
      have pe' : Paired (dPair K dNat dInt (mk (It :: M) H3)) ws (x.steps.getD k []) := Paired.mono (fun _ _ => mPair _ _ _ _ (mk_new2 (mk_mono s3) nI1)) pe2
      refine lc_map (j := 12) (M := It :: M) walk_list (S := dPair K dNat dInt) (R := dPair K dNat dInt) (fun s => (s.1, s.2 + close d.ends (x.lots.getD s.1 []) - close d.ends (x.lots.getD k []))) mPair mPair pe' nD2 dom3 (by omega) (fun H4 s4 => (bs.trans s4).seq hqe2) (fun u s H4 hs s4 s5 hu hM4 Q2 q2 => ?_) (fun H4 s4 ⟨ys, hD4, pD4⟩ => ?_)
      · obtain ⟨i, hi⟩ := List.getElem?_of_mem hs
        have hiA : i < d.asks.cps.size := by have := (List.getElem?_eq_some_iff.mp hi).1; omega
        have hs1 : s.1 < x.lots.length := by
          have h := (r2 i hiA).1
          have e' : nx x.steps k i = s.1 := by unfold nx; rw [List.getD_eq_getElem?_getD (l := x.steps.getD k []), hi]; rfl
          rw [e'] at h; exact h
        have hD4 : H4 D = some (.lst ((x.lots.map (close d.ends)).map V.int)) := s4 _ _ hD3
        refine ⟨_, rfl, px0 mk_same hu fun y1 hy1 => ⟨_, rfl, px1 mk_same hu fun y2 hy2 => ?_⟩⟩
        cases (show y1 = .int (s.1 : Int) from hy1)
        cases (show y2 = .int s.2 from hy2)
        refine ⟨_, rfl, _, rfl, px0 mk_same hu fun y3 hy3 => ?_⟩
        cases (show y3 = .int (s.1 : Int) from hy3)
        refine ixL_of hD4 (j := s.1) rfl (gm _ hs1) ⟨_, _, rfl, rfl, _, rfl, _, rfl, ixL_of hD4 (j := k) rfl (gm _ hkl) ⟨_, _, rfl, rfl, ?_⟩⟩
        refine ⟨by show 2 ≤ sizeLine; decide, fun T2 nT2 => q2 _ _ (same_upd nT2) ⟨T2, _, _, rfl, .inl (.inl ?_), rfl, rfl⟩⟩
        rw [mk_out (notin_of hM4 nT2)]; exact upd_same
      · have hI5 := s4 _ _ hI3
        have hil : vsI.length = k := by have := Paired.length pI; simpa using this
        refine ⟨_, _, _, rfl, rfl, hI5, len_ok (by omega), ?_⟩
        have eM : ∀ o, mk (It :: M) (upd H4 It o) = mk (It :: M) H4 := fun o => mk_upd_in (by simp)
        refine ⟨vsI ++ [.ref D2], _, _, _, _, _, rfl, same_upd2 (s3.trans s4) nI1, ?_, upd_same, ?_⟩
        · rw [upd_ne hDI]; exact s4 _ _ hD3
        · rw [eM, List.range_succ, List.map_append]
          exact Paired.snoc (Paired.mono (fun _ _ => mLP _ _ _ _ (mk_mono s4)) pI) (lst_at hD4 (notin_of dom3 nD2) pD4)
    · rintro σ H3 ⟨vsI, x8, x9, x10, x11, x12, rfl, s3, hD3, hI3, pI⟩
      have s03 := s01.trans s3
      have h0 := st.zero
      have hlp : 0 < x.lots.length := (List.getElem?_eq_some_iff.mp h0).1
      refine ⟨_, rfl, ixq s03 hq (j := 0) rfl rfl ?_⟩
      refine ⟨_, rfl, ixq s03 hq (j := 1) rfl rfl (min_of (mS1 _ _ _ _ s03 (seq_lst hb)) (List.length_pos_iff.mp hpos) ?_)⟩
      refine ⟨_, rfl, ixL_of hD3 (j := 0) rfl (gm 0 hlp) ⟨_, _, rfl, rfl, _, rfl, ?_⟩⟩
      have hlc : (closed d.ends x.lots x.steps).length = x.lots.length := by rw [closed_len, st.len]
      refine ⟨M, d.asks, _, .ref It, closed d.ends x.lots x.steps, rfl, dom_same hM1 s3, wf.asks, closed_valid st, by omega, by omega, ⟨It, vsI, rfl, .inl (.inl hI3), ?_⟩, fun N T2 vi vr2 H4 dn hN s4 hT2 hvi hvr => ?_⟩
      · rw [closed_eq]
        exact Paired.mono (fun _ _ => mLP _ _ _ _ mk_same) pI
      · exact q x N T2 vi vr2 H4 st hxm dn (by omega) (s1.trans (s3.trans s4)) hT2 hvi
def sp_L_went (K : PySem.W.Frag) : Sp := fun vs H Q _ => ∃ (H0 : Hp) (A : Str) (v : V) (st : Steps) (i : Nat) (ks : List Nat), vs = [v, .str A, .int (i : Int), .str (rowS A ks)] ∧ Same H0 H ∧ Asks A ∧ Valid A.cps.size st ∧ dStepsLL K H0 v st ∧ i < st.length ∧ (∀ k ∈ ks, k < A.cps.size) ∧
  ∀ T H', Same H H' → H T = none → H' T = some (.lst [.int ((goK st i ks : Nat) : Int), .int (gain st i ks)]) → Q (.ref T) H'
theorem fn_L_went (c : Env K mg cSt cSg cMa cVe cRl) : Fn P w K mg base "_law_went" 1 P_L_went (sp_L_went K) := by
  refine fn_ok c.d_L_went sc_L_went (fun _ _ _ _ _ _ us hl => match us, hl with | [_, _, _, _], _ => rfl) (fun vs H Q E h => ?_) (fun f cdv A outer s H vs Q E hr h => ?_)
  · obtain ⟨H0, A, v, st, i, ks, rfl, s0, hA, vld, hv, hi, hk, q⟩ := h
    rfl
  · obtain ⟨H0, A, v, st, i, ks, rfl, s0, hA, vld, hv, hi, hk, q⟩ := h
    refine ⟨_, (pss_cons (ps_set (i := 4) sc_L_went.nd rfl (Or.inl rfl) pe_int)
      (pss_cons (ps_for PassesOwn.never rfl (pi_str (pv 3)) (pg_name (i := 5) sc_L_went.nd rfl (Or.inl rfl))
        (pss_cons (ps_set (i := 6) sc_L_went.nd rfl (Or.inl rfl) (pe_ix (ix_seqK (K := K)) (pe_ix (ix_seqK (K := K)) (pv 0) (pv 2) (fun _ _ => rfl)) (pe_m1 PySem.F.slot_str_find PySem.F.type_str_find mt_find (pv 1) (pv 5)) (fun _ _ => rfl)))
        (pss_cons (ps_set (i := 2) sc_L_went.nd rfl (Or.inl rfl) (pe_ix (ix_seqK (K := K)) (pv 6) pe_int (fun _ _ => rfl)))
        (pss_one (ps_set (i := 4) sc_L_went.nd rfl (Or.inl rfl) (pe_op op_add (pv 4) (pe_ix (ix_seqK (K := K)) (pv 6) pe_int (fun _ _ => rfl))))))))
      (pss_one (ps_ret (pe_lst (pa_cons (pv 2) (pa_cons (pv 4) pa_nil))))))), ?_⟩
    refine ⟨_, rfl, _, rfl, ?_⟩
    refine for_it (walk_str) (fun j σ H' => ∃ x5 x6, σ = [some v, some (.str A), some (.int ((goK st i (ks.take j) : Nat) : Int)), some (.str (rowS A ks)), some (.int (gain st i (ks.take j))), x5, x6] ∧ H' = H) ⟨none, none, rfl, rfl⟩ (fun _ _ _ _ _ => trivial) ?_ ?_
    · rintro j x σ H1 H2 hj ⟨x5, x6, rfl, rfl⟩ ⟨rfl, cc, hcc, rfl⟩
      obtain ⟨k, hk1, rfl⟩ := rowS_at hcc
      have hkA := hk k (List.mem_of_getElem? hk1)
      have hg := goK_lt vld (ks.take j) i hi fun k' h' => hk k' (List.mem_of_mem_take h')
      obtain ⟨v1, v2⟩ := vld _ hg
      refine ⟨_, rfl, _, rfl, ixs_of s0 (seq_lst hv) (j := goK st i (ks.take j)) rfl (getD_some hg []) fun u1 hu1 => ?_⟩
      have e : Txt.find A ⟨#[cp A k]⟩ = (k : Int) := asks_find A hA k hkA
      refine ⟨_, rfl, ⟨_, rfl⟩, _, rfl, _, _, rfl, rfl, ?_⟩
      rw [e]
      refine ixs_of s0 (seq_lst hu1) (j := k) rfl (getD_some (by rw [v1]; exact hkA) (0, 0)) fun u2 hu2 => ?_
      refine ⟨_, rfl, px0 s0 hu2 fun x hx => ?_⟩
      cases (show x = .int ((nx st (goK st i (ks.take j)) k : Nat) : Int) from hx)
      refine ⟨_, rfl, _, rfl, px1 s0 hu2 fun y hy => ?_⟩
      cases (show y = .int (ad st (goK st i (ks.take j)) k) from hy)
      refine ⟨_, _, rfl, rfl, ?_⟩
      have e1 : ks.take (j + 1) = ks.take j ++ [k] := by rw [List.take_add_one, hk1]; rfl
      refine ⟨some (.str ⟨#[cp A k]⟩), some u2, ?_, rfl⟩
      rw [e1, goK_append, gain_append]
      show _ = ([_, _, some (V.int ((nx st (goK st i (ks.take j)) k : Nat) : Int)), _, some (V.int (gain st i (ks.take j) + (ad st (goK st i (ks.take j)) k + 0))), _, _] : L2.St)
      rw [Int.add_zero]
      rfl
    · rintro σ H1 ⟨x5, x6, rfl, rfl⟩
      refine ⟨_, rfl, _, rfl, by show 2 ≤ sizeLine; decide, fun T nT => q T _ (same_upd nT) nT ?_⟩
      rw [upd_same, rowS_size, List.take_length]
end
end AW
namespace AW
open PySem PySem.Spec PyProof.Rows L2
/-- the same datum, told and due -/
def ExR (K : PySem.W.Frag) : Nat → Hp → V → V → Prop
  | 0 => fun _ u v => (∃ i, u = .int i ∧ v = .int i) ∨ ∃ z, u = .str z ∧ v = .str z
  | n + 1 => fun H u v => ((∃ i, u = .int i ∧ v = .int i) ∨ ∃ z, u = .str z ∧ v = .str z) ∨ ∃ a b us vs, u = .ref a ∧ v = .ref b ∧ SqT K H a us ∧ SqT K H b vs ∧ Paired (ExR K n H) us vs
theorem ExR.mono {K : PySem.W.Frag} {H H' : Hp} (s : Same H H') : ∀ {n : Nat} {u v : V}, ExR K n H u v → ExR K n H' u v
  | 0, _, _, h => h
  | n + 1, _, _, h => h.imp id fun ⟨a, b, us, vs, e1, e2, h1, h2, p⟩ => ⟨a, b, us, vs, e1, e2, Same.tup s h1, Same.tup s h2, Paired.mono (fun _ _ => ExR.mono s) p⟩
theorem sqt_ty {K : PySem.W.Frag} {H : Hp} {a : Addr} {vs : List V} (h : SqT K H a vs) : TyX K H (.ref a) (.type "tuple") := by
  rcases h with (h | ⟨o, h⟩) | ⟨o, its, n, hk, hc, _⟩
  · exact .base (.tup h)
  · exact .fTuple h
  · exact .kTuple hk hc
theorem lenT_of {K : PySem.W.Frag} {H : Hp} {Q : VK} {a : Addr} {vs : List V} (h : SqT K H a vs) (q : Q (.int (vs.length : Int)) H) : rLenQ K [.ref a] H Q := by
  unfold rLenQ
  exact ⟨a, vs, rfl, .inr h, q⟩
section
variable {P : Program} {w : World} {K : PySem.W.Frag} {mg : Str → Option Value} {base : Heap} {cSt cSg cMa cVe cRl : Addr}
def sp_L_is_int (K : PySem.W.Frag) : Sp := fun vs H Q _ => ∃ i, vs = [.int i] ∧ Q (.bl true) H
theorem fn_L_is_int (c : Env K mg cSt cSg cMa cVe cRl) : Fn P w K mg base "_law_is_int" 1 P_L_is_int (sp_L_is_int K) := by
  refine fn_ok c.d_L_is_int sc_L_is_int (fun _ _ _ _ _ _ us hl => match us, hl with | [_], _ => rfl) (fun vs H Q E h => ?_) (fun f cdv A outer s H vs Q E hr h => ?_)
  · obtain ⟨i, rfl, q⟩ := h
    rfl
  · obtain ⟨i, rfl, q⟩ := h
    refine ⟨_, (pss_one (ps_ret (pe_and (pe_callB (call_isiK (K := K)) (by rfl) c.b_isinstance (by decide +kernel) (pa_cons (pv 0) (pa_cons (pe_bltn (v := .ty "int") rfl c.b_int (by decide +kernel) rfl) pa_nil))) (pe_one (pe_not (pe_callB (call_isiK (K := K)) (by rfl) c.b_isinstance (by decide +kernel) (pa_cons (pv 0) (pa_cons (pe_bltn (v := .ty "bool") rfl c.b_bool (by decide +kernel) rfl) pa_nil)))))))), ?_⟩
    refine ⟨_, rfl, isi_of (.base (.int i)) (b := true) (by decide +kernel) ⟨true, rfl, iteT ?_⟩⟩
    exact ⟨_, rfl, isi_of (.base (.int i)) (b := false) (by decide +kernel) ⟨false, rfl, q⟩⟩
def sp_L_exact (K : PySem.W.Frag) (n : Nat) : Sp := fun vs H Q _ => ∃ u v, vs = [u, v] ∧ ExR K n H u v ∧ ∀ H', Same H H' → Q (.bl true) H'
theorem fn_L_exact (c : Env K mg cSt cSg cMa cVe cRl) : ∀ n, Fn P w K mg base "_law_exact" (n + 2) P_L_exact (sp_L_exact K n)
  | 0 => by
    refine fn_ok c.d_L_exact sc_L_exact (fun _ _ _ _ _ _ us hl => match us, hl with | [_, _], _ => rfl) (fun vs H Q E h => ?_) (fun f cdv A outer s H vs Q E hr h => ?_)
    · obtain ⟨_, _, rfl, _⟩ := h
      rfl
    · obtain ⟨u, v, rfl, hx, q⟩ := h
      refine ⟨_, (pss_cons (ps_if (pt_val (pe_callB (call_isiK (K := K)) (by rfl) c.b_isinstance (by decide +kernel) (pa_cons (pv 1) (pa_cons (pe_bltn (v := .ty "tuple") rfl c.b_tuple (by decide +kernel) rfl) pa_nil))))
        (pss_cons ps_never (pss_cons ps_never (pss_one ps_never)))
        pss_nil)
      (pss_cons (ps_if (pt_cmp (pc_isN (pv 1)))
        (pss_one (ps_ret (pe_cmp (pc_isN (pv 0)) rfl)))
        pss_nil)
      (pss_cons (ps_if (pt_cmpR op_isBool (pv 1) pe_bl (nomark _))
        (pss_one (ps_ret (pe_cmpR op_isBool (pv 0) pe_bl (nomark _))))
        pss_nil)
      (pss_cons (ps_if (pt_cmpR op_isBool (pv 1) pe_bl (nomark _))
        (pss_one (ps_ret (pe_cmpR op_isBool (pv 0) pe_bl (nomark _))))
        pss_nil)
      (pss_cons (ps_if (pt_val (pe_callB (call_isiK (K := K)) (by rfl) c.b_isinstance (by decide +kernel) (pa_cons (pv 1) (pa_cons (pe_bltn (v := .ty "str") rfl c.b_str (by decide +kernel) rfl) pa_nil))))
        (pss_one (ps_ret (pe_and (pe_callB (call_isiK (K := K)) (by rfl) c.b_isinstance (by decide +kernel) (pa_cons (pv 0) (pa_cons (pe_bltn (v := .ty "str") rfl c.b_str (by decide +kernel) rfl) pa_nil))) (pe_one (pe_cmpR op_eq (pv 0) (pv 1) (nomark _))))))
        pss_nil)
      (pss_one (ps_ret (pe_and (pe_fn (fn_L_is_int c) (hr.mono (by decide)) rfl (pa_cons (pv 0) pa_nil)) (pe_one (pe_cmpR op_eq (pv 0) (pv 1) (nomark _))))))))))), ?_⟩
      rcases hx with ⟨i, rfl, rfl⟩ | ⟨z, rfl, rfl⟩
      · refine ⟨_, rfl, isi_of (.base (.int i)) (b := false) (by decide +kernel) ⟨false, rfl, iteF ?_⟩⟩
        refine ⟨_, rfl, _, rfl, iteND (fun e => nomatch e) ?_⟩
        refine ⟨_, rfl, true, rfl, rfl, _, rfl, iteND (fun e => nomatch e) ?_⟩
        refine ⟨_, rfl, false, rfl, rfl, _, rfl, iteND (fun e => nomatch e) ?_⟩
        refine ⟨_, rfl, isi_of (.base (.int i)) (b := false) (by decide +kernel) ⟨false, rfl, iteF ?_⟩⟩
        exact ⟨_, rfl, i, rfl, true, rfl, iteT ⟨_, rfl, _, rfl, rfl, q_true rfl (q _ (Same.refl _))⟩⟩
      · refine ⟨_, rfl, isi_of (.base (.str z)) (b := false) (by decide +kernel) ⟨false, rfl, iteF ?_⟩⟩
        refine ⟨_, rfl, _, rfl, iteND (fun e => nomatch e) ?_⟩
        refine ⟨_, rfl, true, rfl, rfl, _, rfl, iteND (fun e => nomatch e) ?_⟩
        refine ⟨_, rfl, false, rfl, rfl, _, rfl, iteND (fun e => nomatch e) ?_⟩
        refine ⟨_, rfl, isi_of (.base (.str z)) (b := true) (by decide +kernel) ⟨true, rfl, iteT ?_⟩⟩
        exact ⟨_, rfl, isi_of (.base (.str z)) (b := true) (by decide +kernel) ⟨true, rfl, iteT ⟨_, rfl, _, rfl, rfl, q_true rfl (q _ (Same.refl _))⟩⟩⟩
  | n + 1 => by
    refine fn_ok c.d_L_exact sc_L_exact (fun _ _ _ _ _ _ us hl => match us, hl with | [_, _], _ => rfl) (fun vs H Q E h => ?_) (fun f cdv A outer s H vs Q E hr h => ?_)
    · obtain ⟨_, _, rfl, _⟩ := h
      rfl
    · obtain ⟨u, v, rfl, hx, q⟩ := h
      refine ⟨_, (pss_cons (ps_if (pt_val (pe_callB (call_isiK (K := K)) (by rfl) c.b_isinstance (by decide +kernel) (pa_cons (pv 1) (pa_cons (pe_bltn (v := .ty "tuple") rfl c.b_tuple (by decide +kernel) rfl) pa_nil))))
        (pss_cons (ps_if (PW.pt (pw_or (pt_not (pt_val (pe_callB (call_isiK (K := K)) (by rfl) c.b_isinstance (by decide +kernel) (pa_cons (pv 0) (pa_cons (pe_bltn (v := .ty "tuple") rfl c.b_tuple (by decide +kernel) rfl) pa_nil))))) (pw_or1 (pt_cmpR op_ne (pe_callB (call_len_seqK (K := K)) (by rfl) c.b_len (by decide +kernel) (pa_cons (pv 0) pa_nil)) (pe_callB (call_len_seqK (K := K)) (by rfl) c.b_len (by decide +kernel) (pa_cons (pv 1) pa_nil)) (nomark _)))))
          (pss_one (ps_ret pe_bl))
          pss_nil)
        (pss_cons (ps_for PassesOwn.never rfl (pi_zipAK (K := K) rfl c.b_zip (pa_cons (pv 0) (pa_cons (pv 1) pa_nil))) (pg_tup rfl (pgs_cons (pg_name (i := 2) sc_L_exact.nd rfl (Or.inl rfl)) (pgs_cons (pg_name (i := 3) sc_L_exact.nd rfl (Or.inl rfl)) pgs_nil)))
          (pss_one (ps_if (pt_not (pt_val (pe_fn (fn_L_exact c n) (hr.mono (by omega)) rfl (pa_cons (pv 2) (pa_cons (pv 3) pa_nil)))))
            (pss_one (ps_ret pe_bl))
            pss_nil)))
        (pss_one (ps_ret pe_bl))))
        pss_nil)
      (pss_cons (ps_if (pt_cmp (pc_isN (pv 1)))
        (pss_one (ps_ret (pe_cmp (pc_isN (pv 0)) rfl)))
        pss_nil)
      (pss_cons (ps_if (pt_cmpR op_isBool (pv 1) pe_bl (nomark _))
        (pss_one (ps_ret (pe_cmpR op_isBool (pv 0) pe_bl (nomark _))))
        pss_nil)
      (pss_cons (ps_if (pt_cmpR op_isBool (pv 1) pe_bl (nomark _))
        (pss_one (ps_ret (pe_cmpR op_isBool (pv 0) pe_bl (nomark _))))
        pss_nil)
      (pss_cons (ps_if (pt_val (pe_callB (call_isiK (K := K)) (by rfl) c.b_isinstance (by decide +kernel) (pa_cons (pv 1) (pa_cons (pe_bltn (v := .ty "str") rfl c.b_str (by decide +kernel) rfl) pa_nil))))
        (pss_one (ps_ret (pe_and (pe_callB (call_isiK (K := K)) (by rfl) c.b_isinstance (by decide +kernel) (pa_cons (pv 0) (pa_cons (pe_bltn (v := .ty "str") rfl c.b_str (by decide +kernel) rfl) pa_nil))) (pe_one (pe_cmpR op_eq (pv 0) (pv 1) (nomark _))))))
        pss_nil)
      (pss_one (ps_ret (pe_and (pe_fn (fn_L_is_int c) (hr.mono (by omega)) rfl (pa_cons (pv 0) pa_nil)) (pe_one (pe_cmpR op_eq (pv 0) (pv 1) (nomark _))))))))))), ?_⟩
      rcases hx with (⟨i, rfl, rfl⟩ | ⟨z, rfl, rfl⟩) | ⟨a, b, us, vs, rfl, rfl, ha, hb, p⟩
      · refine ⟨_, rfl, isi_of (.base (.int i)) (b := false) (by decide +kernel) ⟨false, rfl, iteF ?_⟩⟩
        refine ⟨_, rfl, _, rfl, iteND (fun e => nomatch e) ?_⟩
        refine ⟨_, rfl, true, rfl, rfl, _, rfl, iteND (fun e => nomatch e) ?_⟩
        refine ⟨_, rfl, false, rfl, rfl, _, rfl, iteND (fun e => nomatch e) ?_⟩
        refine ⟨_, rfl, isi_of (.base (.int i)) (b := false) (by decide +kernel) ⟨false, rfl, iteF ?_⟩⟩
        exact ⟨_, rfl, i, rfl, true, rfl, iteT ⟨_, rfl, _, rfl, rfl, q_true rfl (q _ (Same.refl _))⟩⟩
      · refine ⟨_, rfl, isi_of (.base (.str z)) (b := false) (by decide +kernel) ⟨false, rfl, iteF ?_⟩⟩
        refine ⟨_, rfl, _, rfl, iteND (fun e => nomatch e) ?_⟩
        refine ⟨_, rfl, true, rfl, rfl, _, rfl, iteND (fun e => nomatch e) ?_⟩
        refine ⟨_, rfl, false, rfl, rfl, _, rfl, iteND (fun e => nomatch e) ?_⟩
        refine ⟨_, rfl, isi_of (.base (.str z)) (b := true) (by decide +kernel) ⟨true, rfl, iteT ?_⟩⟩
        exact ⟨_, rfl, isi_of (.base (.str z)) (b := true) (by decide +kernel) ⟨true, rfl, iteT ⟨_, rfl, _, rfl, rfl, q_true rfl (q _ (Same.refl _))⟩⟩⟩
      · have hl := Paired.length p
        refine ⟨_, rfl, isi_of (sqt_ty hb) (b := true) (by decide +kernel) ⟨true, rfl, iteT ?_⟩⟩
        refine ⟨_, rfl, isi_of (sqt_ty ha) (b := true) (by decide +kernel) ⟨true, rfl, iteF ?_⟩⟩
        refine ⟨_, rfl, lenT_of ha ⟨_, rfl, lenT_of hb ⟨rfl, _, rfl, iteN1 (by rw [hl]) ?_⟩⟩⟩
        refine ⟨_, rfl, _, rfl, a, b, us, vs, rfl, .inr ⟨ha, hb, ?_⟩⟩
        refine for_it (walk_zipTT (n := us.length) (xs := us) (ys := vs) rfl hl.symm) (fun i σ H' => ∃ x2 x3, σ = [some (.ref a), some (.ref b), x2, x3] ∧ Same H H') ⟨none, none, rfl, Same.refl _⟩ (fun i σ H' _ ⟨_, _, _, s⟩ => ⟨Same.tup s ha, Same.tup s hb⟩) ?_ ?_
        · rintro i x σ H1 H2 hi ⟨x2, x3, rfl, s1⟩ ⟨T, y1, y2, rfl, nT, rfl, hy1, hy2⟩
          refine pair_tgt upd_same ?_
          have s2 := s1.trans (same_upd (o := .tup [y1, y2]) nT)
          obtain ⟨z, hz, r⟩ := pget p hy1
          have e : z = y2 := Option.some.inj (hz.symm.trans hy2)
          subst e
          exact ⟨_, rfl, _, rfl, y1, z, rfl, ExR.mono s2 r, fun H3 s3 => ⟨true, rfl, iteF ⟨_, _, rfl, s2.trans s3⟩⟩⟩
        · rintro σ H1 ⟨x2, x3, rfl, s1⟩
          exact q _ s1
def sp_L_steps_due (K : PySem.W.Frag) : Sp := fun vs H Q _ => ∃ (H0 : Hp) (v : V) (st : Steps), vs = [v] ∧ Same H0 H ∧ dStepsLL K H0 v st ∧ st.length ≤ 1000 ∧ (∀ row ∈ st, row.length ≤ 1000) ∧ ∀ u H', Same H H' → dSteps K H' u st → Q u H'
theorem fn_L_steps_due (c : Env K mg cSt cSg cMa cVe cRl) : Fn P w K mg base "_law_steps_due" 1 P_L_steps_due (sp_L_steps_due K) := by
  refine fn_ok c.d_L_steps_due sc_L_steps_due (fun _ _ _ _ _ _ us hl => match us, hl with | [_], _ => rfl) (fun vs H Q E h => ?_) (fun f cdv A outer s H vs Q E hr h => ?_)
  · obtain ⟨H0, v, st, rfl, s0, hv, hl, hrl, q⟩ := h
    rfl
  · obtain ⟨H0, v, st, rfl, s0, hv, hl, hrl, q⟩ := h
    refine ⟨_, (pss_one (ps_ret (pe_callTy (call_tuple_ofK (K := K)) (by rfl) c.b_tuple (by decide +kernel) (pa_cons (pe_lc (own := [("_law_item", 1)]) (g := gName 1) (tt := tYes) rfl sc_L_steps_due.nd (pi_seqK (K := K) (pv 0)) (blkOk_by (N := N_L_steps_due) (sc := defScope s_L_steps_due) (own := [("_law_item", 1)]) (by decide +kernel)) (fun _ _ _ _ _ => (pg_name (i := 1) sc_L_steps_due.nd rfl (by first | exact Or.inl rfl | exact Or.inr rfl))) (fun _ _ _ _ _ => pts_nil) (fun _ _ _ _ _ => (pe_callTy (call_tuple_ofK (K := K)) (by rfl) c.b_tuple (by decide +kernel) (pa_cons (pe_lc (own := [("_law_step", 2)]) (g := gName 2) (tt := tYes) rfl sc_L_steps_due.nd (pi_seqK (K := K) (pv 1)) (blkOk_by (N := N_L_steps_due) (sc := ({ kind := PySem.ScopeKind.function, names := [ (PySem.Str.ofString ".0", PySem.NameKind.local), (PySem.Str.ofString "_law_item", PySem.NameKind.local), (PySem.Str.ofString "tuple", PySem.NameKind.globalImplicit)], isGenerator := false, isCoroutine := false, more := [] : PySem.Scope })) (own := [("_law_step", 2)]) (by decide +kernel)) (fun _ _ _ _ _ => (pg_name (i := 2) sc_L_steps_due.nd rfl (by first | exact Or.inl rfl | exact Or.inr rfl))) (fun _ _ _ _ _ => pts_nil) (fun _ _ _ _ _ => (pe_tup (pa_cons (pe_ix (ix_seqK (K := K)) (pv 2) pe_int (fun _ _ => rfl)) (pa_cons (pe_ix (ix_seqK (K := K)) (pv 2) pe_int (fun _ _ => rfl)) pa_nil))))) pa_nil)))) pa_nil)))), ?_⟩
    obtain ⟨a, us, rfl, hq, p⟩ := hv
    have hlen := Paired.length p
    refine ⟨_, rfl, a, us, rfl, .inl ⟨s0.seq hq, fun D nD => ?_⟩⟩
    refine lc_map (j := 1) (M := []) walk_list (S := dLst K (dPair K dNat dInt)) (R := dTup K (dPair K dNat dInt)) (xs := st) (fun r => r) mLP (dTup_mono mPair) (by rw [mk_nil]; exact Paired.mono (fun _ _ => mLP _ _ _ _ s0) p) nD (fun _ h => nomatch h) (by omega) (fun H2 s2 => (s0.trans s2).seq hq) (fun x row H1 hr s1 m1 hx hM1 Q1 q1 => ?_) (fun H1 s1 ⟨ys, h1, p1⟩ => ?_)
    · obtain ⟨b, ws, rfl, hqb, pb⟩ := hx
      have lb := Paired.length pb
      have := hrl row hr
      refine ⟨_, rfl, b, ws, rfl, .inl ⟨mk_same.seq hqb, fun D2 nD2 => ?_⟩⟩
      refine lc_map (j := 2) (M := [D]) walk_list (S := dPair K dNat dInt) (R := dPair K dNat dInt) (fun s => s) mPair mPair pb nD2 hM1 (by omega) (fun H2 s2 => s2.seq (mk_same.seq hqb)) (fun y s H2 hs s2 m2 hy hM2 Q2 q2 => ?_) (fun H2 s2 ⟨ys, h2, p2⟩ => ?_)
      · refine ⟨_, rfl, px0 mk_same hy fun z1 hz1 => ⟨_, rfl, px1 mk_same hy fun z2 hz2 => ⟨by show 2 ≤ sizeLine; decide, fun T nT => q2 _ _ (same_upd nT) ⟨T, _, _, rfl, .inl (.inl ?_), hz1, hz2⟩⟩⟩⟩
        rw [mk_out (notin_of hM2 nT)]; exact upd_same
      · rw [List.map_id'] at p2
        refine tuple_of h2 fun l nl => q1 _ _ (s2.trans (same_upd nl)) (tup_new mPair nl (notin_of (dom_same hM1 s2) nl) p2)
    · rw [List.map_id', mk_nil] at p1
      refine tuple_of h1 fun l nl => q _ _ (s1.trans (same_upd nl)) ⟨l, ys, rfl, .inl (.inl upd_same), Paired.mono (fun _ _ => dTup_mono mPair _ _ _ _ (same_upd nl)) p1⟩
def sp_L_sign (K : PySem.W.Frag) : Sp := fun vs H Q _ => ∃ (a b : Addr) (lead : List Nat) (gains : List Int), vs = [.ref a, .ref b] ∧ H a = some (.lst (natV lead)) ∧ H b = some (.lst (gains.map V.int)) ∧ 0 < gains.length ∧ gains.length ≤ 1000 ∧
  ∀ T ta tb H', Same H H' → H' T = some (.tup [.ref ta, .ref tb]) → H' ta = some (.tup (natV lead)) → H' tb = some (.tup ((gains.map fun g => g - gains.getD 0 0).map V.int)) → Q (.ref T) H'
theorem fn_L_sign (c : Env K mg cSt cSg cMa cVe cRl) : Fn P w K mg base "_law_sign" 1 P_L_sign (sp_L_sign K) := by
  refine fn_ok c.d_L_sign sc_L_sign (fun _ _ _ _ _ _ us hl => match us, hl with | [_, _], _ => rfl) (fun vs H Q E h => ?_) (fun f cdv A outer s H vs Q E hr h => ?_)
  · obtain ⟨a, b, lead, gains, rfl, ha, hb, h0, hl, q⟩ := h
    rfl
  · obtain ⟨a, b, lead, gains, rfl, ha, hb, h0, hl, q⟩ := h
    refine ⟨_, (pss_one (ps_ret (pe_tup (pa_cons (pe_callTy (call_tuple_ofK (K := K)) (by rfl) c.b_tuple (by decide +kernel) (pa_cons (pv 0) pa_nil)) (pa_cons (pe_callTy (call_tuple_ofK (K := K)) (by rfl) c.b_tuple (by decide +kernel) (pa_cons (pe_lc (own := [("_law_number", 2)]) (g := gName 2) (tt := tYes) rfl sc_L_sign.nd (pi_seqK (K := K) (pv 1)) (blkOk_by (N := N_L_sign) (sc := defScope s_L_sign) (own := [("_law_number", 2)]) (by decide +kernel)) (fun _ _ _ _ _ => (pg_name (i := 2) sc_L_sign.nd rfl (by first | exact Or.inl rfl | exact Or.inr rfl))) (fun _ _ _ _ _ => pts_nil) (fun _ _ _ _ _ => (pe_op op_sub (pv 2) (pe_ix (ix_seqK (K := K)) (pv 1) pe_int (fun _ _ => rfl))))) pa_nil)) pa_nil))))), ?_⟩
    refine ⟨_, rfl, tuple_of ha fun ta nta => ?_⟩
    have s1 : Same H (upd H ta (.tup (natV lead))) := same_upd nta
    refine ⟨_, rfl, b, _, rfl, .inl ⟨.inl (.inl (s1 _ _ hb)), fun D nD => ?_⟩⟩
    refine lc_map (j := 2) (M := []) walk_list (S := dInt) (R := dInt) (fun g => g - gains.getD 0 0) dInt_mono dInt_mono (of_ints gains) nD (fun _ h => nomatch h) (by rw [List.length_map]; omega) (fun H2 s2 => s2.seq (.inl (.inl (s1 _ _ hb)))) (fun u g H2 hg s2 m2 hu hM2 Q2 q2 => ?_) (fun H2 s2 ⟨ys, h2, p2⟩ => ?_)
    · cases (show u = .int g from hu)
      exact ⟨_, rfl, _, rfl, ixL_of (s2 _ _ (s1 _ _ hb)) (j := 0) rfl (ints_at h0) ⟨_, _, rfl, rfl, q2 _ _ (Same.refl _) rfl⟩⟩
    · cases ints_of p2
      refine tuple_of h2 fun tb ntb => ?_
      have s3 : Same H2 (upd H2 tb (.tup ((gains.map fun g => g - gains.getD 0 0).map V.int))) := same_upd ntb
      refine ⟨by show 2 ≤ sizeLine; decide, fun T nT => ?_⟩
      have s4 : Same (upd H2 tb (.tup ((gains.map fun g => g - gains.getD 0 0).map V.int))) (upd (upd H2 tb (.tup ((gains.map fun g => g - gains.getD 0 0).map V.int))) T (.tup [.ref ta, .ref tb])) := same_upd nT
      exact q T ta tb _ (s1.trans (s2.trans (s3.trans s4))) upd_same (s4 _ _ (s3 _ _ (s2 _ _ upd_same))) (s4 _ _ upd_same)
def sp_L_acts (K : PySem.W.Frag) : Sp := fun vs H Q _ => ∃ (H0 : Hp) (A : Str) (v : V) (st : Steps) (ks : List Nat), vs = [.str A, v, .str (rowS A ks)] ∧ Same H0 H ∧ Asks A ∧ Valid A.cps.size st ∧ dStepsLL K H0 v st ∧ 0 < st.length ∧ st.length ≤ 1000 ∧ (∀ k ∈ ks, k < A.cps.size) ∧
  ∀ T ta tb H', Same H H' → H' T = some (.tup [.ref ta, .ref tb]) → H' ta = some (.tup (natV (gk st ks))) → H' tb = some (.tup (((gg st ks).map fun g => g - (gg st ks).getD 0 0).map V.int)) → Q (.ref T) H'
theorem fn_L_acts (c : Env K mg cSt cSg cMa cVe cRl) : Fn P w K mg base "_law_acts" 2 P_L_acts (sp_L_acts K) := by
  refine fn_ok c.d_L_acts sc_L_acts (fun _ _ _ _ _ _ us hl => match us, hl with | [_, _, _], _ => rfl) (fun vs H Q E h => ?_) (fun f cdv A outer s H vs Q E hr h => ?_)
  · obtain ⟨H0, A, v, st, ks, rfl, s0, hA, vld, hv, h0, hl, hk, q⟩ := h
    rfl
  · obtain ⟨H0, A, v, st, ks, rfl, s0, hA, vld, hv, h0, hl, hk, q⟩ := h
    refine ⟨_, (pss_cons (ps_setLc (i := 3) (own := [("_law_kind", 4)]) (g := gName 4) (tt := tYes) rfl sc_L_acts.nd rfl rfl (sw_true rfl rfl rfl (by decide +kernel)) (pi_range1 rfl c.b_range (pa_cons (pe_callB (call_len_seqK (K := K)) (by rfl) c.b_len (by decide +kernel) (pa_cons (pv 1) pa_nil)) pa_nil)) (blkOk_by (N := N_L_acts) (sc := defScope s_L_acts) (own := [("_law_kind", 4)]) (by decide +kernel)) (fun _ _ _ _ _ => (pg_name (i := 4) sc_L_acts.nd rfl (by first | exact Or.inl rfl | exact Or.inr rfl))) (fun _ _ _ _ _ => pts_nil) (fun _ _ _ _ _ => (pe_fn (fn_L_went c) (hr.mono (by decide)) rfl (pa_cons (pv 1) (pa_cons (pv 0) (pa_cons (pv 4) (pa_cons (pv 2) pa_nil)))))))
      (pss_one (ps_ret (pe_fn (fn_L_sign c) (hr.mono (by decide)) rfl (pa_cons (pe_lc (own := [("_law_pair", 5)]) (g := gName 5) (tt := tYes) rfl sc_L_acts.nd (pi_seqK (K := K) (pv 3)) (blkOk_by (N := N_L_acts) (sc := defScope s_L_acts) (own := [("_law_pair", 5)]) (by decide +kernel)) (fun _ _ _ _ _ => (pg_name (i := 5) sc_L_acts.nd rfl (by first | exact Or.inl rfl | exact Or.inr rfl))) (fun _ _ _ _ _ => pts_nil) (fun _ _ _ _ _ => (pe_ix (ix_seqK (K := K)) (pv 5) pe_int (fun _ _ => rfl)))) (pa_cons (pe_lc (own := [("_law_pair", 5)]) (g := gName 5) (tt := tYes) rfl sc_L_acts.nd (pi_seqK (K := K) (pv 3)) (blkOk_by (N := N_L_acts) (sc := defScope s_L_acts) (own := [("_law_pair", 5)]) (by decide +kernel)) (fun _ _ _ _ _ => (pg_name (i := 5) sc_L_acts.nd rfl (by first | exact Or.inl rfl | exact Or.inr rfl))) (fun _ _ _ _ _ => pts_nil) (fun _ _ _ _ _ => (pe_ix (ix_seqK (K := K)) (pv 5) pe_int (fun _ _ => rfl)))) pa_nil)))))), ?_⟩
    refine ⟨_, rfl, lens_of s0 (seq_lst hv) ⟨((st.length : Nat) : Int), rfl, by omega, by omega, fun D nD => ?_⟩⟩
    refine lc_range (n := st.length) (M := []) (R := fun H' v (s : Nat × Int) => ∃ a, v = .ref a ∧ H' a = some (.lst [.int (s.1 : Int), .int s.2])) (fun i => (goK st i ks, gain st i ks)) (fun _ _ _ _ s ⟨a, e, h⟩ => ⟨a, e, s _ _ h⟩) nD (fun _ h => nomatch h) (by omega) (fun i H2 hi s2 s3 hM2 Q2 q2 => ?_) (fun H2 s2 ⟨ys, hD2, pD⟩ => ?_)
    · refine ⟨_, rfl, _, rfl, _, rfl, _, rfl, H0, A, v, st, i, ks, rfl, s0.trans s2, hA, vld, hv, hi, hk, fun T H3 s4 nT hT => q2 _ _ s4 ⟨T, rfl, ?_⟩⟩
      rw [mk_out (notin_of hM2 nT)]; exact hT
    rw [mk_nil] at pD
    have lenD := Paired.length pD
    rw [List.length_map, List.length_range] at lenD
    refine ⟨_, rfl, D, ys, rfl, .inl ⟨.inl (.inl hD2), fun D1 nD1 => ?_⟩⟩
    refine lc_map (j := 5) (M := []) walk_list (xs := (List.range st.length).map fun i => (goK st i ks, gain st i ks)) (S := fun H' v (s : Nat × Int) => ∃ a, v = .ref a ∧ H' a = some (.lst [.int (s.1 : Int), .int s.2])) (R := dNat) (fun p => p.1) (fun _ _ _ _ s ⟨a, e, h⟩ => ⟨a, e, s _ _ h⟩) dNat_mono (by rw [mk_nil]; exact pD) nD1 (fun _ h => nomatch h) (by omega) (fun H3 s3 => s3.seq (.inl (.inl hD2))) (fun u p H3 hp s3 s4 hu hM3 Q3 q3 => ?_) (fun H3 s3 ⟨y1, hD3, p3⟩ => ?_)
    · obtain ⟨a, rfl, h⟩ := hu
      exact ⟨_, rfl, ixL_of (mk_same _ _ h) (j := 0) rfl rfl (q3 _ _ (Same.refl _) rfl)⟩
    refine ⟨_, rfl, D, ys, rfl, .inl ⟨.inl (.inl (s3 _ _ hD2)), fun D4 nD4 => ?_⟩⟩
    refine lc_map (j := 5) (M := []) walk_list (xs := (List.range st.length).map fun i => (goK st i ks, gain st i ks)) (S := fun H' v (s : Nat × Int) => ∃ a, v = .ref a ∧ H' a = some (.lst [.int (s.1 : Int), .int s.2])) (R := dInt) (fun p => p.2) (fun _ _ _ _ s ⟨a, e, h⟩ => ⟨a, e, s _ _ h⟩) dInt_mono (by rw [mk_nil]; exact Paired.mono (fun _ _ ⟨a, e, h⟩ => ⟨a, e, s3 _ _ h⟩) pD) nD4 (fun _ h => nomatch h) (by omega) (fun H4 s4 => s4.seq (.inl (.inl (s3 _ _ hD2)))) (fun u p H4 hp s4 s5 hu hM4 Q4 q4 => ?_) (fun H4 s4 ⟨y2, hD5, p5⟩ => ?_)
    · obtain ⟨a, rfl, h⟩ := hu
      exact ⟨_, rfl, ixL_of (mk_same _ _ h) (j := 1) rfl rfl (q4 _ _ (Same.refl _) rfl)⟩
    rw [List.map_map] at p3 p5
    have e1 : y1 = natV (gk st ks) := by
      have := pof_map (fun (i : Nat) => V.int (i : Int)) (fun _ _ h => h) p3
      rw [this]; rfl
    have e2 : y2 = (gg st ks).map V.int := by
      have := ints_of p5
      rw [this]; rfl
    subst e1 e2
    have hgl : (gg st ks).length = st.length := by unfold gg; simp
    exact ⟨D1, D4, gk st ks, gg st ks, rfl, s4 _ _ hD3, hD5, by omega, by omega, fun T ta tb H5 s5 hT hta htb => q T ta tb H5 (s2.trans (s3.trans (s4.trans s5))) hT hta htb⟩
end
end AW
namespace AW
open PySem PySem.Spec PyProof.Rows L2
theorem joinL_nil : ∀ (l : List (List Nat)), TL.joinL [] l = l.flatten
  | [] => rfl
  | [p] => by show p = [p].flatten; simp
  | p :: q :: r => by
    show p ++ ([] ++ TL.joinL [] (q :: r)) = _
    rw [joinL_nil (q :: r)]
    simp
theorem join_rowS (A : Str) (rs : List (List Nat)) : Txt.join ("" : Str) (rs.map (rowS A)) = rowS A rs.flatten := by
  have h := SX.join_S [] (rs.map fun r => r.map (cp A))
  rw [List.map_map, joinL_nil, ← List.map_flatten] at h
  exact h
theorem sum_le {c : Nat} : ∀ {l : List Nat}, (∀ x ∈ l, x ≤ c) → l.sum ≤ l.length * c
  | [], _ => by simp
  | x :: l, h => by
    have h1 := h x (by simp)
    have h2 := sum_le (l := l) fun y hy => h y (by simp [hy])
    rw [List.sum_cons, List.length_cons, Nat.succ_mul]
    omega
theorem join_ok {A : Str} {rs : List (List Nat)} (h1 : rs.length ≤ 1000) (h2 : ∀ r ∈ rs, r.length ≤ 1000) : ((rs.map (rowS A)).map (·.length)).sum + (rs.map (rowS A)).length * ("" : Str).length ≤ 16777216 := by
  have := sum_le (c := 1000) (l := (rs.map (rowS A)).map (·.length)) fun x hx => by
    rw [List.map_map] at hx
    obtain ⟨r, hr, rfl⟩ := List.mem_map.mp hx
    show (rowS A r).cps.size ≤ 1000
    rw [rowS_size]; exact h2 r hr
  rw [List.length_map, List.length_map] at this
  have e : ("" : Str).length = 0 := rfl
  rw [e, Nat.mul_zero]
  have := Nat.mul_le_mul_right 1000 h1
  omega
section
variable {P : Program} {w : World} {K : PySem.W.Frag} {mg : Str → Option Value} {base : Heap} {cSt cSg cMa cVe cRl : Addr}
def sp_L_row (K : PySem.W.Frag) : Sp := fun vs H Q _ => ∃ (M : List Addr) (s : Addr) (A : Str) (longest : Nat), vs = [.ref s, .str A, .int (longest : Int)] ∧ Msk M s H ∧ Asks A ∧ longest ≤ 10 ∧ ∀ (ks : List Nat) H', (∀ k ∈ ks, k < A.cps.size) → ks.length ≤ longest → OffS s H H' → Q (.str (rowS A ks)) H'
theorem fn_L_row (c : Env K mg cSt cSg cMa cVe cRl) : Fn P w K mg base "_law_row" 2 P_L_row (sp_L_row K) := by
  refine fn_ok c.d_L_row sc_L_row (fun _ _ _ _ _ _ us hl => match us, hl with | [_, _, _], _ => rfl) (fun vs H Q E h => ?_) (fun f cdv A outer s H vs Q E hr h => ?_)
  · obtain ⟨M, s, A, longest, rfl, ms, hA, hlo, q⟩ := h
    rfl
  · obtain ⟨M, s, A, longest, rfl, ms, hA, hlo, q⟩ := h
    refine ⟨_, (pss_cons (ps_set (i := 3) sc_L_row.nd rfl (Or.inl rfl) (pe_fn (fn_L_draw c) (hr.mono (by decide)) rfl (pa_cons (pv 0) (pa_cons (pe_op op_add (pv 2) pe_int) pa_nil))))
      (pss_one (ps_ret (pe_join pe_str (pe_lc (own := [("_law_k", 4)]) (g := gName 4) (tt := tYes) rfl sc_L_row.nd (pi_range1 rfl c.b_range (pa_cons (pv 3) pa_nil)) (blkOk_by (N := N_L_row) (sc := defScope s_L_row) (own := [("_law_k", 4)]) (by decide +kernel)) (fun _ _ _ _ _ => (pg_name (i := 4) sc_L_row.nd rfl (by first | exact Or.inl rfl | exact Or.inr rfl))) (fun _ _ _ _ _ => pts_nil) (fun _ _ _ _ _ => (pe_ix (ix_seqK (K := K)) (pv 1) (pe_fn (fn_L_draw c) (hr.mono (by decide)) rfl (pa_cons (pv 0) (pa_cons (pe_callB call_len_str (by rfl) c.b_len (by decide +kernel) (pa_cons (pv 1) pa_nil)) pa_nil))) (fun _ _ => rfl)))))))), ?_⟩
    obtain ⟨hA1, hA3⟩ := asks_size A hA
    refine ⟨_, rfl, _, rfl, _, _, rfl, rfl, s, longest + 1, rfl, by omega, by omega, ms.src, fun sz H1 hsz o1 => ?_⟩
    have ms1 := ms.next o1
    refine ⟨⟨_, rfl⟩, _, rfl, (sz : Int), rfl, by omega, by omega, fun D nD => ?_⟩
    refine lc_draw (n := sz) (s := s) (M := M) (R := fun _ v (k : Nat) => v = .str (rowS A [k])) (fun k => k < A.cps.size) (fun _ _ _ _ _ h => h) ms1.src ms1.mem nD ms1.dom (by omega) (fun i H2 hi o2 hM2 Q2 q2 => ?_) (fun H2 xs ys o2 hxl hP hD2 p2 => ?_)
    · refine ⟨_, rfl, _, rfl, _, rfl, A, rfl, le_ok (show A.cps.size ≤ 16000000 by omega), s, A.cps.size, rfl, by omega, by omega, o2.src, fun d H3 hd o3 => ?_⟩
      exact ixS_of (show A.cps.size ≤ 1000 by omega) (j := d) rfl (cps_get hd) (q2 _ d _ hd o3 rfl)
    · have ey : ys = ((xs.map fun k => [k]).map (rowS A)).map V.str := by
        rw [List.map_map, List.map_map]
        exact pof_map (fun k => V.str (rowS A [k])) (fun _ _ h => h) p2
      subst ey
      refine ⟨_, D, (xs.map fun k => [k]).map (rowS A), rfl, rfl, .inl (.inl (.inl hD2)), join_ok (by rw [List.length_map]; omega) (fun r hr => by obtain ⟨k, _, rfl⟩ := List.mem_map.mp hr; show 1 ≤ 1000; decide), ?_⟩
      rw [join_rowS]
      have ef : (xs.map fun k => [k]).flatten = xs := by
        have : ∀ l : List Nat, (l.map fun k => [k]).flatten = l := fun l => by
          induction l with
          | nil => rfl
          | cons x l ih => rw [List.map_cons, List.flatten_cons, ih]; rfl
        exact this xs
      rw [ef]
      exact q xs _ hP (by omega) (o1.trans o2)
def rowsV (A : Str) (rs : List (List Nat)) : List V := rs.map fun r => V.str (rowS A r)
theorem rowsV_len (A : Str) (rs : List (List Nat)) : (rowsV A rs).length = rs.length := by unfold rowsV; simp
theorem rowsV_at {A : Str} {rs : List (List Nat)} {i : Nat} (h : i < rs.length) : (rowsV A rs)[i]? = some (.str (rowS A (rs.getD i []))) := by
  unfold rowsV
  rw [List.getElem?_map, getD_some h []]
  rfl
def sp_L_rows_to (K : PySem.W.Frag) : Sp := fun vs H Q _ => ∃ (A : Str), vs = [.str A, .int 3] ∧ Asks A ∧ ∀ (rs : List (List Nat)) L H', (∀ r ∈ rs, (∀ k ∈ r, k < A.cps.size) ∧ r.length ≤ 3) → rs.length ≤ 1000 → Same H H' → H L = none → H' L = some (.lst (rowsV A rs)) → Q (.ref L) H'
theorem fn_L_rows_to (c : Env K mg cSt cSg cMa cVe cRl) : Fn P w K mg base "_law_rows_to" 1 P_L_rows_to (sp_L_rows_to K) := by
  refine fn_ok c.d_L_rows_to sc_L_rows_to (fun _ _ _ _ _ _ us hl => match us, hl with | [_, _], _ => rfl) (fun vs H Q E h => ?_) (fun f cdv A outer s H vs Q E hr h => ?_)
  · obtain ⟨A, rfl, hA, q⟩ := h
    rfl
  · obtain ⟨A, rfl, hA, q⟩ := h
    refine ⟨_, (pss_cons (ps_set (i := 2) sc_L_rows_to.nd rfl (Or.inl rfl) (pe_lst (pa_cons pe_str pa_nil)))
      (pss_cons (ps_set (i := 3) sc_L_rows_to.nd rfl (Or.inl rfl) pe_int)
      (pss_cons (ps_for PassesOwn.never rfl (pi_range1 rfl c.b_range (pa_cons (pv 1) pa_nil)) (pg_name (i := 4) sc_L_rows_to.nd rfl (Or.inl rfl))
        (pss_cons (ps_set (i := 5) sc_L_rows_to.nd rfl (Or.inl rfl) (pe_callB (call_len_seqK (K := K)) (by rfl) c.b_len (by decide +kernel) (pa_cons (pv 2) pa_nil)))
        (pss_cons (ps_for PassesOwn.never rfl (pi_range2 rfl c.b_range (pa_cons (pv 3) (pa_cons (pv 5) pa_nil))) (pg_name (i := 6) sc_L_rows_to.nd rfl (Or.inl rfl))
          (pss_one (ps_for PassesOwn.never rfl (pi_str (pv 0)) (pg_name (i := 7) sc_L_rows_to.nd rfl (Or.inl rfl))
            (pss_one (ps_expr (pe_bm PySem.F.plainAttrs_list PySem.F.slot_list_append PySem.F.type_list_append mt_append (pv 2) (pa_cons (pe_op op_add_str (pe_ix (ix_seqK (K := K)) (pv 2) (pv 6) (fun _ _ => rfl)) (pv 7)) pa_nil)))))))
        (pss_one (ps_set (i := 3) sc_L_rows_to.nd rfl (Or.inl rfl) (pv 5))))))
      (pss_one (ps_ret (pv 2)))))), ?_⟩
    obtain ⟨hA1, hA3⟩ := asks_size A hA
    refine ⟨by show 1 ≤ sizeLine; decide, fun L nL => ?_⟩
    have s1 : Same H (upd H L (.lst [.str ""])) := same_upd nL
    refine ⟨_, rfl, (3 : Int), rfl, by decide, by decide, ?_⟩
    refine for_range (lo := 0) (n := 3) (fun t σ H' => ∃ (rs : List (List Nat)) (bg : Nat) (x4 x5 x6 x7 : Option V), σ = [some (.str A), some (.int 3), some (.ref L), some (.int (bg : Int)), x4, x5, x6, x7] ∧ Same H H' ∧ H' L = some (.lst (rowsV A rs)) ∧ bg ≤ rs.length ∧ rs.length ≤ 4 ^ t ∧ ∀ r ∈ rs, (∀ k ∈ r, k < A.cps.size) ∧ r.length ≤ t)
      ⟨[[]], 0, none, none, none, none, rfl, s1, upd_same, Nat.zero_le _, Nat.le_refl _, fun r hr => by simp at hr; subst hr; exact ⟨fun k h => by simp at h, Nat.le_refl _⟩⟩ ?_ ?_
    · rintro t σ H1 ht ⟨rs, bg, x4, x5, x6, x7, rfl, s2, hL, hbg, hrl, hrs⟩
      have h64 : 4 ^ t ≤ 16 := by
        have : t = 0 ∨ t = 1 ∨ t = 2 := by omega
        rcases this with h | h | h <;> subst h <;> decide
      refine ⟨_, rfl, lenL_of hL ?_⟩
      rw [rowsV_len]
      refine ⟨_, rfl, _, rfl, (bg : Int), (rs.length : Int), rfl, ⟨by omega, by omega, by omega, by omega⟩, ?_⟩
      refine for_range (lo := (bg : Int)) (n := ((rs.length : Int) - (bg : Int)).toNat) (fun i σ H' => ∃ (ms : List (List Nat)) (x6 x7 : Option V), σ = [some (.str A), some (.int 3), some (.ref L), some (.int (bg : Int)), some (.int (0 + (t : Int))), some (.int (rs.length : Int)), x6, x7] ∧ Same H H' ∧ H' L = some (.lst (rowsV A (rs ++ ms))) ∧ ms.length ≤ 3 * i ∧ ∀ r ∈ ms, (∀ k ∈ r, k < A.cps.size) ∧ r.length ≤ t + 1)
        ⟨[], x6, x7, rfl, s2, by rw [List.append_nil]; exact hL, Nat.zero_le _, fun r hr => by simp at hr⟩ ?_ ?_
      · rintro i σ H2 hi ⟨ms, x6, x7, rfl, s3, hL2, hml, hms⟩
        refine ⟨_, rfl, _, rfl, ?_⟩
        have hpl : bg + i < rs.length := by omega
        have epl : (bg : Int) + (i : Int) = ((bg + i : Nat) : Int) := by omega
        obtain ⟨hr1, hr2⟩ := hrs _ (List.mem_of_getElem? (getD_some hpl []))
        refine for_it (walk_str) (fun j σ H' => ∃ (ms : List (List Nat)) (x7 : Option V), σ = [some (.str A), some (.int 3), some (.ref L), some (.int (bg : Int)), some (.int (0 + (t : Int))), some (.int (rs.length : Int)), some (.int ((bg : Int) + (i : Int))), x7] ∧ Same H H' ∧ H' L = some (.lst (rowsV A (rs ++ ms))) ∧ ms.length ≤ 3 * i + j ∧ ∀ r ∈ ms, (∀ k ∈ r, k < A.cps.size) ∧ r.length ≤ t + 1)
          ⟨ms, x7, rfl, s3, hL2, by omega, hms⟩ (fun _ _ _ _ _ => trivial) ?_ ?_
        · rintro j x σ H3 H4 hj ⟨ms, x7, rfl, s4, hL3, hml, hms⟩ ⟨rfl, cc, hcc, rfl⟩
          obtain ⟨hjA, rfl⟩ := cps_at hcc
          have hg : (rs ++ ms).getD (bg + i) [] = rs.getD (bg + i) [] := getD_app hpl ms
          refine ⟨_, rfl, ty_lst hL3, _, rfl, _, rfl, ixL_of hL3 (j := bg + i) epl (rowsV_at (by rw [List.length_append]; omega)) ⟨_, rfl, _, _, rfl, rfl, le_ok ?_, ?_⟩⟩
          · show (rowS A _).cps.size + 1 ≤ _
            rw [rowS_size, hg]; omega
          refine ⟨_, _, _, rfl, rfl, hL3, len_ok (by rw [rowsV_len, List.length_append]; omega), ?_⟩
          rw [rowS_snoc, hg]
          have ev : rowsV A (rs ++ ms) ++ [.str (rowS A (rs.getD (bg + i) [] ++ [j]))] = rowsV A (rs ++ (ms ++ [rs.getD (bg + i) [] ++ [j]])) := by
            unfold rowsV
            rw [← List.append_assoc, List.map_append (l₁ := rs ++ ms)]
            rfl
          rw [ev]
          refine ⟨ms ++ [rs.getD (bg + i) [] ++ [j]], _, rfl, same_upd2 s4 nL, upd_same, by rw [List.length_append]; simp; omega, fun r hr => ?_⟩
          rcases List.mem_append.mp hr with e | e
          · exact hms r e
          · rw [List.mem_singleton] at e
            subst e
            refine ⟨fun k hk => ?_, by rw [List.length_append]; show _ + 1 ≤ _; omega⟩
            rcases List.mem_append.mp hk with e | e
            · exact hr1 k e
            · rw [List.mem_singleton] at e; subst e; exact hjA
        · rintro σ H3 ⟨ms, x7, rfl, s4, hL3, hml, hms⟩
          exact ⟨ms, _, _, rfl, s4, hL3, by omega, hms⟩
      · rintro σ H2 ⟨ms, x6, x7, rfl, s3, hL2, hml, hms⟩
        refine ⟨_, rfl, rs ++ ms, rs.length, _, _, _, _, rfl, s3, hL2, by rw [List.length_append]; omega, ?_, fun r hr => ?_⟩
        · rw [List.length_append, Nat.pow_succ]
          omega
        · rcases List.mem_append.mp hr with e | e
          · exact ⟨(hrs r e).1, Nat.le_succ_of_le (hrs r e).2⟩
          · exact hms r e
    · rintro σ H1 ⟨rs, bg, x4, x5, x6, x7, rfl, s2, hL, hbg, hrl, hrs⟩
      exact ⟨_, rfl, q rs L _ hrs (by have : (4 : Nat) ^ 3 = 64 := rfl; omega) s2 nL hL⟩
end
end AW
namespace AW
open PySem PySem.Spec PyProof.Rows L2
/-! ### the plain law -/
def sub (R : List (List Nat)) (y : List Nat) : List Nat := (y.map fun k => R.getD k []).flatten
theorem sub_cons (R : List (List Nat)) (k : Nat) (y : List Nat) : sub R (k :: y) = R.getD k [] ++ sub R y := rfl
theorem vals_of {A : Nat} : ∀ {y : List Nat}, (∀ k ∈ y, k < A) → ∃ x : List (Fin A), vals x = y
  | [], _ => ⟨[], rfl⟩
  | k :: y, h => by
    obtain ⟨x, hx⟩ := vals_of (y := y) fun j hj => h j (by simp [hj])
    exact ⟨⟨k, h k (by simp)⟩ :: x, by show k :: vals x = _; rw [hx]⟩
/-- the machine of the rows put in -/
def comp (st : Steps) (R : List (List Nat)) : Steps := (List.range st.length).map fun i => R.map fun r => (goK st i r, gain st i r)
theorem comp_len (st : Steps) (R : List (List Nat)) : (comp st R).length = st.length := by simp [comp]
theorem comp_row {st : Steps} {R : List (List Nat)} {i : Nat} (h : i < st.length) : (comp st R).getD i [] = R.map fun r => (goK st i r, gain st i r) := by
  unfold comp
  rw [List.getD_eq_getElem?_getD, List.getElem?_map, List.getElem?_range h]
  rfl
theorem comp_at {st : Steps} {R : List (List Nat)} {i k : Nat} (h : i < st.length) (hk : k < R.length) : nx (comp st R) i k = goK st i (R.getD k []) ∧ ad (comp st R) i k = gain st i (R.getD k []) := by
  unfold nx ad
  rw [comp_row h, List.getD_eq_getElem?_getD, List.getElem?_map, getD_some hk []]
  exact ⟨rfl, rfl⟩
theorem comp_valid {A0 : Nat} {st : Steps} {R : List (List Nat)} (v : Valid A0 st) (hR : ∀ r ∈ R, ∀ k ∈ r, k < A0) : Valid R.length (comp st R) := by
  intro i hi
  rw [comp_len] at hi
  refine ⟨by rw [comp_row hi]; simp, fun k hk => ?_⟩
  rw [(comp_at hi hk).1, comp_len]
  exact goK_lt v _ i hi (hR _ (List.mem_of_getElem? (getD_some hk [])))
theorem comp_go {A0 : Nat} {st : Steps} {R : List (List Nat)} (v : Valid A0 st) (hR : ∀ r ∈ R, ∀ k ∈ r, k < A0) : ∀ (y : List Nat) (i : Nat), i < st.length → (∀ k ∈ y, k < R.length) → goK (comp st R) i y = goK st i (sub R y) ∧ gain (comp st R) i y = gain st i (sub R y)
  | [], i, _, _ => ⟨rfl, rfl⟩
  | k :: y, i, hi, hk => by
    have hkR := hk k (by simp)
    obtain ⟨e1, e2⟩ := comp_at hi hkR
    have hg := goK_lt v (R.getD k []) i hi (hR _ (List.mem_of_getElem? (getD_some hkR [])))
    obtain ⟨h1, h2⟩ := comp_go v hR y _ hg fun j hj => hk j (by simp [hj])
    rw [sub_cons, goK_append, gain_append, goK_cons, e1]
    refine ⟨h1, ?_⟩
    show ad _ i k + gain _ (nx _ i k) y = _
    rw [e1, e2, h2]
theorem sub_lt {A0 : Nat} {R : List (List Nat)} (hR : ∀ r ∈ R, ∀ k ∈ r, k < A0) {y : List Nat} (hy : ∀ k ∈ y, k < R.length) : ∀ k ∈ sub R y, k < A0 := fun k hk => by
  obtain ⟨l, hl, hkl⟩ := List.mem_flatten.mp hk
  obtain ⟨j, hj, rfl⟩ := List.mem_map.mp hl
  exact hR _ (List.mem_of_getElem? (getD_some (hy j hj) [])) k hkl
section
variable {d : Wd} {F : Str} {R : List (List Nat)} {x x' : Sd2} {N0 : Nat}
theorem rows_lt (ro : RowsOk d F R) : ∀ r ∈ R, ∀ k ∈ r, k < d.asks.cps.size := fun r hr => (ro.all r hr).2.1
/-- what the small machine of the old store does -/
theorem old_gain (wf : Wf d) (st : StOk d.asks.cps.size d.begins.length d.costs d.begins x.lots x.steps) (dn : Done (beh d.asks.cps.size (closed d.ends x.lots x.steps) 0) N0) {w : List Nat} (hw : ∀ k ∈ w, k < d.asks.cps.size) :
    gain (bfs (beh d.asks.cps.size (closed d.ends x.lots x.steps) 0) N0).items 0 w = pay d.costs d.ends (low d.begins) w - pay d.costs d.ends (low d.begins) [] := by
  obtain ⟨z, hz⟩ := vals_of hw
  have ok := ok_of_done dn (Nat.le_refl N0)
  have h1 := beh_items ok dn rfl z 0 _ ok.zero
  rw [hz] at h1
  rw [h1]
  show gain (closed d.ends x.lots x.steps) 0 (vals z) = _
  have hl : x.lots.getD 0 [] = low d.begins := by rw [List.getD_eq_getElem?_getD, st.zero]; rfl
  rw [hz, closed_gain st wf.pos wf.el w 0 (List.getElem?_eq_some_iff.mp st.zero).1 hw, hl]
theorem pay_put (wf : Wf d) (ro : RowsOk d F R) {w : List Int} (hw : w.length = d.begins.length) {y : List Nat} (hy : ∀ k ∈ y, k < R.length) : pay (putD d F R).costs (putD d F R).ends w y = pay d.costs d.ends w (sub R y) := by
  unfold pay
  congr 2
  show ledR (R.map (rowTab d.costs)) w y = ledR d.costs w (sub R y)
  rw [ledR_put wf.sq (fun r hr => ⟨(ro.all r hr).1, fun k hk => by rw [wf.cl]; exact (ro.all r hr).2.1 k hk⟩) y w hw hy]
  rfl
theorem low_ne (wf : Wf d) : d.begins ≠ [] := List.length_pos_iff.mp wf.pos
/-- the machine of the new store does what the rows put in do -/
theorem beh_put (wf : Wf d) (ro : RowsOk d F R) (st : StOk d.asks.cps.size d.begins.length d.costs d.begins x.lots x.steps) (dn : Done (beh d.asks.cps.size (closed d.ends x.lots x.steps) 0) N0)
    (st' : StOk F.cps.size (putD d F R).begins.length (putD d F R).costs (putD d F R).begins x'.lots x'.steps) :
    beh F.cps.size (closed (putD d F R).ends x'.lots x'.steps) 0 = beh F.cps.size (comp (bfs (beh d.asks.cps.size (closed d.ends x.lots x.steps) 0) N0).items R) 0 := by
  funext z
  have ok := ok_of_done dn (Nat.le_refl N0)
  have vld := items_valid ok dn
  have hN : 0 < (bfs (beh d.asks.cps.size (closed d.ends x.lots x.steps) 0) N0).items.length := by
    rw [ok.ilen]
    have h1 : (bfs (beh d.asks.cps.size (closed d.ends x.lots x.steps) 0) N0).line.length = N0 := dn
    have := (List.getElem?_eq_some_iff.mp ok.zero).1
    omega
  have hy : ∀ k ∈ vals z, k < R.length := fun k hk => by rw [ro.len]; exact vals_lt z k hk
  have hl' : x'.lots.getD 0 [] = low d.begins := by
    have h := st'.zero
    rw [List.getD_eq_getElem?_getD, h]; rfl
  show gain _ 0 (vals z) = gain _ 0 (vals z)
  rw [(comp_go vld (rows_lt ro) (vals z) 0 hN hy).2, old_gain wf st dn (sub_lt (rows_lt ro) hy),
    closed_gain st' (by exact wf.pos) (by exact wf.el) (vals z) 0 (List.getElem?_eq_some_iff.mp st'.zero).1 (vals_lt z), hl', pay_put wf ro (low_len _) hy]
  have := pay_put wf ro (w := low d.begins) (low_len _) (y := []) (fun k h => by simp at h)
  rw [this]
  rfl
/-- the lots are closed under the rows put in -/
theorem low_ledR {costs : List Tab} : ∀ (ks : List Nat) (w : List Int), w ≠ [] → low (ledR costs (low w) ks) = low (ledR costs w ks) := fun ks w h => by
  rw [low_eq w, ledR_shift, low_shift]
  intro e
  have := congrArg List.length e
  rw [ledR_len] at this
  exact h (List.length_eq_zero_iff.mp (by simpa using this))
theorem lots_closed (wf : Wf d) (st : StOk d.asks.cps.size d.begins.length d.costs d.begins x.lots x.steps) : ∀ (ks : List Nat) (l : List Int), l ∈ x.lots → (∀ k ∈ ks, k < d.asks.cps.size) → low (ledR d.costs l ks) ∈ x.lots ∨ ks = []
  | [], _, _, _ => .inr rfl
  | k :: ks, l, hl, hk => by
    obtain ⟨i, hi⟩ := List.getElem?_of_mem hl
    have hil := (List.getElem?_eq_some_iff.mp hi).1
    obtain ⟨h1, h2, _⟩ := (st.it i hil).2 k (hk k (by simp))
    have e : x.lots.getD i [] = l := by rw [List.getD_eq_getElem?_getD, hi]; rfl
    rw [e] at h2
    have hm := List.mem_of_getElem? h2
    have hlen := st.all l hl
    have hne : led l (d.costs.getD k []) ≠ [] := fun z => by
      have h3 := congrArg List.length z
      rw [led_len, hlen, List.length_nil] at h3
      have h4 := wf.pos
      omega
    refine .inl ?_
    show low (ledR d.costs (led l (d.costs.getD k [])) ks) ∈ x.lots
    rw [← low_ledR ks _ hne]
    rcases lots_closed wf st ks _ hm fun j hj => hk j (by simp [hj]) with h | h
    · exact h
    · subst h
      show low (low _) ∈ _
      have : low (low (led l (d.costs.getD k []))) = low (led l (d.costs.getD k [])) := by
        rw [low_eq (led l (d.costs.getD k [])), low_shift hne]
        exact low_eq _
      rw [this]; exact hm
theorem put_closed (wf : Wf d) (ro : RowsOk d F R) (st : StOk d.asks.cps.size d.begins.length d.costs d.begins x.lots x.steps) (hl : x.lots.length ≤ 1000) : Closed (putD d F R) x.lots := by
  refine ⟨List.mem_of_getElem? st.zero, fun l hlm t ht => ?_, hl⟩
  obtain ⟨r, hr, rfl⟩ := List.mem_map.mp ht
  obtain ⟨r1, r2, r3⟩ := ro.all r hr
  rw [led_rowTab wf.sq (st.all l hlm) r1 (fun k hk => by rw [wf.cl]; exact r2 k hk)]
  rcases lots_closed wf st r l hlm r2 with h | h
  · exact h
  · exact (r1 h).elim
theorem pay_diff (wf : Wf d) (u w : List Nat) : pay d.costs d.ends (low d.begins) u - pay d.costs d.ends (low d.begins) w = pay d.costs d.ends d.begins u - pay d.costs d.ends d.begins w := by
  rw [pay_low _ _ (low_ne wf) wf.el.symm, pay_low _ _ (low_ne wf) wf.el.symm]
  omega
/-- rows whose rows put in do the same -/
theorem alike_put (wf : Wf d) (ro : RowsOk d F R) (st : StOk d.asks.cps.size d.begins.length d.costs d.begins x.lots x.steps) (dn : Done (beh d.asks.cps.size (closed d.ends x.lots x.steps) 0) N0)
    (st' : StOk F.cps.size (putD d F R).begins.length (putD d F R).costs (putD d F R).begins x'.lots x'.steps) {N : Nat} (dn' : Done (beh F.cps.size (closed (putD d F R).ends x'.lots x'.steps) 0) N)
    {y1 y2 : List Nat} (h1 : ∀ k ∈ y1, k < F.cps.size) (h2 : ∀ k ∈ y2, k < F.cps.size)
    (same : ∀ p, p < N0 → goK (bfs (beh d.asks.cps.size (closed d.ends x.lots x.steps) 0) N0).items p (sub R y1) = goK (bfs (beh d.asks.cps.size (closed d.ends x.lots x.steps) 0) N0).items p (sub R y2) ∧
      gain (bfs (beh d.asks.cps.size (closed d.ends x.lots x.steps) 0) N0).items p (sub R y1) - gain (bfs (beh d.asks.cps.size (closed d.ends x.lots x.steps) 0) N0).items 0 (sub R y1) =
      gain (bfs (beh d.asks.cps.size (closed d.ends x.lots x.steps) 0) N0).items p (sub R y2) - gain (bfs (beh d.asks.cps.size (closed d.ends x.lots x.steps) 0) N0).items 0 (sub R y2)) :
    ∀ i, i < N → goK (bfs (beh F.cps.size (closed (putD d F R).ends x'.lots x'.steps) 0) N).items i y1 = goK (bfs (beh F.cps.size (closed (putD d F R).ends x'.lots x'.steps) 0) N).items i y2 ∧
      gain (bfs (beh F.cps.size (closed (putD d F R).ends x'.lots x'.steps) 0) N).items i y1 - gain (bfs (beh F.cps.size (closed (putD d F R).ends x'.lots x'.steps) 0) N).items i y2 = pay d.costs d.ends d.begins (sub R y1) - pay d.costs d.ends d.begins (sub R y2) := by
  intro i hi
  have ok0 := ok_of_done dn (Nat.le_refl N0)
  have vld0 := items_valid ok0 dn
  have ok := ok_of_done dn' (Nat.le_refl N)
  have vld := items_valid ok dn'
  have eb := beh_put (x' := x') wf ro st dn st'
  have hlen0 := ok0.ilen
  have e1 := old_gain wf st dn (sub_lt (rows_lt ro) (y := y1) fun k hk => by rw [ro.len]; exact h1 k hk)
  have e2 := old_gain wf st dn (sub_lt (rows_lt ro) (y := y2) fun k hk => by rw [ro.len]; exact h2 k hk)
  have pd := pay_diff wf (sub R y1) (sub R y2)
  generalize (bfs (beh d.asks.cps.size (closed d.ends x.lots x.steps) 0) N0).items = it0 at *
  have hN0 : 0 < N0 := by
    have h1 : (bfs (beh d.asks.cps.size (closed d.ends x.lots x.steps) 0) N0).line.length = N0 := dn
    have := (List.getElem?_eq_some_iff.mp ok0.zero).1
    omega
  have vc := comp_valid (R := R) vld0 (rows_lt ro)
  rw [ro.len] at vc
  have all : ∀ b ∈ (bfs (beh F.cps.size (closed (putD d F R).ends x'.lots x'.steps) 0) N).line, ∃ p, p < N0 ∧ b = beh F.cps.size (comp it0 R) p := bfs_all (F := fun b => ∃ p, p < N0 ∧ b = beh F.cps.size (comp it0 R) p)
    (fun b k hb => by
      obtain ⟨p, hp, rfl⟩ := hb
      have h := (vc p (by rw [comp_len]; omega)).2 k.val k.2
      rw [comp_len] at h
      exact ⟨_, by omega, der_beh⟩) ⟨0, hN0, eb⟩ N
  have hline : (bfs (beh F.cps.size (closed (putD d F R).ends x'.lots x'.steps) 0) N).line.length = N := dn'
  obtain ⟨b, hb⟩ : ∃ b, (bfs (beh F.cps.size (closed (putD d F R).ends x'.lots x'.steps) 0) N).line[i]? = some b := ⟨_, List.getElem?_eq_getElem (by omega)⟩
  obtain ⟨p, hp, hbp⟩ := all b (List.mem_of_getElem? hb)
  obtain ⟨z1, rfl⟩ := vals_of h1
  obtain ⟨z2, rfl⟩ := vals_of h2
  have hpc : p < it0.length := by omega
  have c1 := comp_go vld0 (rows_lt ro) (vals z1) p hpc fun k hk => by rw [ro.len]; exact h1 k hk
  have c2 := comp_go vld0 (rows_lt ro) (vals z2) p hpc fun k hk => by rw [ro.len]; exact h2 k hk
  have g1 := beh_items ok dn' rfl z1 i b hb
  have g2 := beh_items ok dn' rfl z2 i b hb
  have hz : (beh F.cps.size (closed (putD d F R).ends x'.lots x'.steps) 0) [] = 0 := rfl
  have bi := beh_items' ok dn' hz hb
  have hii : i < (bfs (beh F.cps.size (closed (putD d F R).ends x'.lots x'.steps) 0) N).items.length := by rw [ok.ilen]; exact hi
  obtain ⟨sk, sg⟩ := same p hp
  obtain ⟨sk0, sg0⟩ := same 0 hN0
  refine ⟨?_, ?_⟩
  · have k1 := goK_lt vld (vals z1) i hii h1
    have k2 := goK_lt vld (vals z2) i hii h2
    rw [ok.ilen] at k1 k2
    have d1 := ders_beh (A := F.cps.size) (st := (bfs (beh F.cps.size (closed (putD d F R).ends x'.lots x'.steps) 0) N).items) z1 i
    have d2 := ders_beh (A := F.cps.size) (st := (bfs (beh F.cps.size (closed (putD d F R).ends x'.lots x'.steps) 0) N).items) z2 i
    rw [bi, hbp, ders_beh, c1.1] at d1
    rw [bi, hbp, ders_beh, c2.1] at d2
    rw [← sk] at d2
    have l1 := getD_some (xs := (bfs (beh F.cps.size (closed (putD d F R).ends x'.lots x'.steps) 0) N).line) (i := goK (bfs (beh F.cps.size (closed (putD d F R).ends x'.lots x'.steps) 0) N).items i (vals z1)) (by omega) b
    have l2 := getD_some (xs := (bfs (beh F.cps.size (closed (putD d F R).ends x'.lots x'.steps) 0) N).line) (i := goK (bfs (beh F.cps.size (closed (putD d F R).ends x'.lots x'.steps) 0) N).items i (vals z2)) (by omega) b
    rw [← beh_items' ok dn' hz l1, ← d1, d2, beh_items' ok dn' hz l2] at l1
    exact (List.getElem?_inj (by omega) ok.nd).mp (l1.trans l2.symm)
  · rw [g1, g2, hbp]
    show gain _ p (vals z1) - gain _ p (vals z2) = _
    rw [c1.2, c2.2]
    omega
end
end AW
namespace AW
open PySem PySem.Spec PyProof.Rows L2
theorem OffS.older {s : Addr} {H H1 H2 : Hp} (a : OffS s H1 H2) (e : Same H H1) (n : H s = none) : Same H H2 := fun b o h => a.at' (ne_of_none h n) (e b o h)
theorem OffS.new {s k : Addr} {H H1 H2 H3 : Hp} (a : OffS s H H1) (e : Same H1 H2) (n : H1 k = none) (b : OffS k H2 H3) : OffS s H H3 := a.then (b.older e n)
theorem OffS.tups {K : PySem.W.Frag} {s : Addr} {H H' : Hp} (hs : Src H s) (a : OffS s H H') : Tups K H H' := fun b xs h => by
  obtain ⟨g, m, c, hs⟩ := hs
  rcases h with (h | ⟨o, h⟩) | h
  · exact .inl (.inl (a.at' (fun e => by rw [e, hs] at h; cases h) h))
  · exact .inl (.inr ⟨o, a.at' (fun e => by rw [e, hs] at h; cases h) h⟩)
  · exact .inr h
theorem cut_map {α : Type} (f : α → V) (l : List α) (lo hi : Option Int) : ∃ m : List α, cutV (l.map f) lo hi = m.map f ∧ (∀ x ∈ m, x ∈ l) ∧ m.length ≤ l.length := by
  unfold cutV
  refine ⟨_, by rw [← List.map_drop, ← List.map_take], fun x hx => List.mem_of_mem_drop (List.mem_of_mem_take hx), ?_⟩
  rw [List.length_take, List.length_drop]
  omega
/-! ### what a row does, as a key -/
def natKey (l : List Nat) : NestedKey := .tup (l.map fun (i : Nat) => .num (i : Int))
def actKey (st : Steps) (w : List Nat) : NestedKey := .tup [natKey (gk st w), lotKey ((gg st w).map fun g => g - (gg st w).getD 0 0)]
theorem natKey_inj : ∀ {a b : List Nat}, natKey a = natKey b → a = b := by
  intro a b h
  unfold natKey at h
  injection h with h
  have : ∀ (a b : List Nat), (a.map fun (i : Nat) => NestedKey.num (i : Int)) = (b.map fun (i : Nat) => NestedKey.num (i : Int)) → a = b := by
    intro a
    induction a with
    | nil => intro b h; cases b with
      | nil => rfl
      | cons _ _ => cases h
    | cons x a ih => intro b h; cases b with
      | nil => cases h
      | cons y b =>
        rw [List.map_cons, List.map_cons] at h
        injection h with h1 h2
        injection h1 with h1
        rw [ih b h2, show x = y by omega]
  exact this a b h
theorem depthAll_nat : ∀ (l : List Nat), NestedKey.depthAll (l.map fun (i : Nat) => .num (i : Int)) ≤ 1
  | [] => by show NestedKey.depthAll [] ≤ 1; simp [NestedKey.depthAll]
  | x :: l => by
    have := depthAll_nat l
    show NestedKey.depthAll (.num (x : Int) :: l.map fun (i : Nat) => .num (i : Int)) ≤ 1
    simp [NestedKey.depthAll, NestedKey.depth]
    omega
theorem actKey_depth (st : Steps) (w : List Nat) : (actKey st w).depth ≤ 8 := by
  have h1 := depthAll_nat (gk st w)
  have h2 := depthAll_num ((gg st w).map fun g => g - (gg st w).getD 0 0)
  unfold actKey natKey lotKey
  simp [NestedKey.depth, NestedKey.depthAll]
  simp only [List.map_map, List.getD_eq_getElem?_getD] at h1 h2
  omega
theorem nks_nat {K : PySem.W.Frag} {H : Hp} : ∀ (l : List Nat), NKs K H (l.map fun (i : Nat) => .num (i : Int)) (natV l)
  | [] => .nil
  | x :: l => .cons (.num _) (nks_nat l)
theorem nk_act {K : PySem.W.Frag} {H : Hp} {T a b : Addr} {st : Steps} {w : List Nat} (hT : H T = some (.tup [.ref a, .ref b])) (ha : H a = some (.tup (natV (gk st w)))) (hb : H b = some (.tup (((gg st w).map fun g => g - (gg st w).getD 0 0).map V.int))) : NK K H (actKey st w) (.ref T) :=
  .tup (.inl (.inl hT)) (.cons (.tup (.inl (.inl ha)) (nks_nat _)) (.cons (nk_lot (.inl (.inl hb))) .nil))
theorem act_same {st : Steps} {w1 w2 : List Nat} (h : actKey st w1 = actKey st w2) {p : Nat} (hp : p < st.length) : goK st p w1 = goK st p w2 ∧ gain st p w1 - gain st 0 w1 = gain st p w2 - gain st 0 w2 := by
  unfold actKey at h
  injection h with h
  injection h with h1 h2
  injection h2 with h2
  have e1 := natKey_inj h1
  have e2 := lotKey_inj h2
  have k1 : ∀ w : List Nat, (gk st w)[p]? = some (goK st p w) := fun w => by unfold gk; rw [List.getElem?_map, List.getElem?_range hp]; rfl
  have g0 : ∀ w : List Nat, (gg st w).getD 0 0 = gain st 0 w := fun w => by
    unfold gg
    rw [List.getD_eq_getElem?_getD, List.getElem?_map, List.getElem?_range (by omega)]; rfl
  have k2 : ∀ w : List Nat, ((gg st w).map fun g => g - (gg st w).getD 0 0)[p]? = some (gain st p w - gain st 0 w) := fun w => by
    rw [List.getElem?_map, g0]
    unfold gg
    rw [List.getElem?_map, List.getElem?_range hp]; rfl
  have q1 := k1 w1
  rw [e1, k1 w2] at q1
  have q2 := k2 w1
  rw [e2, k2 w2] at q2
  exact ⟨(Option.some.inj q1).symm, (Option.some.inj q2).symm⟩
/-- pairs as lists -/
def dPL : DR (Nat × Int) := fun H v s => ∃ a, v = .ref a ∧ H a = some (.lst [.int (s.1 : Int), .int s.2])
theorem dPL_mono : Mono dPL := fun _ _ _ _ s ⟨a, e, h⟩ => ⟨a, e, s _ _ h⟩
/-- the entries of seen -/
def seenK (st : Steps) (R : List (List Nat)) (es : List (Addr × List Nat)) : List (NestedKey × V) := es.map fun e => (actKey st (sub R e.2), .ref e.1)
theorem seenK_none {st : Steps} {R : List (List Nat)} {k : NestedKey} : ∀ {es : List (Addr × List Nat)}, valV (seenK st R es) k = none → ∀ e ∈ es, actKey st (sub R e.2) ≠ k
  | [], _, _, h => absurd h List.not_mem_nil
  | e :: es, h, x, hx => by
    by_cases q : actKey st (sub R e.2) = k
    · rw [show seenK st R (e :: es) = (actKey st (sub R e.2), .ref e.1) :: seenK st R es from rfl, valV_pos q] at h
      cases h
    · rw [show seenK st R (e :: es) = (actKey st (sub R e.2), .ref e.1) :: seenK st R es from rfl, valV_neg q] at h
      rcases List.mem_cons.mp hx with z | z
      · subst z; exact q
      · exact seenK_none h x z
theorem seenK_some {st : Steps} {R : List (List Nat)} {k : NestedKey} {v : V} : ∀ {es : List (Addr × List Nat)}, valV (seenK st R es) k = some v → ∃ e ∈ es, actKey st (sub R e.2) = k ∧ v = .ref e.1
  | [], h => by cases h
  | e :: es, h => by
    by_cases q : actKey st (sub R e.2) = k
    · rw [show seenK st R (e :: es) = (actKey st (sub R e.2), .ref e.1) :: seenK st R es from rfl, valV_pos q] at h
      exact ⟨e, by simp, q, (Option.some.inj h).symm⟩
    · rw [show seenK st R (e :: es) = (actKey st (sub R e.2), .ref e.1) :: seenK st R es from rfl, valV_neg q] at h
      obtain ⟨x, hx, h1⟩ := seenK_some h
      exact ⟨x, List.mem_cons_of_mem _ hx, h1⟩
theorem seenK_put {st : Steps} {R : List (List Nat)} {es : List (Addr × List Nat)} {a : Addr} {y : List Nat} (h : valV (seenK st R es) (actKey st (sub R y)) = none) : putK (seenK st R es) (actKey st (sub R y)) (.ref a) = seenK st R (es ++ [(a, y)]) := by
  rw [putK_new _ h]
  unfold seenK
  rw [List.map_append]
  rfl
end AW
namespace AW
open PySem PySem.Spec PyProof.Rows L2
theorem fresh_ok (dd : Nat) (h : dd < 6) : ∃ F : Str, Asks F ∧ ([.str "a", .str "h", .str "cd", .str "abc", .str "ag", .str "ef"] : List V)[dd]? = some (.str F) := by
  have : dd = 0 ∨ dd = 1 ∨ dd = 2 ∨ dd = 3 ∨ dd = 4 ∨ dd = 5 := by omega
  rcases this with h | h | h | h | h | h <;> subst h
  · exact ⟨"a", by decide +kernel, rfl⟩
  · exact ⟨"h", by decide +kernel, rfl⟩
  · exact ⟨"cd", by decide +kernel, rfl⟩
  · exact ⟨"abc", by decide +kernel, rfl⟩
  · exact ⟨"ag", by decide +kernel, rfl⟩
  · exact ⟨"ef", by decide +kernel, rfl⟩
theorem sg_row (A : Str) (d : Nat) (ks : List Nat) : (⟨#[cp A d]⟩ : Str) ++ rowS A ks = rowS A (d :: ks) := by
  show (⟨#[cp A d] ++ (ks.map (cp A)).toArray⟩ : Str) = _
  unfold rowS
  congr 1
  simp
theorem pjoin {α β γ : Type} {F : α → γ → Prop} {G : β → γ → Prop} {R : α → β → Prop} : ∀ {us : List α} {vs : List β} {xs : List γ}, Paired F us xs → Paired G vs xs → (∀ u v x, F u x → G v x → R u v) → Paired R us vs
  | _, _, _, .nil, .nil, _ => .nil
  | _, _, _, .cons r t, .cons r' t', h => .cons (h _ _ _ r r') (pjoin t t' h)
theorem exr_steps {K : PySem.W.Frag} {H : Hp} {u v : V} {st : Steps} (h1 : dSteps K H u st) (h2 : dSteps K H v st) : ExR K 3 H u v := by
  obtain ⟨a, us, rfl, ha, pa⟩ := h1
  obtain ⟨b, vs, rfl, hb, pb⟩ := h2
  refine .inr ⟨a, b, us, vs, rfl, rfl, ha, hb, pjoin pa pb fun u v row hu hv => ?_⟩
  obtain ⟨a, us, rfl, ha, pa⟩ := hu
  obtain ⟨b, vs, rfl, hb, pb⟩ := hv
  refine .inr ⟨a, b, us, vs, rfl, rfl, ha, hb, pjoin pa pb fun u v s hu hv => ?_⟩
  obtain ⟨a, x, y, rfl, ha, r, t⟩ := hu
  obtain ⟨b, x', y', rfl, hb, r', t'⟩ := hv
  exact .inr ⟨a, b, [x, y], [x', y'], rfl, rfl, ha, hb, .cons (.inl ⟨_, r, r'⟩) (.cons (.inl ⟨_, t, t'⟩) .nil)⟩
theorem exr_rows {K : PySem.W.Frag} {H : Hp} {u v : V} {A : Str} {rs : List (List Nat)} (h1 : dTup K (dRow A) H u rs) (h2 : dTup K (dRow A) H v rs) : ExR K 1 H u v := by
  obtain ⟨a, us, rfl, ha, pa⟩ := h1
  obtain ⟨b, vs, rfl, hb, pb⟩ := h2
  exact .inr ⟨a, b, us, vs, rfl, rfl, ha, hb, pjoin pa pb fun u v r hu hv => .inr ⟨_, hu, hv⟩⟩
theorem tupq_of {K : PySem.W.Frag} {H : Hp} {Q : VK} {a : Addr} {vs : List V} (h : SqL K H a vs) (q : ∀ l, H l = none → Q (.ref l) (upd H l (.tup vs))) : rTupQ K [.ref a] H Q := by
  unfold rTupQ
  exact ⟨a, vs, rfl, .inl ⟨h, q⟩⟩
theorem nd_off {P : Program} {w : World} {K : PySem.W.Frag} {H H' : Hp} {a s : Addr} {kvs : List (NestedKey × V)} (d : ND P w K H a kvs) (hs : Src H s) (o : OffS s H H') (ne : a ≠ s) : ND P w K H' a kvs := by
  obtain ⟨φ, hφ⟩ := d.mut
  exact d.keeps (o.tups hs) ((o.at' ne hφ).trans hφ.symm)
theorem sub_len {R : List (List Nat)} (h : ∀ r ∈ R, r.length ≤ 100) {y : List Nat} (hy : ∀ k ∈ y, k < R.length) : (sub R y).length ≤ y.length * 100 := by
  unfold sub
  rw [List.length_flatten]
  have := sum_le (c := 100) (l := (y.map fun k => R.getD k []).map List.length) fun x hx => by
    rw [List.map_map] at hx
    obtain ⟨k, hk, rfl⟩ := List.mem_map.mp hx
    exact h _ (List.mem_of_getElem? (getD_some (hy k hk) []))
  rw [List.length_map, List.length_map] at this
  exact this
theorem rl_fld {K : PySem.W.Frag} {cRl : Addr} {H : Hp} {Q : VK} {a dx : Addr} {m : Int} {f : Str} {u : V} (h : H a = some (.ins cRl dx (rlFs m))) (cl : Cls K cRl) (n : NoAttr K cRl f) (hl : (rlFs m).lookup f = some u) (q : Q u H) : rFldQ K f (.ref a) H Q := by
  unfold rFldQ
  exact ⟨a, cRl, dx, _, _, rfl, h, cl, n, hl, q⟩
section
variable {P : Program} {w : World} {K : PySem.W.Frag} {mg : Str → Option Value} {base : Heap} {cSt cSg cMa cVe cRl : Addr}
def sp_law (K : PySem.W.Frag) : Sp := fun vs H Q _ => ∃ (L : Addr) (ns : List Int), vs = [.ref L] ∧ SqL K H L (ns.map V.int) ∧ ns.length ≤ 500 ∧ ∀ H', Q (.bl true) H'
theorem fnok_of {x : Str} {st : Stmt} {N ps : List Str} {k : Nat} {sp : Sp} {f : Addr} {fd : FuncData} (F : FnAt K x x st f fd) (S : FnScope N ps (defScope st))
    (len : ∀ vs H Q E, sp vs H Q E → vs.length = ps.length)
    (hbody : ∀ (f : Addr) (cdv : Value) (A : Around) (outer : List PySem.Env) (s : Shared) (H : Hp) (vs : List V) (Q : VK) (E : XK), Room k (A.deeper (envOfC x (defScope st) s.heap.objs.size f cdv)) → sp vs H Q E →
      ∃ t, PSs (cxOf CX0 P w K mg base N x (defScope st) f cdv A outer s H E).nox (defBody st) t ∧ t { nx := fun _ H' => Q .non H', rt := Q } (start N vs) H) : FnOk P w K mg base CX0 (k + 1) f fd ps sp :=
  F.ok S len fun cdv A outer s H vs Q E hr h => by
    obtain ⟨t, h1, h2⟩ := hbody f cdv A outer s H vs Q E hr h
    exact ⟨t, h1.nox, h2⟩
theorem fn_law (c : Env K mg cSt cSg cMa cVe cRl) {f0 : Addr} {fd0 : FuncData} (F0 : FnAt K "law" "law" s_law f0 fd0) : FnOk P w K mg base CX0 10 f0 fd0 P_law (sp_law K) := by
  refine fnok_of F0 sc_law (fun vs H Q E h => ?_) (fun f cdv AA outer s H vs Q E hr h => ?_)
  · obtain ⟨_, _, rfl, _⟩ := h
    rfl
  · obtain ⟨L, ns, rfl, hL, hn, q⟩ := h
    refine ⟨_, (pss_cons (ps_set (i := 1) sc_law.nd rfl (Or.inl rfl) (pe_fn (fn_L_source c) (hr.mono (by decide)) rfl (pa_cons (pv 0) (pa_cons pe_int pa_nil))))
      (pss_cons (ps_set (i := 2) sc_law.nd rfl (Or.inr rfl) (pe_fn (fn_L_asks c) (hr.mono (by decide)) rfl (pa_cons (pv 1) pa_nil)))
      (pss_cons (ps_set (i := 3) sc_law.nd rfl (Or.inl rfl) (pe_fn (fn_L_moved c) (hr.mono (by decide)) rfl (pa_cons (pe_fn (fn_L_source c) (hr.mono (by decide)) rfl (pa_cons (pv 0) (pa_cons pe_int pa_nil))) (pa_cons (pe_fn (fn_L_small c) (hr.mono (by decide)) rfl (pa_cons (pe_fn (fn_L_source c) (hr.mono (by decide)) rfl (pa_cons (pv 0) (pa_cons pe_int pa_nil))) (pa_cons (pv 2) (pa_cons pe_int pa_nil)))) pa_nil))))
      (pss_cons (ps_set (i := 4) sc_law.nd rfl (Or.inr rfl) (pe_fn (fn_L_machine c) (hr.mono (by decide)) rfl (pa_cons (pv 3) (pa_cons pe_int pa_nil))))
      (pss_cons (ps_if (pt_cmp (pc_isN (pv 4)))
        (pss_one (ps_ret pe_bl))
        pss_nil)
      (pss_cons (ps_set (i := 5) sc_law.nd rfl (Or.inr rfl) (pe_ix (ix_seqK (K := K)) (pe_lst (pa_cons pe_str (pa_cons pe_str (pa_cons pe_str (pa_cons pe_str (pa_cons pe_str (pa_cons pe_str pa_nil))))))) (pe_fn (fn_L_draw c) (hr.mono (by decide)) rfl (pa_cons (pv 1) (pa_cons pe_int pa_nil))) (fun _ _ => rfl)))
      (pss_cons (ps_set (i := 6) sc_law.nd rfl (Or.inr rfl) (pe_lst pa_nil))
      (pss_cons (ps_for PassesOwn.never rfl (pi_range1 rfl c.b_range (pa_cons (pe_callB call_len_str (by rfl) c.b_len (by decide +kernel) (pa_cons (pv 5) pa_nil)) pa_nil)) (pg_name (i := 7) sc_law.nd rfl (Or.inl rfl))
        (pss_one (ps_expr (pe_bm PySem.F.plainAttrs_list PySem.F.slot_list_append PySem.F.type_list_append mt_append (pv 6) (pa_cons (pe_op op_add_str (pe_ix (ix_seqK (K := K)) (pv 2) (pe_fn (fn_L_draw c) (hr.mono (by decide)) rfl (pa_cons (pv 1) (pa_cons (pe_callB call_len_str (by rfl) c.b_len (by decide +kernel) (pa_cons (pv 2) pa_nil)) pa_nil))) (fun _ _ => rfl)) (pe_fn (fn_L_row c) (hr.mono (by decide)) rfl (pa_cons (pe_fn (fn_L_source c) (hr.mono (by decide)) rfl (pa_cons (pv 0) (pa_cons (pe_op op_add pe_int (pv 7)) pa_nil))) (pa_cons (pv 2) (pa_cons pe_int pa_nil))))) pa_nil)))))
      (pss_cons (ps_set (i := 8) sc_law.nd rfl (Or.inl rfl) (pe_lst pa_nil))
      (pss_cons (ps_for PassesOwn.never rfl (pi_range1 rfl c.b_range (pa_cons (pe_callB (call_len_seqK (K := K)) (by rfl) c.b_len (by decide +kernel) (pa_cons (pe_ix (ix_seqK (K := K)) (pv 4) pe_int (fun _ _ => rfl)) pa_nil)) pa_nil)) (pg_name (i := 9) sc_law.nd rfl (Or.inr rfl))
        (pss_cons (ps_setLc (i := 11) (own := [("_law_row_here", 10)]) (g := gName 10) (tt := tYes) rfl sc_law.nd rfl rfl (sw_true rfl rfl rfl (by decide +kernel)) (pi_seqK (K := K) (pv 6)) (blkOk_by (N := N_law) (sc := defScope s_law) (own := [("_law_row_here", 10)]) (by decide +kernel)) (fun _ _ _ _ _ => (pg_name (i := 10) sc_law.nd rfl (by first | exact Or.inl rfl | exact Or.inr rfl))) (fun _ _ _ _ _ => pts_nil) (fun _ _ _ _ _ => (pe_fn (fn_L_went c) (hr.mono (by decide)) rfl (pa_cons (pe_ix (ix_seqK (K := K)) (pv 4) pe_int (fun _ _ => rfl)) (pa_cons (pv 2) (pa_cons (pv 9) (pa_cons (pv 10) pa_nil)))))))
        (pss_one (ps_expr (pe_bm PySem.F.plainAttrs_list PySem.F.slot_list_append PySem.F.type_list_append mt_append (pv 8) (pa_cons (pe_lc (own := [("_law_pair", 20)]) (g := gName 20) (tt := tYes) rfl sc_law.nd (pi_seqK (K := K) (pv 11)) (blkOk_by (N := N_law) (sc := defScope s_law) (own := [("_law_pair", 20)]) (by decide +kernel)) (fun _ _ _ _ _ => (pg_name (i := 20) sc_law.nd rfl (by first | exact Or.inl rfl | exact Or.inr rfl))) (fun _ _ _ _ _ => pts_nil) (fun _ _ _ _ _ => (pe_tup (pa_cons (pe_ix (ix_seqK (K := K)) (pv 20) pe_int (fun _ _ => rfl)) (pa_cons (pe_ix (ix_seqK (K := K)) (pv 20) pe_int (fun _ _ => rfl)) pa_nil))))) pa_nil))))))
      (pss_cons (ps_set (i := 12) sc_law.nd rfl (Or.inl rfl) (pe_fn (fn_L_shrunk c) (hr.mono (by decide)) rfl (pa_cons (pv 5) (pa_cons (pe_ix (ix_seqK (K := K)) (pv 4) pe_int (fun _ _ => rfl)) (pa_cons (pv 8) pa_nil)))))
      (pss_cons (ps_set (i := 13) sc_law.nd rfl (Or.inl rfl) (pe_fn (fn_put_for c) (hr.mono (by decide)) rfl (pa_cons (pe_ini (ini_Store c) (hr.mono (by decide)) rfl (pa_cons (pe_ix (ix_seqK (K := K)) (pv 3) pe_int (fun _ _ => rfl)) (pa_cons (pe_ix (ix_seqK (K := K)) (pv 3) pe_int (fun _ _ => rfl)) (pa_cons (pe_ix (ix_seqK (K := K)) (pv 3) pe_int (fun _ _ => rfl)) (pa_cons (pe_ix (ix_seqK (K := K)) (pv 3) pe_int (fun _ _ => rfl)) pa_nil))))) (pa_cons (pv 5) (pa_cons (pv 6) pa_nil)))))
      (pss_cons (ps_set (i := 14) sc_law.nd rfl (Or.inl rfl) (pe_fn (fn_least_machine c) (hr.mono (by decide)) rfl (pa_cons (pv 13) pa_nil)))
      (pss_cons (ps_if (PW.pt (pw_or (pt_cmpR op_ne (pe_fldK (K := K) (pv 14)) (pv 5) (nomark _)) (pw_or (pt_not (pt_val (pe_fn (fn_L_exact c 0) (hr.mono (by decide)) rfl (pa_cons (pe_fldK (K := K) (pv 14)) (pa_cons (pe_ix (ix_seqK (K := K)) (pv 12) pe_int (fun _ _ => rfl)) pa_nil))))) (pw_or1 (pt_not (pt_val (pe_fn (fn_L_exact c 3) (hr.mono (by decide)) rfl (pa_cons (pe_fldK (K := K) (pv 14)) (pa_cons (pe_fn (fn_L_steps_due c) (hr.mono (by decide)) rfl (pa_cons (pe_ix (ix_seqK (K := K)) (pv 12) pe_int (fun _ _ => rfl)) pa_nil)) pa_nil)))))))))
        (pss_one (ps_ret pe_bl))
        pss_nil)
      (pss_cons (ps_if (pt_not (pt_val (pe_fn (fn_L_exact c 1) (hr.mono (by decide)) rfl (pa_cons (pe_fldK (K := K) (pv 14)) (pa_cons (pe_callTy (call_tuple_ofK (K := K)) (by rfl) c.b_tuple (by decide +kernel) (pa_cons (pe_ix (ix_seqK (K := K)) (pv 12) pe_int (fun _ _ => rfl)) pa_nil)) pa_nil)))))
        (pss_one (ps_ret pe_bl))
        pss_nil)
      (pss_cons (ps_set (i := 15) sc_law.nd rfl (Or.inl rfl) pe_nnew)
      (pss_cons (ps_for PassesOwn.never rfl (pi_listK (K := K) (pe_slice (sl_listK (K := K)) (pe_fn (fn_L_rows_to c) (hr.mono (by decide)) rfl (pa_cons (pv 5) (pa_cons pe_int pa_nil))) po_none (po_some pe_int))) (pg_name (i := 10) sc_law.nd rfl (Or.inl rfl))
        (pss_cons (ps_set (i := 16) sc_law.nd rfl (Or.inl rfl) (pe_join pe_str (pe_lc (own := [("_law_letter", 21)]) (g := gName 21) (tt := tYes) rfl sc_law.nd (pi_str (pv 10)) (blkOk_by (N := N_law) (sc := defScope s_law) (own := [("_law_letter", 21)]) (by decide +kernel)) (fun _ _ _ _ _ => (pg_name (i := 21) sc_law.nd rfl (by first | exact Or.inl rfl | exact Or.inr rfl))) (fun _ _ _ _ _ => pts_nil) (fun _ _ _ _ _ => (pe_ix (ix_seqK (K := K)) (pv 6) (pe_m1 PySem.F.slot_str_find PySem.F.type_str_find mt_find (pv 5) (pv 21)) (fun _ _ => rfl))))))
        (pss_cons (ps_set (i := 17) sc_law.nd rfl (Or.inl rfl) (pe_fn (fn_L_acts c) (hr.mono (by decide)) rfl (pa_cons (pv 2) (pa_cons (pe_ix (ix_seqK (K := K)) (pv 4) pe_int (fun _ _ => rfl)) (pa_cons (pv 16) pa_nil)))))
        (pss_cutW (ps_if (PW.pt (pw_and (pt_cmp (pc_nin hr.units (pv 17) (pv 15))) (pw_and1 (pt_cmpR op_eq (pe_fn (fn_L_draw c) (hr.mono (by decide)) rfl (pa_cons (pv 1) (pa_cons pe_int pa_nil))) pe_int (nomark _)))))
          (pss_cons (ps_set (i := 18) sc_law.nd rfl (Or.inl rfl) (pe_nget hr.units (pv 15) (pv 17) (fun _ _ => rfl)))
          (pss_cons (ps_set (i := 19) sc_law.nd rfl (Or.inl rfl) (pe_fn (fn_rows_alike c) (hr.mono (by decide)) rfl (pa_cons (pv 13) (pa_cons (pv 10) (pa_cons (pe_ix (ix_seqK (K := K)) (pv 18) pe_int (fun _ _ => rfl)) pa_nil)))))
          (pss_cons (ps_if (pt_cmpR op_notBl (pe_fldK (K := K) (pv 19)) pe_bl (nomark _))
            (pss_one (ps_ret pe_bl))
            pss_nil)
          (pss_one (ps_if (pt_not (pt_val (pe_fn (fn_L_exact c 0) (hr.mono (by decide)) rfl (pa_cons (pe_fldK (K := K) (pv 19)) (pa_cons (pe_op op_sub (pe_fn (fn_L_least_of c) (hr.mono (by decide)) rfl (pa_cons (pv 3) (pa_cons (pv 16) pa_nil))) (pe_fn (fn_L_least_of c) (hr.mono (by decide)) rfl (pa_cons (pv 3) (pa_cons (pe_ix (ix_seqK (K := K)) (pv 18) pe_int (fun _ _ => rfl)) pa_nil)))) pa_nil)))))
            (pss_one (ps_ret pe_bl))
            pss_nil)))))
          pss_nil)
        (pss_one (ps_if (pt_cmp (pc_nnotin hr.units (pv 17) (pv 15)))
          (pss_one (ps_nput hr.units (pv 15) (pv 17) (pe_tup (pa_cons (pv 10) (pa_cons (pv 16) pa_nil))) rfl))
          pss_nil))))))
      (pss_one (ps_ret pe_bl))))))))))))))))))), ?_⟩
    refine ⟨_, rfl, L, ns, 0, rfl, hL, by omega, by decide, fun s0 H1 e1 n0 src0 => ?_⟩
    refine ⟨_, rfl, s0, rfl, src0, fun A H2 hA o2 => ?_⟩
    obtain ⟨hA1, hA3⟩ := asks_size A hA
    have b2 : Same H H2 := o2.older e1 n0
    -- the world
    refine ⟨_, rfl, L, ns, 1, rfl, b2.seq hL, by omega, by decide, fun s1 H3 e3 n1 src1 => ?_⟩
    refine ⟨_, rfl, L, ns, 2, rfl, (b2.trans e3).seq hL, by omega, by decide, fun s2 H4 e4 n2 src2 => ?_⟩
    have src0' := (o2.src.same e3).same e4
    have src1' := src1.same e4
    have h02 : s0 ≠ s2 := by obtain ⟨_, _, _, h⟩ := o2.src.same e3; exact ne_of_none h n2
    have h12 : s1 ≠ s2 := by obtain ⟨_, _, _, h⟩ := src1; exact ne_of_none h n2
    have h01 : s0 ≠ s1 := by obtain ⟨_, _, _, h⟩ := o2.src; exact ne_of_none h n1
    have hdom : ∀ p ∈ [s2, s1, s0], H4 p ≠ none := fun p hp e => by
      simp at hp
      rcases hp with h | h | h
      · subst h; obtain ⟨_, _, _, h⟩ := src2; rw [h] at e; cases e
      · subst h; obtain ⟨_, _, _, h⟩ := src1'; rw [h] at e; cases e
      · subst h; obtain ⟨_, _, _, h⟩ := src0'; rw [h] at e; cases e
    refine ⟨_, rfl, [s2, s1, s0], s2, A, 4, rfl, ⟨src2, by simp, hdom⟩, hA, by decide, by decide, fun d0 v0 H5 wf0 ea0 o5 hw0 => ?_⟩
    have src0'' : Src H5 s0 := by obtain ⟨g, m, cc, h⟩ := src0'; exact ⟨g, m, cc, o5.at' h02 h⟩
    have src1'' : Src H5 s1 := by obtain ⟨g, m, cc, h⟩ := src1'; exact ⟨g, m, cc, o5.at' h12 h⟩
    refine ⟨[s2, s1, s0], s1, v0, d0, rfl, ⟨src1'', by simp, o5.dom hdom⟩, wf0, hw0, fun d v H6 wf ea o6 hw => ?_⟩
    have eA : d.asks = A := ea.trans ea0
    subst eA
    have src6 : Src H6 s0 := by obtain ⟨g, m, cc, h⟩ := src0''; exact ⟨g, m, cc, o6.at' h01 h⟩
    have dom6 := o6.dom (o5.dom hdom)
    have bs6 : Same H H6 := by
      have n2' : H s2 = none := (b2.trans e3).free n2
      have n1' : H s1 = none := b2.free n1
      exact o6.older (o5.older ((b2.trans e3).trans e4) n2') n1'
    clear src0'' src1'' src0' src1' hw0 wf0 src2 src1 o5 o6 e3 e4 hdom ea ea0
    generalize hM : [s2, s1, s0] = M at *
    have hsM : s0 ∈ M := by rw [← hM]; simp
    have ms6 : Msk M s0 H6 := ⟨src6, hsM, dom6⟩
    have n0H : H s0 = none := n0
    -- the machine
    refine ⟨_, rfl, M, mk M H6, v, d, 200, rfl, dom6, mk_same, wf, hw, by decide, fun H7 s7 => ?_, fun x N0 T vi vr H7 st hx dn hN s7 hT hvi => ?_⟩
    · exact ⟨_, rfl, _, rfl, iteD rfl (q _)⟩
    refine ⟨_, rfl, _, rfl, iteND (fun e => nomatch e) ?_⟩
    have hw7 := dWorld_mono _ _ _ _ (mk_mono (M := M) s7) hw
    have ms7 : Msk M s0 H7 := ms6.next (.of_same src6 s7)
    have b7 := bs6.trans s7
    have hTs : T ≠ s0 := fun e => by
      subst e
      obtain ⟨g, m, cc, h⟩ := ms7.src
      obtain ⟨a, _, e, _⟩ := hvi
      rw [hT] at h
      injection h with h
      injection h with h
      rw [e] at h
      simp at h
    -- fresh
    refine ⟨by show 6 ≤ sizeLine; decide, fun Lf nLf => ?_⟩
    have sLf := same_upd (o := .lst [.str "a", .str "h", .str "cd", .str "abc", .str "ag", .str "ef"]) nLf
    refine ⟨_, rfl, s0, 6, rfl, by decide, by decide, ms7.src.same sLf, fun dd H9 hdd o9 => ?_⟩
    have hLs : Lf ≠ s0 := fun e => by subst e; obtain ⟨_, _, _, h⟩ := ms7.src; rw [h] at nLf; cases nLf
    have hL9 := o9.at' hLs (upd_same (H := H7) (a := Lf))
    obtain ⟨F, hF, eF⟩ := fresh_ok dd hdd
    obtain ⟨hF1, hF3⟩ := asks_size F hF
    refine ixL_of hL9 (j := dd) rfl eF ?_
    have o79 : OffS s0 H7 H9 := (OffS.of_same ms7.src sLf).trans o9
    have ms9 := ms7.next o79
    have b9 : Same H H9 := o79.older b7 n0H
    -- rows
    refine ⟨Nat.zero_le _, fun D nD => ?_⟩
    have sD : Same H9 (upd H9 D (.lst [])) := same_upd nD
    have hDs : D ≠ s0 := fun e => by subst e; obtain ⟨_, _, _, h⟩ := ms9.src; rw [h] at nD; cases nD
    refine ⟨_, rfl, F, rfl, le_ok (show F.cps.size ≤ 16000000 by omega), ((F.cps.size : Nat) : Int), rfl, by omega, by omega, ?_⟩
    refine for_range (lo := 0) (n := F.cps.size) (fun i σ H' => ∃ (rs : List (List Nat)) (x7 : Option V), σ = [some (.ref L), some (.ref s0), some (.str d.asks), some v, some (.ref T), some (.str F), some (.ref D), x7, none, none, none, none, none, none, none, none, none, none, none, none, none, none] ∧ OffS s0 H9 H' ∧ H' D = some (.lst (rowsV d.asks rs)) ∧ rs.length = i ∧ ∀ r ∈ rs, r ≠ [] ∧ (∀ k ∈ r, k < d.asks.cps.size) ∧ r.length ≤ 100)
      ⟨[], none, rfl, OffS.of_same ms9.src sD, upd_same, rfl, fun r hr => absurd hr List.not_mem_nil⟩ ?_ ?_
    · rintro i σ Ha hi ⟨rs, x7, rfl, oa, hD, hl, hP⟩
      rw [Int.zero_add]
      refine ⟨_, rfl, ty_lst hD, _, rfl, _, rfl, _, rfl, d.asks, rfl, le_ok (show d.asks.cps.size ≤ 16000000 by omega), s0, d.asks.cps.size, rfl, by omega, by omega, oa.src, fun d1 Hb hd1 ob => ?_⟩
      refine ixS_of (show d.asks.cps.size ≤ 1000 by omega) (j := d1) rfl (cps_get hd1) ?_
      have bb : Same H Hb := (oa.trans ob).older b9 n0H
      refine ⟨_, rfl, _, rfl, _, _, rfl, rfl, L, ns, 3 + i, rfl, bb.seq hL, by omega, by omega, fun sk Hc ec nk srck => ?_⟩
      refine ⟨_, rfl, [sk], sk, d.asks, 3, rfl, ⟨srck, by simp, fun p hp e => ?_⟩, hA, by decide, fun ks Hd hks hkl od => ?_⟩
      · simp at hp
        subst hp
        obtain ⟨_, _, _, h⟩ := srck
        rw [h] at e; cases e
      have hDb := ob.at' hDs hD
      have hDd := od.at' (ne_of_none hDb nk) (ec _ _ hDb)
      refine ⟨_, _, rfl, rfl, le_ok ?_, _, _, _, rfl, rfl, hDd, len_ok (by rw [rowsV_len]; omega), ?_⟩
      · show 1 + (rowS d.asks ks).cps.size ≤ _
        rw [rowS_size]; omega
      rw [sg_row]
      refine ⟨rs ++ [d1 :: ks], _, rfl, ((oa.trans ob).new ec nk od).put nD hDs, ?_, by simp [hl], fun r hr => ?_⟩
      · rw [upd_same]
        unfold rowsV
        rw [List.map_append]
        rfl
      · rcases List.mem_append.mp hr with e | e
        · exact hP r e
        · rw [List.mem_singleton] at e
          subst e
          exact ⟨by simp, fun k hk => by rcases List.mem_cons.mp hk with e | e; (subst e; exact hd1); exact hks k e, by rw [List.length_cons]; omega⟩
    rintro σ H10 ⟨rs, x7, rfl, o10, hD, hl, hP⟩
    have ro : RowsOk d F rs := ⟨hF, hl, hP⟩
    have ms10 := ms9.next o10
    have o710 : OffS s0 H7 H10 := o79.trans o10
    have b10 : Same H H10 := o710.older b7 n0H
    have hT10 := o710.at' hTs hT
    have hvi10 := mStepsLL _ _ _ _ (o710.mono hsM) hvi
    have hw10 := dWorld_mono _ _ _ _ (o710.mono hsM) hw7
    have hDM := notin_of ms9.dom nD
    have hDl : dLst K (dRow d.asks) (mk M H10) (.ref D) rs := lst_at hD hDM (pmap_of (fun r => V.str (rowS d.asks r)) (fun _ => rfl) rs)
    have ok0 := ok_of_done dn (Nat.le_refl N0)
    have vld0 := items_valid ok0 dn
    have hlen0 := ok0.ilen
    have hN0 : 0 < N0 := by
      have h1 : (bfs (beh d.asks.cps.size (closed d.ends x.lots x.steps) 0) N0).line.length = N0 := dn
      have := (List.getElem?_eq_some_iff.mp ok0.zero).1
      omega
    have bput := fun (x' : Sd2) st' => beh_put (x' := x') wf ro st dn st'
    have aput := fun (x' : Sd2) st' N dn' y1 y2 h1 h2 => alike_put (x' := x') (N := N) (y1 := y1) (y2 := y2) wf ro st dn st' dn' h1 h2
    generalize (bfs (beh d.asks.cps.size (closed d.ends x.lots x.steps) 0) N0).items = its at vld0 hlen0 hvi10 bput aput
    clear hD hvi hw7 hw hT
    -- steps
    refine ⟨Nat.zero_le _, fun E nE => ?_⟩
    have sE : Same H10 (upd H10 E (.lst [])) := same_upd nE
    obtain ⟨aD, usD, eD, hqD, pD⟩ := id hDl
    cases eD
    have hm10 : Same (mk M H10) H10 := mk_same
    refine ⟨_, rfl, ixq sE (.inl (.inl hT10)) (j := 1) rfl rfl (lens_of (hm10.trans sE) (seq_lst hvi10) ⟨((its.length : Nat) : Int), rfl, by omega, by omega, ?_⟩)⟩
    refine for_range (lo := 0) (n := its.length) (fun i σ H' => ∃ (x7 x9 x11 : Option V) (acc : List V), σ = [some (.ref L), some (.ref s0), some (.str d.asks), some v, some (.ref T), some (.str F), some (.ref D), x7, some (.ref E), x9, none, x11, none, none, none, none, none, none, none, none, none, none] ∧ Same H10 H' ∧ H' E = some (.lst acc) ∧ Paired (dLst K (dPair K dNat dInt) (mk (E :: M) H')) acc ((List.range i).map fun i => rs.map fun r => (goK its i r, gain its i r)))
      ⟨_, none, none, [], rfl, sE, upd_same, .nil⟩ ?_ ?_
    · rintro i σ Ha hi ⟨x7, x9, x11, acc, rfl, sa, hE, pA⟩
      rw [Int.zero_add]
      have domE : ∀ p ∈ E :: M, Ha p ≠ none := dom_cons (dom_same ms10.dom sa) hE
      have la := Paired.length pA
      rw [List.length_map, List.length_range] at la
      have lD := Paired.length pD
      have pD' : Paired (dRow d.asks (mk (E :: M) Ha)) usD rs := Paired.mono (fun _ _ h => h) pD
      refine ⟨_, rfl, D, usD, rfl, .inl ⟨(hm10.trans sa).seq hqD, fun D2 nD2 => ?_⟩⟩
      refine lc_map (j := 10) (M := E :: M) walk_list (S := dRow d.asks) (R := dPL) (fun r => (goK its i r, gain its i r)) (dRow_mono _) dPL_mono pD' nD2 domE (by omega) (fun Hb sb => (hm10.trans (sa.trans sb)).seq hqD) (fun u r Hb hr sb mb hu hMb Qb qb => ?_) (fun Hb sb ⟨ys, hD2, p2⟩ => ?_)
      · cases (show u = .str (rowS d.asks r) from hu)
        refine ⟨_, rfl, ixq (sa.trans sb) (.inl (.inl hT10)) (j := 1) rfl rfl ⟨_, rfl, _, rfl, _, rfl, mk M H10, d.asks, vi, its, i, r, rfl, hm10.trans (sa.trans sb), hA, vld0, hvi10, hi, (hP r hr).2.1, fun Tn Hc sc nT hTn => qb _ _ sc ⟨Tn, rfl, ?_⟩⟩⟩
        rw [mk_out (notin_of hMb nT)]; exact hTn
      · have hEb := sb _ _ hE
        have l2 := Paired.length p2
        rw [List.length_map] at l2
        have domE2 : ∀ p ∈ E :: M, Hb p ≠ none := dom_same domE sb
        refine ⟨_, rfl, ty_lst hEb, _, rfl, D2, ys, rfl, .inl ⟨.inl (.inl hD2), fun D3 nD3 => ?_⟩⟩
        refine lc_map (j := 20) (M := E :: M) walk_list (S := dPL) (R := dPair K dNat dInt) (fun s => s) dPL_mono mPair p2 nD3 domE2 (by omega) (fun Hc sc => sc.seq (.inl (.inl hD2))) (fun u s Hc hs sc mc hu hMc Qc qc => ?_) (fun Hc sc ⟨zs, hD3, p3⟩ => ?_)
        · obtain ⟨a, rfl, h⟩ := hu
          refine ⟨_, rfl, ixL_of (mk_same _ _ h) (j := 0) rfl rfl ⟨_, rfl, ixL_of (mk_same _ _ h) (j := 1) rfl rfl ⟨by show 2 ≤ sizeLine; decide, fun Tn nTn => qc _ _ (same_upd nTn) ⟨Tn, _, _, rfl, .inl (.inl ?_), rfl, rfl⟩⟩⟩⟩
          rw [mk_out (notin_of hMc nTn)]; exact upd_same
        · rw [List.map_id'] at p3
          have hEc := sc _ _ hEb
          refine ⟨_, _, _, rfl, rfl, hEc, len_ok (by omega), ?_⟩
          refine ⟨_, _, _, acc ++ [.ref D3], rfl, same_upd2 (sa.trans (sb.trans sc)) nE, upd_same, ?_⟩
          rw [mk_upd_in (by simp), List.range_succ, List.map_append]
          exact Paired.snoc (Paired.mono (fun _ _ => mLP _ _ _ _ (mk_mono (sb.trans sc))) pA) (lst_at hD3 (notin_of domE2 nD3) p3)
    rintro σ H11 ⟨x7', x9, x11, acc, rfl, s11, hE, pA⟩
    have hE' : dStepsLL K H11 (.ref E) (comp its rs) := ⟨E, acc, rfl, .inl (.inl hE), Paired.mono (fun _ _ => mLP _ _ _ _ mk_same) pA⟩
    have vc : Valid F.cps.size (comp its rs) := by
      have h := comp_valid vld0 (rows_lt ro)
      rw [ro.len] at h
      exact h
    have dom11 := dom_same ms10.dom s11
    refine ⟨_, rfl, _, rfl, ixq s11 (.inl (.inl hT10)) (j := 0) rfl rfl ⟨_, rfl, M, F, _, .ref E, comp its rs, rfl, dom11, hF, vc, by rw [comp_len]; omega, by rw [comp_len]; omega, hE', fun N1 T2 vi2 vr2 H12 dn1 hN1 s12 hT2 hvi2 hvr2 => ?_⟩⟩
    have s1012 := s11.trans s12
    have dom12 := dom_same dom11 s12
    have hwd := hw10
    obtain ⟨aw, vb, vcs, ve, rfl, hqw, hwb, hwc, hwe⟩ := hwd
    have bw : Same (mk M H10) H12 := hm10.trans s1012
    refine ⟨_, rfl, ixq bw hqw (j := 0) rfl rfl ⟨_, rfl, ixq bw hqw (j := 1) rfl rfl ⟨_, rfl, ixq bw hqw (j := 2) rfl rfl ⟨_, rfl, ixq bw hqw (j := 3) rfl rfl ?_⟩⟩⟩⟩
    intro y dx ny ndx ned
    have mm : Same (mk M H10) (mk (y :: M) (upd (upd H12 dx (.own y)) y (.ins cSt dx []))) := (mk_mono s1012).trans (make_mask ny ndx)
    refine ⟨M, y, dx, d, vb, vcs, ve, rfl, wf, upd_same, notin_of dom12 ny, dom_upd (dom_upd dom12), mS1 _ _ _ _ mm (seq_lst hwb), mS3 _ _ _ _ mm (lseq3 hwc), mS1 _ _ _ _ mm (seq_lst hwe), fun H13 s13 hst => ⟨rfl, ?_⟩⟩
    have s1213 : Same H12 H13 := make_same ny ndx s13
    have s1013 := s1012.trans s1213
    have dom13 := dom_same dom12 s1213
    refine ⟨_, rfl, _, rfl, M, .ref y, .ref D, d, F, rs, rfl, wf, ro, dom13, hst, dLst_mono (dRow_mono _) _ _ _ _ (mk_mono s1013) hDl, fun vst H14 s14 hst2 => ?_⟩
    have dom14 := dom_same dom13 s14
    refine ⟨_, rfl, M, vst, putD d F rs, x.lots, rfl, putD_wf wf ro, dom14, hst2, put_closed wf ro st (by omega), fun x' N2 st' hx' dn2 hN2 vm H15 s15 hm => ?_⟩
    have eb := bput x' st'
    have hNN : N2 = N1 := by
      have h : Done (beh F.cps.size (closed (putD d F rs).ends x'.lots x'.steps) 0) N2 := dn2
      rw [eb] at h
      exact done_unique h dn1
    have e0 : x'.lots.getD 0 [] = x.lots.getD 0 [] := by
      have h1 : x'.lots[0]? = some (low d.begins) := st'.zero
      rw [List.getD_eq_getElem?_getD, List.getD_eq_getElem?_getD, h1, st.zero]
    have hm' : dMach K cMa (mk M H15) vm ⟨F, mn d.begins + close d.ends (x.lots.getD 0 []), (bfs (beh F.cps.size (comp its rs) 0) N1).items, (bfs (beh F.cps.size (comp its rs) 0) N1).rows.map vals⟩ := by
      have h : dMach K cMa (mk M H15) vm ⟨F, mn d.begins + close d.ends (x'.lots.getD 0 []), (bfs (beh F.cps.size (closed (putD d F rs).ends x'.lots x'.steps) 0) N2).items, (bfs (beh F.cps.size (closed (putD d F rs).ends x'.lots x'.steps) 0) N2).rows.map vals⟩ := hm
      rw [eb, hNN, e0] at h
      exact h
    have clm := c.k_Machine.cl
    have ok1 := ok_of_done dn1 (Nat.le_refl N1)
    have vld1 := items_valid ok1 dn1
    have hlen1 := ok1.ilen
    rw [comp_len] at hN1
    have hrow1 : ∀ row ∈ (bfs (beh F.cps.size (comp its rs) 0) N1).items, row.length ≤ 1000 := fun row hr => by
      obtain ⟨i, hi⟩ := List.getElem?_of_mem hr
      have h := (vld1 i (List.getElem?_eq_some_iff.mp hi).1).1
      rw [List.getD_eq_getElem?_getD, hi] at h
      have h2 : row.length = F.cps.size := h
      omega
    have s1215 := s1213.trans (s14.trans s15)
    refine ⟨_, rfl, ma_asks mk_same clm c.n_Machine_asks hm' ⟨_, rfl, rfl, _, rfl, iteN1 rfl ?_⟩⟩
    refine ⟨_, rfl, ma_first mk_same clm c.n_Machine_first hm' ⟨_, rfl, ixq s1215 (.inl (.inl hT2)) (j := 0) rfl rfl ⟨_, _, rfl, .inl ⟨_, rfl, rfl⟩, fun H16 s16 => ⟨true, rfl, iteF ?_⟩⟩⟩⟩
    have m15 : Same (mk M H15) H15 := mk_same
    have m12 : Same (mk M H12) H12 := mk_same
    refine ⟨_, rfl, ma_steps (m15.trans s16) clm c.n_Machine_steps hm' fun us hus => ⟨_, rfl, ixq (s1215.trans s16) (.inl (.inl hT2)) (j := 1) rfl rfl ⟨mk M H12, vi2, _, rfl, m12.trans (s1215.trans s16), hvi2, by omega, hrow1, fun u2 H17 s17 hu2 => ⟨us, u2, rfl, exr_steps (mSteps _ _ _ _ ((m15.trans s16).trans s17) hus) hu2, fun H18 s18 => ⟨true, rfl, iteF ?_⟩⟩⟩⟩⟩
    have s1518 := s16.trans (s17.trans s18)
    obtain ⟨ar, usr, rfl, hqr, pr⟩ := hvr2
    refine ⟨_, rfl, ma_rows (m15.trans s1518) clm c.n_Machine_rows hm' fun ur hur => ⟨_, rfl, ixq (s1215.trans s1518) (.inl (.inl hT2)) (j := 2) rfl rfl (tupq_of ((m12.trans (s1215.trans s1518)).seq hqr) fun l nl => ?_)⟩⟩
    have sl : Same H18 (upd H18 l (.tup usr)) := same_upd nl
    refine ⟨ur, .ref l, rfl, exr_rows (dTup_mono (dRow_mono _) _ _ _ _ ((m15.trans s1518).trans sl) hur) ⟨l, usr, rfl, .inl (.inl upd_same), Paired.mono (fun _ _ h => h) pr⟩, fun H20 s20 => ⟨true, rfl, iteF ?_⟩⟩
    -- seen
    have s1520 := s1518.trans (sl.trans s20)
    have s1220 := s1215.trans s1520
    have s1020 := s1012.trans s1220
    have ms20 : Msk M s0 H20 := ms10.next (.of_same ms10.src s1020)
    intro Sd ob nSd nd0
    have sSd : Same H20 (upd H20 Sd ob) := same_upd nSd
    have hSs : Sd ≠ s0 := fun e => by subst e; obtain ⟨_, _, _, h⟩ := ms20.src; rw [h] at nSd; cases nSd
    refine ⟨_, rfl, F, rfl, hF, fun rr Lr Hr hrr hrrl sr nLr hLr => ⟨30, rfl, Lr, _, rfl, .inl (.inl hLr), fun L3 nL3 => ?_⟩⟩
    obtain ⟨m, hmm, hsub, hml⟩ := cut_map (fun r => V.str (rowS F r)) rr none (some 30)
    have hcut : cutV (rowsV F rr) none (some 30) = m.map fun r => V.str (rowS F r) := hmm
    rw [hcut]
    have sL3 : Same Hr (upd Hr L3 (.lst (m.map fun r => V.str (rowS F r)))) := same_upd nL3
    have srl := sSd.trans (sr.trans sL3)
    have msl : Msk M s0 (upd Hr L3 (.lst (m.map fun r => V.str (rowS F r)))) := ms20.next (.of_same ms20.src srl)
    have hL3 : (upd Hr L3 (.lst (m.map fun r => V.str (rowS F r)))) L3 = some (.lst (m.map fun r => V.str (rowS F r))) := upd_same
    have hL3s : L3 ≠ s0 := fun e => by
      obtain ⟨_, _, _, h⟩ := ms20.src.same (sSd.trans sr)
      rw [← e, nL3] at h; cases h
    have nd1 : ND P w K (upd Hr L3 (.lst (m.map fun r => V.str (rowS F r)))) Sd (seenK its rs []) := by
      obtain ⟨φ, hφ⟩ := nd0.mut
      exact nd0.keeps (Tups.of_same (sr.trans sL3)) (((sr.trans sL3) _ _ hφ).trans hφ.symm)
    have s10l := s1020.trans srl
    generalize upd Hr L3 (.lst (m.map fun r => V.str (rowS F r))) = Hl at sL3 srl msl hL3 nd1 s10l ⊢
    have o1020 : OffS s0 H10 H20 := OffS.of_same ms10.src s1020
    have s1420 : Same H14 H20 := s15.trans s1520
    have hLSd : L3 ≠ Sd := ne_lst_nd nd1 hL3
    refine ⟨L3, rfl, ⟨_, .inl (.inl hL3)⟩, ?_⟩
    refine for_list (K := K) (a := L3) (xs := m.map fun r => V.str (rowS F r)) (fun j σ H' => ∃ (x10 x16 x17 x18 x19 : Option V) (es : List (Addr × List Nat)), σ = [some (.ref L), some (.ref s0), some (.str d.asks), some (.ref aw), some (.ref T), some (.str F), some (.ref D), x7', some (.ref E), x9, x10, x11, some (.ref T2), some vst, some vm, some (.ref Sd), x16, x17, x18, x19, none, none] ∧ OffS s0 H20 H' ∧ H' L3 = some (.lst (m.map fun r => V.str (rowS F r))) ∧ es.length ≤ j ∧ ND P w K H' Sd (seenK its rs es) ∧
        ∀ e ∈ es, (∀ k ∈ e.2, k < F.cps.size) ∧ e.2.length ≤ 3 ∧ SqT K H' e.1 [.str (rowS F e.2), .str (rowS d.asks (sub rs e.2))])
      ⟨none, none, none, none, none, [], rfl, OffS.of_same ms20.src srl, hL3, Nat.le_refl _, nd1, fun e he => absurd he List.not_mem_nil⟩ (fun j σ H' _ ⟨_, _, _, _, _, _, _, _, h, _⟩ => .inl (.inl h)) ?_ ?_
    · rintro j xv σ Ha hj ⟨x10, x16, x17, x18, x19, es, rfl, oa, hLa, hel, nda, hes⟩
      have hjm : j < m.length := by have := (List.getElem?_eq_some_iff.mp hj).1; simpa using this
      obtain ⟨y, hy, hyx⟩ : ∃ y, m[j]? = some y ∧ xv = .str (rowS F y) := by
        rw [List.getElem?_map, List.getElem?_eq_getElem hjm] at hj
        exact ⟨m[j], List.getElem?_eq_getElem hjm, (Option.some.inj hj).symm⟩
      subst hyx
      obtain ⟨hyF, hy3⟩ := hrr y (hsub y (List.mem_of_getElem? hy))
      have hyR : ∀ k ∈ y, k < rs.length := fun k hk => by rw [ro.len]; exact hyF k hk
      have o10a := o1020.trans oa
      have m10a : Same (mk M H10) Ha := (o10a.mono hsM).trans mk_same
      have msa := ms20.next oa
      have hr100 : ∀ r ∈ rs, r.length ≤ 100 := fun r hr => (hP r hr).2.2
      have hsl := sub_len hr100 hyR
      -- whole
      refine ⟨⟨_, rfl⟩, _, rfl, _, rfl, fun D5 nD5 => ?_⟩
      refine lc_gen (walk_str) (fun i => rs.getD (y.getD i 0) []) (M := []) (R := dRow d.asks) (dRow_mono _) nD5 (fun _ h => nomatch h) (by rw [rowS_size]; omega) (fun _ _ => trivial) ?_ ?_
      · rintro i z Hb Hc hi sb _ _ _ ⟨rfl, cc, hcc, rfl⟩
        obtain ⟨k, hk1, rfl⟩ := rowS_at hcc
        refine ⟨_, _, fun k q => q, rfl, fun Q2 q2 => ?_⟩
        refine ⟨_, rfl, _, rfl, ⟨_, rfl⟩, _, rfl, _, _, rfl, rfl, ?_⟩
        have e : Txt.find F ⟨#[cp F k]⟩ = (k : Int) := asks_find F hF k (hyF k (List.mem_of_getElem? hk1))
        rw [e]
        have e3 : y.getD i 0 = k := by rw [List.getD_eq_getElem?_getD, hk1]; rfl
        refine ixs_of (m10a.trans sb) (seq_lst hDl) (j := k) rfl (getD_some (hyR k (List.mem_of_getElem? hk1)) []) fun u hu => q2 u _ (Same.refl _) ?_
        rw [e3]
        exact hu
      rintro Hb sb ⟨ys, hD5, p5⟩
      have ey : ys = ((y.map fun k => rs.getD k []).map (rowS d.asks)).map V.str := by
        have h := pof_map (fun r => V.str (rowS d.asks r)) (fun _ _ h => h) p5
        rw [h, rowS_size, List.map_map]
        have e2 : (List.range y.length).map (fun i => rs.getD (y.getD i 0) []) = y.map fun k => rs.getD k [] := by
          conv => rhs; rw [← map_range_getD (0 : Nat) y]
          rw [List.map_map]; rfl
        rw [← e2, List.map_map, List.map_map]
        rfl
      subst ey
      refine ⟨_, D5, (y.map fun k => rs.getD k []).map (rowS d.asks), rfl, rfl, .inl (.inl (.inl hD5)), join_ok (by rw [List.length_map]; omega) (fun r hr => ?_), ?_⟩
      · obtain ⟨k, hk, rfl⟩ := List.mem_map.mp hr
        have := hr100 _ (List.mem_of_getElem? (getD_some (hyR k hk) []))
        omega
      rw [join_rowS]
      have hsw : (y.map fun k => rs.getD k []).flatten = sub rs y := rfl
      rw [hsw]
      -- sign
      have hTb := sb _ _ (o10a.at' (fun e => hTs e) hT10)
      have ndb : ND P w K Hb Sd (seenK its rs es) := nd_off nda msa.src (OffS.of_same msa.src sb) hSs
      have hlt1 := sub_lt (rows_lt ro) hyR
      refine ⟨_, rfl, _, rfl, ixL_of hTb (j := 1) rfl rfl ⟨_, rfl, mk M H10, d.asks, vi, its, sub rs y, rfl, m10a.trans sb, hA, vld0, hvi10, by omega, by omega, hlt1, fun Ts ta tb Hc sc hTs' hta htb => ?_⟩⟩
      have nkc : NK K Hc (actKey its (sub rs y)) (.ref Ts) := nk_act hTs' hta htb
      have sac := sb.trans sc
      have oac : OffS s0 Ha Hc := OffS.of_same msa.src sac
      have oc := oa.trans oac
      have msc := ms20.next oc
      have ndc : ND P w K Hc Sd (seenK its rs es) := nd_off nda msa.src oac hSs
      have hesc : ∀ e ∈ es, (∀ k ∈ e.2, k < F.cps.size) ∧ e.2.length ≤ 3 ∧ SqT K Hc e.1 [.str (rowS F e.2), .str (rowS d.asks (sub rs e.2))] := fun e he => let ⟨h1, h2, h3⟩ := hes e he; ⟨h1, h2, Same.tup sac h3⟩
      have o10c := o10a.trans oac
      refine ⟨fun σ' H' => ∃ (x18 x19 : Option V), σ' = [some (.ref L), some (.ref s0), some (.str d.asks), some (.ref aw), some (.ref T), some (.str F), some (.ref D), x7', some (.ref E), x9, some (.str (rowS F y)), x11, some (.ref T2), some vst, some vm, some (.ref Sd), some (.str (rowS d.asks (sub rs y))), some (.ref Ts), x18, x19, none, none] ∧ OffS s0 Hc H', ?_, ?_⟩
      · refine ⟨_, rfl, _, rfl, Sd, Ts, _, _, rfl, rfl, ndc, nkc, actKey_depth _ _, _, rfl, ?_⟩
        cases hv : valV (seenK its rs es) (actKey its (sub rs y)) with
        | none => exact iteF ⟨_, _, rfl, OffS.refl msc.src⟩
        | some v =>
          refine iteT ?_
          refine ⟨_, rfl, s0, 3, rfl, by decide, by decide, msc.src, fun dd Hd hdd od => ⟨rfl, _, rfl, iteAny (fun _ => ?_) (fun _ => ?_)⟩⟩
          · obtain ⟨e, he, ek, rfl⟩ := seenK_some hv
            have ndd := nd_off ndc msc.src od hSs
            have tpd := od.tups (K := K) msc.src
            have nkd := nkc.mono tpd
            obtain ⟨h1, h2, h3⟩ := hesc e he
            have h3d := tpd _ _ h3
            refine ⟨_, rfl, _, rfl, Sd, Ts, _, _, _, rfl, rfl, ndd, nkd, actKey_depth _ _, hv, ?_⟩
            have o10d := o10c.trans od
            have msd := msc.next od
            have hst2' : dStore K cSt (mk M Hd) vst (putD d F rs) := dStore_mono _ _ _ _ ((((oc.trans od).mono hsM))) (dStore_mono _ _ _ _ (mk_mono s1420) hst2)
            have heR : ∀ k ∈ e.2, k < rs.length := fun k hk => by rw [ro.len]; exact h1 k hk
            have hsl2 := sub_len hr100 heR
            refine ⟨_, rfl, _, rfl, _, rfl, ixT_of h3d (j := 0) rfl rfl ⟨M, vst, putD d F rs, x.lots, y, e.2, pay d.costs d.ends d.begins (sub rs y) - pay d.costs d.ends d.begins (sub rs e.2), rfl, putD_wf wf ro, msd.dom, hst2', put_closed wf ro st (by omega), ⟨hyF, by omega⟩, ⟨h1, by omega⟩, fun x2 N3 st3 dn3 => aput x2 st3 N3 dn3 y e.2 hyF h1 (fun p hp => act_same ek.symm (by omega)), fun aa dxx He se haa => ?_⟩⟩
            have clr := c.k_RowLikeness.cl
            refine ⟨_, rfl, rl_fld haa clr c.n_RowLikeness_holds rlFs_holds ⟨true, true, rfl, rfl, _, rfl, iteF ?_⟩⟩
            have m10e : Same (mk M H10) He := ((o10d.mono hsM).trans mk_same).trans se
            refine ⟨_, rfl, rl_fld haa clr c.n_RowLikeness_more rlFs_more ⟨_, rfl, _, rfl, mk M H10, .ref aw, d, sub rs y, rfl, m10e, wf, hw10, hlt1, by omega, fun Hf sf => ?_⟩⟩
            refine ⟨_, rfl, _, rfl, ixT_of (Same.tup (se.trans sf) h3d) (j := 1) rfl rfl ⟨mk M H10, .ref aw, d, sub rs e.2, rfl, m10e.trans sf, wf, hw10, sub_lt (rows_lt ro) heR, by omega, fun Hg sg => ?_⟩⟩
            exact ⟨_, _, rfl, rfl, _, _, rfl, .inl ⟨_, rfl, rfl⟩, fun Hh sh => ⟨true, rfl, iteF ⟨_, _, rfl, od.then (se.trans (sf.trans (sg.trans sh)))⟩⟩⟩
          · exact ⟨_, _, rfl, od⟩
      · rintro σ' Hd ⟨x18, x19, rfl, od⟩
        have ndd := nd_off ndc msc.src od hSs
        have tpd := od.tups (K := K) msc.src
        have nkd := nkc.mono tpd
        have hesd : ∀ e ∈ es, (∀ k ∈ e.2, k < F.cps.size) ∧ e.2.length ≤ 3 ∧ SqT K Hd e.1 [.str (rowS F e.2), .str (rowS d.asks (sub rs e.2))] := fun e he => let ⟨h1, h2, h3⟩ := hesc e he; ⟨h1, h2, tpd _ _ h3⟩
        have olx := oc.trans od
        have hLd := od.at' hL3s (sac _ _ hLa)
        refine ⟨_, rfl, _, rfl, Sd, Ts, _, _, rfl, rfl, ndd, nkd, actKey_depth _ _, _, rfl, ?_⟩
        cases hv : valV (seenK its rs es) (actKey its (sub rs y)) with
        | some v => exact iteF ⟨_, _, _, _, _, es, rfl, olx, hLd, by omega, ndd, hesd⟩
        | none =>
          refine iteT ?_
          refine ⟨_, rfl, _, rfl, by show 2 ≤ sizeLine; decide, fun Tn nTn => ?_⟩
          have sTn : Same Hd (upd Hd Tn (.tup [.str (rowS F y), .str (rowS d.asks (sub rs y))])) := same_upd nTn
          obtain ⟨φ, hφ⟩ := ndd.mut
          have ndn : ND P w K (upd Hd Tn (.tup [.str (rowS F y), .str (rowS d.asks (sub rs y))])) Sd (seenK its rs es) := ndd.keeps (Tups.of_same sTn) ((sTn _ _ hφ).trans hφ.symm)
          refine ⟨_, rfl, _, rfl, Sd, Ts, _, _, rfl, rfl, ndn, nkd.mono (Tups.of_same sTn), actKey_depth _ _, len_ok (by unfold seenK; rw [List.length_map]; omega), fun ob2 nd2 => ?_⟩
          rw [seenK_put hv] at nd2
          have tp2 : Tups K (upd Hd Tn (.tup [.str (rowS F y), .str (rowS d.asks (sub rs y))])) (upd (upd Hd Tn (.tup [.str (rowS F y), .str (rowS d.asks (sub rs y))])) Sd ob2) := Tups.mut (mut_nd ndn)
          have nSl : H20 Sd = none := nSd
          refine ⟨_, _, _, _, _, es ++ [(Tn, y)], rfl, (olx.then sTn).put nSd hSs, by rw [upd_ne hLSd]; exact sTn _ _ hLd, by rw [List.length_append]; simp; omega, nd2, fun e he => ?_⟩
          rcases List.mem_append.mp he with z | z
          · obtain ⟨h1, h2, h3⟩ := hesd e z
            exact ⟨h1, h2, tp2 _ _ (Same.tup sTn h3)⟩
          · rw [List.mem_singleton] at z
            subst z
            exact ⟨hyF, hy3, tp2 _ _ (.inl (.inl upd_same))⟩
    · rintro σ Ha ⟨x10, x16, x17, x18, x19, es, rfl, oa, hLa, hel, nda, hes⟩
      exact q _
end
end AW
namespace AW
open PySem PySem.Spec PyProof.Rows L2
def d_is_integer : He.DefD := ⟨("is_integer", none), "is_integer", "is_integer", defArgs s_is_integer, defBody s_is_integer, defScope s_is_integer, [], []⟩
def d_is_count : He.DefD := ⟨("is_count", none), "is_count", "is_count", defArgs s_is_count, defBody s_is_count, defScope s_is_count, [], []⟩
def d_is_listed : He.DefD := ⟨("is_listed", none), "is_listed", "is_listed", defArgs s_is_listed, defBody s_is_listed, defScope s_is_listed, [], []⟩
def d_deep : He.DefD := ⟨("deep", none), "deep", "deep", defArgs s_deep, defBody s_deep, defScope s_deep, [], []⟩
def d_is_asks : He.DefD := ⟨("is_asks", none), "is_asks", "is_asks", defArgs s_is_asks, defBody s_is_asks, defScope s_is_asks, [], []⟩
def d_check_asks : He.DefD := ⟨("check_asks", none), "check_asks", "check_asks", defArgs s_check_asks, defBody s_check_asks, defScope s_check_asks, [], []⟩
def d_row_over : He.DefD := ⟨("row_over", none), "row_over", "row_over", defArgs s_row_over, defBody s_row_over, defScope s_row_over, [], []⟩
def d_check_row : He.DefD := ⟨("check_row", none), "check_row", "check_row", defArgs s_check_row, defBody s_check_row, defScope s_check_row, [], []⟩
def d_numbers_of : He.DefD := ⟨("numbers_of", none), "numbers_of", "numbers_of", defArgs s_numbers_of, defBody s_numbers_of, defScope s_numbers_of, [], []⟩
def d_integers : He.DefD := ⟨("integers", none), "integers", "integers", defArgs s_integers, defBody s_integers, defScope s_integers, [], []⟩
def d_led : He.DefD := ⟨("led", none), "led", "led", defArgs s_led, defBody s_led, defScope s_led, [], []⟩
def d_joined_tables : He.DefD := ⟨("joined_tables", none), "joined_tables", "joined_tables", defArgs s_joined_tables, defBody s_joined_tables, defScope s_joined_tables, [], []⟩
def d_added : He.DefD := ⟨("added", none), "added", "added", defArgs s_added, defBody s_added, defScope s_added, [], []⟩
def d_lowered : He.DefD := ⟨("lowered", none), "lowered", "lowered", defArgs s_lowered, defBody s_lowered, defScope s_lowered, [], []⟩
def d_is_table : He.DefD := ⟨("is_table", none), "is_table", "is_table", defArgs s_is_table, defBody s_is_table, defScope s_is_table, [], []⟩
def d_are_costs : He.DefD := ⟨("are_costs", none), "are_costs", "are_costs", defArgs s_are_costs, defBody s_are_costs, defScope s_are_costs, [], []⟩
def d_Store_init : He.DefD := ⟨("Store", some "__init__"), "__init__", "Store.__init__", defArgs s_Store_init, defBody s_Store_init, defScope s_Store_init, [], []⟩
def d_row_table : He.DefD := ⟨("row_table", none), "row_table", "row_table", defArgs s_row_table, defBody s_row_table, defScope s_row_table, [], []⟩
def d_put_for : He.DefD := ⟨("put_for", none), "put_for", "put_for", defArgs s_put_for, defBody s_put_for, defScope s_put_for, [], []⟩
def d_Standings_init : He.DefD := ⟨("Standings", some "__init__"), "__init__", "Standings.__init__", defArgs s_Standings_init, defBody s_Standings_init, defScope s_Standings_init, [], []⟩
def d_standings : He.DefD := ⟨("standings", none), "standings", "standings", defArgs s_standings, defBody s_standings, defScope s_standings, [], []⟩
def d_is_item : He.DefD := ⟨("is_item", none), "is_item", "is_item", defArgs s_is_item, defBody s_is_item, defScope s_is_item, [], []⟩
def d_least_rows : He.DefD := ⟨("least_rows", none), "least_rows", "least_rows", defArgs s_least_rows, defBody s_least_rows, defScope s_least_rows, [], []⟩
def d_Machine_init : He.DefD := ⟨("Machine", some "__init__"), "__init__", "Machine.__init__", defArgs s_Machine_init, defBody s_Machine_init, defScope s_Machine_init, [], []⟩
def d_went : He.DefD := ⟨("went", none), "went", "went", defArgs s_went, defBody s_went, defScope s_went, [], []⟩
def d_classes_of : He.DefD := ⟨("classes_of", none), "classes_of", "classes_of", defArgs s_classes_of, defBody s_classes_of, defScope s_classes_of, [], []⟩
def d_shrunk_steps : He.DefD := ⟨("shrunk_steps", none), "shrunk_steps", "shrunk_steps", defArgs s_shrunk_steps, defBody s_shrunk_steps, defScope s_shrunk_steps, [], []⟩
def d_standing_steps : He.DefD := ⟨("standing_steps", none), "standing_steps", "standing_steps", defArgs s_standing_steps, defBody s_standing_steps, defScope s_standing_steps, [], []⟩
def d_least_machine : He.DefD := ⟨("least_machine", none), "least_machine", "least_machine", defArgs s_least_machine, defBody s_least_machine, defScope s_least_machine, [], []⟩
def d_Verdict_init : He.DefD := ⟨("Verdict", some "__init__"), "__init__", "Verdict.__init__", defArgs s_Verdict_init, defBody s_Verdict_init, defScope s_Verdict_init, [], []⟩
def d_RowLikeness_init : He.DefD := ⟨("RowLikeness", some "__init__"), "__init__", "RowLikeness.__init__", defArgs s_RowLikeness_init, defBody s_RowLikeness_init, defScope s_RowLikeness_init, [], []⟩
def d_action_of : He.DefD := ⟨("action_of", none), "action_of", "action_of", defArgs s_action_of, defBody s_action_of, defScope s_action_of, [], []⟩
def d_rows_alike : He.DefD := ⟨("rows_alike", none), "rows_alike", "rows_alike", defArgs s_rows_alike, defBody s_rows_alike, defScope s_rows_alike, [], []⟩
def d_L_cell : He.DefD := ⟨("_law_cell", none), "_law_cell", "_law_cell", defArgs s_L_cell, defBody s_L_cell, defScope s_L_cell, [], []⟩
def d_L_source : He.DefD := ⟨("_law_source", none), "_law_source", "_law_source", defArgs s_L_source, defBody s_L_source, defScope s_L_source, [], []⟩
def d_L_draw : He.DefD := ⟨("_law_draw", none), "_law_draw", "_law_draw", defArgs s_L_draw, defBody s_L_draw, defScope s_L_draw, [], []⟩
def d_L_is_int : He.DefD := ⟨("_law_is_int", none), "_law_is_int", "_law_is_int", defArgs s_L_is_int, defBody s_L_is_int, defScope s_L_is_int, [], []⟩
def d_L_exact : He.DefD := ⟨("_law_exact", none), "_law_exact", "_law_exact", defArgs s_L_exact, defBody s_L_exact, defScope s_L_exact, [], []⟩
def d_L_asks : He.DefD := ⟨("_law_asks", none), "_law_asks", "_law_asks", defArgs s_L_asks, defBody s_L_asks, defScope s_L_asks, [], []⟩
def d_L_states : He.DefD := ⟨("_law_states", none), "_law_states", "_law_states", defArgs s_L_states, defBody s_L_states, defScope s_L_states, [], []⟩
def d_L_prices : He.DefD := ⟨("_law_prices", none), "_law_prices", "_law_prices", defArgs s_L_prices, defBody s_L_prices, defScope s_L_prices, [], []⟩
def d_L_any_table : He.DefD := ⟨("_law_any_table", none), "_law_any_table", "_law_any_table", defArgs s_L_any_table, defBody s_L_any_table, defScope s_L_any_table, [], []⟩
def d_L_change : He.DefD := ⟨("_law_change", none), "_law_change", "_law_change", defArgs s_L_change, defBody s_L_change, defScope s_L_change, [], []⟩
def d_L_changes : He.DefD := ⟨("_law_changes", none), "_law_changes", "_law_changes", defArgs s_L_changes, defBody s_L_changes, defScope s_L_changes, [], []⟩
def d_L_served : He.DefD := ⟨("_law_served", none), "_law_served", "_law_served", defArgs s_L_served, defBody s_L_served, defScope s_L_served, [], []⟩
def d_L_world : He.DefD := ⟨("_law_world", none), "_law_world", "_law_world", defArgs s_L_world, defBody s_L_world, defScope s_L_world, [], []⟩
def d_L_raised : He.DefD := ⟨("_law_raised", none), "_law_raised", "_law_raised", defArgs s_L_raised, defBody s_L_raised, defScope s_L_raised, [], []⟩
def d_L_moved : He.DefD := ⟨("_law_moved", none), "_law_moved", "_law_moved", defArgs s_L_moved, defBody s_L_moved, defScope s_L_moved, [], []⟩
def d_L_led : He.DefD := ⟨("_law_led", none), "_law_led", "_law_led", defArgs s_L_led, defBody s_L_led, defScope s_L_led, [], []⟩
def d_L_work : He.DefD := ⟨("_law_work", none), "_law_work", "_law_work", defArgs s_L_work, defBody s_L_work, defScope s_L_work, [], []⟩
def d_L_least_of : He.DefD := ⟨("_law_least_of", none), "_law_least_of", "_law_least_of", defArgs s_L_least_of, defBody s_L_least_of, defScope s_L_least_of, [], []⟩
def d_L_low : He.DefD := ⟨("_law_low", none), "_law_low", "_law_low", defArgs s_L_low, defBody s_L_low, defScope s_L_low, [], []⟩
def d_L_lots : He.DefD := ⟨("_law_lots", none), "_law_lots", "_law_lots", defArgs s_L_lots, defBody s_L_lots, defScope s_L_lots, [], []⟩
def d_L_classes : He.DefD := ⟨("_law_classes", none), "_law_classes", "_law_classes", defArgs s_L_classes, defBody s_L_classes, defScope s_L_classes, [], []⟩
def d_L_shrunk : He.DefD := ⟨("_law_shrunk", none), "_law_shrunk", "_law_shrunk", defArgs s_L_shrunk, defBody s_L_shrunk, defScope s_L_shrunk, [], []⟩
def d_L_machine : He.DefD := ⟨("_law_machine", none), "_law_machine", "_law_machine", defArgs s_L_machine, defBody s_L_machine, defScope s_L_machine, [], []⟩
def d_L_went : He.DefD := ⟨("_law_went", none), "_law_went", "_law_went", defArgs s_L_went, defBody s_L_went, defScope s_L_went, [], []⟩
def d_L_steps_due : He.DefD := ⟨("_law_steps_due", none), "_law_steps_due", "_law_steps_due", defArgs s_L_steps_due, defBody s_L_steps_due, defScope s_L_steps_due, [], []⟩
def d_L_row : He.DefD := ⟨("_law_row", none), "_law_row", "_law_row", defArgs s_L_row, defBody s_L_row, defScope s_L_row, [], []⟩
def d_L_rows_to : He.DefD := ⟨("_law_rows_to", none), "_law_rows_to", "_law_rows_to", defArgs s_L_rows_to, defBody s_L_rows_to, defScope s_L_rows_to, [], []⟩
def d_L_sign : He.DefD := ⟨("_law_sign", none), "_law_sign", "_law_sign", defArgs s_L_sign, defBody s_L_sign, defScope s_L_sign, [], []⟩
def d_L_small : He.DefD := ⟨("_law_small", none), "_law_small", "_law_small", defArgs s_L_small, defBody s_L_small, defScope s_L_small, [], []⟩
def d_L_acts : He.DefD := ⟨("_law_acts", none), "_law_acts", "_law_acts", defArgs s_L_acts, defBody s_L_acts, defScope s_L_acts, [], []⟩
def d_law : He.DefD := ⟨("law", none), "law", "law", defArgs s_law, defBody s_law, defScope s_law, [], []⟩
def fn0 : List He.DefD := [d_is_integer, d_is_count, d_is_listed, d_deep, d_is_asks, d_check_asks, d_row_over, d_check_row, d_numbers_of, d_integers, d_led, d_joined_tables, d_added, d_lowered, d_is_table, d_are_costs]
def fn1 : List He.DefD := [d_Store_init, d_row_table, d_put_for, d_Standings_init, d_standings, d_is_item, d_least_rows, d_Machine_init, d_went, d_classes_of, d_shrunk_steps, d_standing_steps, d_least_machine, d_Verdict_init, d_RowLikeness_init, d_action_of]
def fn2 : List He.DefD := [d_rows_alike, d_L_cell, d_L_source, d_L_draw, d_L_is_int, d_L_exact, d_L_asks, d_L_states, d_L_prices, d_L_any_table, d_L_change, d_L_changes, d_L_served, d_L_world, d_L_raised, d_L_moved]
def fn3 : List He.DefD := [d_L_led, d_L_work, d_L_least_of, d_L_low, d_L_lots, d_L_classes, d_L_shrunk, d_L_machine, d_L_went, d_L_steps_due, d_L_row, d_L_rows_to, d_L_sign, d_L_small, d_L_acts, d_law]
def fn : List He.DefD := fn0 ++ fn1 ++ fn2 ++ fn3
def fa0 : List He.Fa := [.glo "is_integer", .glo "is_count", .glo "is_listed", .glo "deep", .glo "is_asks", .glo "check_asks", .glo "row_over", .glo "check_row", .glo "numbers_of", .glo "integers", .glo "led", .glo "joined_tables", .glo "added", .glo "lowered", .glo "is_table", .glo "are_costs", .glo "row_table", .glo "put_for", .glo "standings", .glo "is_item"]
def fa1 : List He.Fa := [.glo "least_rows", .glo "went", .glo "classes_of", .glo "shrunk_steps", .glo "standing_steps", .glo "least_machine", .glo "action_of", .glo "rows_alike", .glo "_law_cell", .glo "_law_source", .glo "_law_draw", .glo "_law_is_int", .glo "_law_exact", .glo "_law_asks", .glo "_law_states", .glo "_law_prices", .glo "_law_any_table", .glo "_law_change", .glo "_law_changes", .glo "_law_served"]
def fa2 : List He.Fa := [.glo "_law_world", .glo "_law_raised", .glo "_law_moved", .glo "_law_led", .glo "_law_work", .glo "_law_least_of", .glo "_law_low", .glo "_law_lots", .glo "_law_classes", .glo "_law_shrunk", .glo "_law_machine", .glo "_law_went", .glo "_law_steps_due", .glo "_law_row", .glo "_law_rows_to", .glo "_law_sign", .glo "_law_small", .glo "_law_acts", .glo "law", .glo "Store"]
def fa3 : List He.Fa := [.glo "Standings", .glo "Machine", .glo "Verdict", .glo "RowLikeness", .cls "Store", .mkr "Store", .cls "Standings", .mkr "Standings", .cls "Machine", .mkr "Machine", .cls "Verdict", .cls "RowLikeness", .mkr "RowLikeness", .noat "Store" "asks", .noat "Store" "begins", .noat "Store" "costs", .noat "Store" "ends", .noat "Standings" "lots", .noat "Standings" "rows", .noat "Standings" "steps"]
def fa4 : List He.Fa := [.noat "Machine" "asks", .noat "Machine" "first", .noat "Machine" "steps", .noat "Machine" "rows", .noat "RowLikeness" "holds", .noat "RowLikeness" "more", .noat "RowLikeness" "first", .noat "RowLikeness" "second", .free "isinstance", .free "int", .free "bool", .free "tuple", .free "list", .free "str", .free "len", .free "range", .free "enumerate", .free "zip", .free "min", .free "max"]
def fa5 : List He.Fa := [.free "sum", .free "abs", .int "LONGEST" 2000, .int "MOST_STATES" 1000, .int "MOST_STANDINGS" 1000, .int "MOST_KINDS" 1000, .str "LETTERS" "abcdefgh"]
def fa : List He.Fa := fa0 ++ fa1 ++ fa2 ++ fa3 ++ fa4 ++ fa5
def nm0 : List PySem.Str := ["_wall", "AfterError", "WrongThing", "WrongItem", "BadAsks", "BadRow", "BadAsk", "BadState", "BadKind", "BadBook", "BadMachine", "BadStore", "Unlike", "TooMany", "LETTERS", "LONGEST", "is_integer", "is_count", "is_listed", "deep", "is_asks", "check_asks", "row_over", "check_row", "check_ask", "numbers_of", "integers", "led", "joined_tables", "added"]
def nm1 : List PySem.Str := ["lowered", "MOST_STATES", "is_table", "are_costs", "Store", "check_state", "pair_sums", "sum_store", "turned_store", "row_table", "put_for", "MOST_STANDINGS", "Standings", "standings", "MOST_KINDS", "is_item", "least_rows", "Machine", "check_kind", "went", "classes_of", "shrunk", "shrunk_steps", "standing_steps", "least_machine", "parting_row", "Verdict", "RowLikeness", "action_of", "rows_alike"]
def nm2 : List PySem.Str := ["_law_cell", "_law_source", "_law_draw", "_law_is_int", "_law_exact", "_law_asks", "_law_states", "_law_prices", "_law_any_table", "_law_change", "_law_changes", "_law_served", "_law_world", "_law_raised", "_law_moved", "_law_led", "_law_work", "_law_least_of", "_law_low", "_law_lots", "_law_classes", "_law_shrunk", "_law_machine", "_law_went", "_law_steps_due", "_law_row", "_law_rows_to", "_law_sign", "_law_small", "_law_acts"]
def nms : List PySem.Str := nm0 ++ nm1 ++ nm2
abbrev R : PySem.W.OpenRow := PySem.W.OpenLaw.row PySem.Challenge.rw_afterwise_k58_whole_put_machines
def as0 : List Addr := [mainGlobals, cStatics, 220, 219, 227, 226, 234, 233, 239, 238, 246, 245, 253, 252, 260, 259, 267, 266, 279, 278, 286, 285, 293, 292, 298, 297, 303, 302, 308, 307, 315, 314, 322, 321, 374, 373, 336, 335, 407, 406, 412, 411, 443, 442, 426, 425, 454, 453, 461, 460, 468, 467, 534, 533, 482, 481, 552, 551, 557, 556, 571, 570]
def as1 : List Addr := [576, 575, 583, 582, 614, 613, 604, 603, 635, 634, 632, 631, 642, 641, 649, 648, 656, 655, 663, 662, 670, 669, 677, 676, 684, 683, 691, 690, 698, 697, 703, 702, 708, 707, 715, 714, 720, 719, 725, 724, 730, 729, 735, 734, 740, 739, 745, 744, 752, 751, 757, 756, 762, 761, 769, 768, 774, 773, 781, 780, 786, 785, 793, 792, 798, 797, 803, 802, 810, 809, 815, 814, 822, 821, 827, 826, 832, 831]
open PySem.W PySem.Calls PySem

open PySem.W PySem.Calls PySem
def inB (K : PySem.W.Frag) : Bool := match PySem.W.findCls K (.ref (He.ga K "Verdict")) (.type "type") "__init__" with
  | some (.val (.ref f)) => f == He.ma K (He.ga K "Verdict") "__init__"
  | _ => false
def xB (K : PySem.W.Frag) : Bool :=
  (He.eqO (PySem.W.findIn K (.ref (He.ga K "Store")) "__class__") (some (some (.builtin "object.__class__"))) &&
  He.eqO (PySem.W.specialIn K (.builtin "object.__class__") "__get__") (some (some (.builtin "getset_descriptor.__get__"))) &&
  decide (PySem.W.takesIn K (.builtin "object.__class__") = some true)) &&
  (decide (PySem.W.mroIn K (He.ga K "Store") (.type "object") = some true) &&
  decide (PySem.W.kitOne K (.ref (He.ga K "Store")) (.ref (He.ga K "Store")) = some true)) &&
  (PySem.W.readsIn K (He.ga K "Verdict") (.type "type") &&
  He.eqO (PySem.W.specialIn K (.ref (He.ga K "Verdict")) "__getattribute__") (some (some (.builtin "type.__getattribute__"))) && inB K)
theorem inB_ok {K : PySem.W.Frag} (h : inB K = true) : PySem.W.findCls K (.ref (He.ga K "Verdict")) (.type "type") "__init__" = some (.val (.ref (He.ma K (He.ga K "Verdict") "__init__"))) := by
  unfold inB at h
  split at h
  · rename_i f e
    rw [e, eq_of_beq h]
  · cases h
def obA (fa : List He.Fa) (fn : List He.DefD) (g : Addr → Option Obj) : He.AlD × Bool := (He.obsD fa fn (He.frG g (as0 ++ as1)), xB (He.frG g (as0 ++ as1)))
def hookA (fa : List He.Fa) (fn : List He.DefD) : PySem.W.Hook where
  α := He.AlD × Bool
  obs := fun s => obA fa fn s.heap.get?
  val := fun _ => (He.valD fn, true)
  says := fun _ h => ∃ K : PySem.W.Frag, K.In h ∧ He.SaysD fa fn K ∧ xB K = true
  of := fun _ _ e => ⟨_, He.frG_in, congrArg Prod.fst e, congrArg Prod.snd e⟩
  keeps := fun _ _ _ ⟨K, hK, c⟩ k => ⟨K, PySem.W.Frag.In.keeps hK k, c⟩
theorem ob_eq (s : PySem.W.SharedT) : (fun s => obA fa fn (HandSHeadRun.getT s)) s = (hookA fa fn).obs s.abs := by
  show obA fa fn _ = obA fa fn _
  congr 1
  funext a
  exact HandSHeadRun.getT_eq s a
theorem glo_of {K : PySem.W.Frag} {mg : Str → Option Value} {x : Str} {st : Stmt} {f : Addr} (hd : ∃ fd, FunD K x x (defArgs st) (defBody st) (defScope st) [] [] f fd) (hg : mg x = some (.ref f)) : Glo K mg x st := let ⟨fd, F⟩ := hd; ⟨f, fd, F, hg⟩
theorem env_of {K : PySem.W.Frag} {h : Heap} {mg : Str → Option Value} (X : K.In h) (G : h.Ns mainGlobals mg) (c : He.SaysD fa fn K) (xb : xB K = true) : Env K mg (He.ga K "Store") (He.ga K "Standings") (He.ga K "Machine") (He.ga K "Verdict") (He.ga K "RowLikeness") := by
  unfold xB at xb
  simp only [Bool.and_eq_true] at xb
  obtain ⟨⟨⟨⟨h1, h2⟩, h3⟩, ⟨h4, h5⟩⟩, ⟨⟨h6, h7⟩, h8⟩⟩ := xb
  have e1 := He.eqO_ok h1
  have e2 := He.eqO_ok h2
  have e3 := of_decide_eq_true h3
  have e4 := of_decide_eq_true h4
  have e5 := of_decide_eq_true h5
  have e6 := h6
  have e7 := He.eqO_ok h7
  have e8 := inB_ok h8
  exact {
  d_is_integer := glo_of (c.def_ 0 (d := d_is_integer) rfl) (He.glo_ok X G (c.fact 0 (f := .glo "is_integer") rfl)),
  d_is_count := glo_of (c.def_ 1 (d := d_is_count) rfl) (He.glo_ok X G (c.fact 1 (f := .glo "is_count") rfl)),
  d_is_listed := glo_of (c.def_ 2 (d := d_is_listed) rfl) (He.glo_ok X G (c.fact 2 (f := .glo "is_listed") rfl)),
  d_deep := glo_of (c.def_ 3 (d := d_deep) rfl) (He.glo_ok X G (c.fact 3 (f := .glo "deep") rfl)),
  d_is_asks := glo_of (c.def_ 4 (d := d_is_asks) rfl) (He.glo_ok X G (c.fact 4 (f := .glo "is_asks") rfl)),
  d_check_asks := glo_of (c.def_ 5 (d := d_check_asks) rfl) (He.glo_ok X G (c.fact 5 (f := .glo "check_asks") rfl)),
  d_row_over := glo_of (c.def_ 6 (d := d_row_over) rfl) (He.glo_ok X G (c.fact 6 (f := .glo "row_over") rfl)),
  d_check_row := glo_of (c.def_ 7 (d := d_check_row) rfl) (He.glo_ok X G (c.fact 7 (f := .glo "check_row") rfl)),
  d_numbers_of := glo_of (c.def_ 8 (d := d_numbers_of) rfl) (He.glo_ok X G (c.fact 8 (f := .glo "numbers_of") rfl)),
  d_integers := glo_of (c.def_ 9 (d := d_integers) rfl) (He.glo_ok X G (c.fact 9 (f := .glo "integers") rfl)),
  d_led := glo_of (c.def_ 10 (d := d_led) rfl) (He.glo_ok X G (c.fact 10 (f := .glo "led") rfl)),
  d_joined_tables := glo_of (c.def_ 11 (d := d_joined_tables) rfl) (He.glo_ok X G (c.fact 11 (f := .glo "joined_tables") rfl)),
  d_added := glo_of (c.def_ 12 (d := d_added) rfl) (He.glo_ok X G (c.fact 12 (f := .glo "added") rfl)),
  d_lowered := glo_of (c.def_ 13 (d := d_lowered) rfl) (He.glo_ok X G (c.fact 13 (f := .glo "lowered") rfl)),
  d_is_table := glo_of (c.def_ 14 (d := d_is_table) rfl) (He.glo_ok X G (c.fact 14 (f := .glo "is_table") rfl)),
  d_are_costs := glo_of (c.def_ 15 (d := d_are_costs) rfl) (He.glo_ok X G (c.fact 15 (f := .glo "are_costs") rfl)),
  d_row_table := glo_of (c.def_ 17 (d := d_row_table) rfl) (He.glo_ok X G (c.fact 16 (f := .glo "row_table") rfl)),
  d_put_for := glo_of (c.def_ 18 (d := d_put_for) rfl) (He.glo_ok X G (c.fact 17 (f := .glo "put_for") rfl)),
  d_standings := glo_of (c.def_ 20 (d := d_standings) rfl) (He.glo_ok X G (c.fact 18 (f := .glo "standings") rfl)),
  d_is_item := glo_of (c.def_ 21 (d := d_is_item) rfl) (He.glo_ok X G (c.fact 19 (f := .glo "is_item") rfl)),
  d_least_rows := glo_of (c.def_ 22 (d := d_least_rows) rfl) (He.glo_ok X G (c.fact 20 (f := .glo "least_rows") rfl)),
  d_went := glo_of (c.def_ 24 (d := d_went) rfl) (He.glo_ok X G (c.fact 21 (f := .glo "went") rfl)),
  d_classes_of := glo_of (c.def_ 25 (d := d_classes_of) rfl) (He.glo_ok X G (c.fact 22 (f := .glo "classes_of") rfl)),
  d_shrunk_steps := glo_of (c.def_ 26 (d := d_shrunk_steps) rfl) (He.glo_ok X G (c.fact 23 (f := .glo "shrunk_steps") rfl)),
  d_standing_steps := glo_of (c.def_ 27 (d := d_standing_steps) rfl) (He.glo_ok X G (c.fact 24 (f := .glo "standing_steps") rfl)),
  d_least_machine := glo_of (c.def_ 28 (d := d_least_machine) rfl) (He.glo_ok X G (c.fact 25 (f := .glo "least_machine") rfl)),
  d_action_of := glo_of (c.def_ 31 (d := d_action_of) rfl) (He.glo_ok X G (c.fact 26 (f := .glo "action_of") rfl)),
  d_rows_alike := glo_of (c.def_ 32 (d := d_rows_alike) rfl) (He.glo_ok X G (c.fact 27 (f := .glo "rows_alike") rfl)),
  d_L_cell := glo_of (c.def_ 33 (d := d_L_cell) rfl) (He.glo_ok X G (c.fact 28 (f := .glo "_law_cell") rfl)),
  d_L_source := glo_of (c.def_ 34 (d := d_L_source) rfl) (He.glo_ok X G (c.fact 29 (f := .glo "_law_source") rfl)),
  d_L_draw := glo_of (c.def_ 35 (d := d_L_draw) rfl) (He.glo_ok X G (c.fact 30 (f := .glo "_law_draw") rfl)),
  d_L_is_int := glo_of (c.def_ 36 (d := d_L_is_int) rfl) (He.glo_ok X G (c.fact 31 (f := .glo "_law_is_int") rfl)),
  d_L_exact := glo_of (c.def_ 37 (d := d_L_exact) rfl) (He.glo_ok X G (c.fact 32 (f := .glo "_law_exact") rfl)),
  d_L_asks := glo_of (c.def_ 38 (d := d_L_asks) rfl) (He.glo_ok X G (c.fact 33 (f := .glo "_law_asks") rfl)),
  d_L_states := glo_of (c.def_ 39 (d := d_L_states) rfl) (He.glo_ok X G (c.fact 34 (f := .glo "_law_states") rfl)),
  d_L_prices := glo_of (c.def_ 40 (d := d_L_prices) rfl) (He.glo_ok X G (c.fact 35 (f := .glo "_law_prices") rfl)),
  d_L_any_table := glo_of (c.def_ 41 (d := d_L_any_table) rfl) (He.glo_ok X G (c.fact 36 (f := .glo "_law_any_table") rfl)),
  d_L_change := glo_of (c.def_ 42 (d := d_L_change) rfl) (He.glo_ok X G (c.fact 37 (f := .glo "_law_change") rfl)),
  d_L_changes := glo_of (c.def_ 43 (d := d_L_changes) rfl) (He.glo_ok X G (c.fact 38 (f := .glo "_law_changes") rfl)),
  d_L_served := glo_of (c.def_ 44 (d := d_L_served) rfl) (He.glo_ok X G (c.fact 39 (f := .glo "_law_served") rfl)),
  d_L_world := glo_of (c.def_ 45 (d := d_L_world) rfl) (He.glo_ok X G (c.fact 40 (f := .glo "_law_world") rfl)),
  d_L_raised := glo_of (c.def_ 46 (d := d_L_raised) rfl) (He.glo_ok X G (c.fact 41 (f := .glo "_law_raised") rfl)),
  d_L_moved := glo_of (c.def_ 47 (d := d_L_moved) rfl) (He.glo_ok X G (c.fact 42 (f := .glo "_law_moved") rfl)),
  d_L_led := glo_of (c.def_ 48 (d := d_L_led) rfl) (He.glo_ok X G (c.fact 43 (f := .glo "_law_led") rfl)),
  d_L_work := glo_of (c.def_ 49 (d := d_L_work) rfl) (He.glo_ok X G (c.fact 44 (f := .glo "_law_work") rfl)),
  d_L_least_of := glo_of (c.def_ 50 (d := d_L_least_of) rfl) (He.glo_ok X G (c.fact 45 (f := .glo "_law_least_of") rfl)),
  d_L_low := glo_of (c.def_ 51 (d := d_L_low) rfl) (He.glo_ok X G (c.fact 46 (f := .glo "_law_low") rfl)),
  d_L_lots := glo_of (c.def_ 52 (d := d_L_lots) rfl) (He.glo_ok X G (c.fact 47 (f := .glo "_law_lots") rfl)),
  d_L_classes := glo_of (c.def_ 53 (d := d_L_classes) rfl) (He.glo_ok X G (c.fact 48 (f := .glo "_law_classes") rfl)),
  d_L_shrunk := glo_of (c.def_ 54 (d := d_L_shrunk) rfl) (He.glo_ok X G (c.fact 49 (f := .glo "_law_shrunk") rfl)),
  d_L_machine := glo_of (c.def_ 55 (d := d_L_machine) rfl) (He.glo_ok X G (c.fact 50 (f := .glo "_law_machine") rfl)),
  d_L_went := glo_of (c.def_ 56 (d := d_L_went) rfl) (He.glo_ok X G (c.fact 51 (f := .glo "_law_went") rfl)),
  d_L_steps_due := glo_of (c.def_ 57 (d := d_L_steps_due) rfl) (He.glo_ok X G (c.fact 52 (f := .glo "_law_steps_due") rfl)),
  d_L_row := glo_of (c.def_ 58 (d := d_L_row) rfl) (He.glo_ok X G (c.fact 53 (f := .glo "_law_row") rfl)),
  d_L_rows_to := glo_of (c.def_ 59 (d := d_L_rows_to) rfl) (He.glo_ok X G (c.fact 54 (f := .glo "_law_rows_to") rfl)),
  d_L_sign := glo_of (c.def_ 60 (d := d_L_sign) rfl) (He.glo_ok X G (c.fact 55 (f := .glo "_law_sign") rfl)),
  d_L_small := glo_of (c.def_ 61 (d := d_L_small) rfl) (He.glo_ok X G (c.fact 56 (f := .glo "_law_small") rfl)),
  d_L_acts := glo_of (c.def_ 62 (d := d_L_acts) rfl) (He.glo_ok X G (c.fact 57 (f := .glo "_law_acts") rfl)),
  k_Store := ⟨He.cls_ok (c.fact 64 (f := .cls "Store") rfl), He.glo_ok X G (c.fact 59 (f := .glo "Store") rfl), let ⟨fd, F⟩ := (c.def_ 16 (d := d_Store_init) rfl); ⟨_, fd, F, He.mkr_ok (c.fact 65 (f := .mkr "Store") rfl)⟩⟩,
  n_Store_asks := He.noat_ok (c.fact 73 (f := .noat "Store" "asks") rfl),
  n_Store_begins := He.noat_ok (c.fact 74 (f := .noat "Store" "begins") rfl),
  n_Store_costs := He.noat_ok (c.fact 75 (f := .noat "Store" "costs") rfl),
  n_Store_ends := He.noat_ok (c.fact 76 (f := .noat "Store" "ends") rfl),
  k_Standings := ⟨He.cls_ok (c.fact 66 (f := .cls "Standings") rfl), He.glo_ok X G (c.fact 60 (f := .glo "Standings") rfl), let ⟨fd, F⟩ := (c.def_ 19 (d := d_Standings_init) rfl); ⟨_, fd, F, He.mkr_ok (c.fact 67 (f := .mkr "Standings") rfl)⟩⟩,
  n_Standings_lots := He.noat_ok (c.fact 77 (f := .noat "Standings" "lots") rfl),
  n_Standings_rows := He.noat_ok (c.fact 78 (f := .noat "Standings" "rows") rfl),
  n_Standings_steps := He.noat_ok (c.fact 79 (f := .noat "Standings" "steps") rfl),
  k_Machine := ⟨He.cls_ok (c.fact 68 (f := .cls "Machine") rfl), He.glo_ok X G (c.fact 61 (f := .glo "Machine") rfl), let ⟨fd, F⟩ := (c.def_ 23 (d := d_Machine_init) rfl); ⟨_, fd, F, He.mkr_ok (c.fact 69 (f := .mkr "Machine") rfl)⟩⟩,
  n_Machine_asks := He.noat_ok (c.fact 80 (f := .noat "Machine" "asks") rfl),
  n_Machine_first := He.noat_ok (c.fact 81 (f := .noat "Machine" "first") rfl),
  n_Machine_steps := He.noat_ok (c.fact 82 (f := .noat "Machine" "steps") rfl),
  n_Machine_rows := He.noat_ok (c.fact 83 (f := .noat "Machine" "rows") rfl),
  v_Verdict := ⟨He.glo_ok X G (c.fact 62 (f := .glo "Verdict") rfl), ⟨e6, e7⟩, let ⟨fd, F⟩ := (c.def_ 29 (d := d_Verdict_init) rfl); ⟨_, fd, F, ⟨e8, rfl⟩⟩⟩,
  k_RowLikeness := ⟨He.cls_ok (c.fact 71 (f := .cls "RowLikeness") rfl), He.glo_ok X G (c.fact 63 (f := .glo "RowLikeness") rfl), let ⟨fd, F⟩ := (c.def_ 30 (d := d_RowLikeness_init) rfl); ⟨_, fd, F, He.mkr_ok (c.fact 72 (f := .mkr "RowLikeness") rfl)⟩⟩,
  n_RowLikeness_holds := He.noat_ok (c.fact 84 (f := .noat "RowLikeness" "holds") rfl),
  n_RowLikeness_more := He.noat_ok (c.fact 85 (f := .noat "RowLikeness" "more") rfl),
  n_RowLikeness_first := He.noat_ok (c.fact 86 (f := .noat "RowLikeness" "first") rfl),
  n_RowLikeness_second := He.noat_ok (c.fact 87 (f := .noat "RowLikeness" "second") rfl),
  b_isinstance := He.free_ok X G (c.fact 88 (f := .free "isinstance") rfl),
  b_int := He.free_ok X G (c.fact 89 (f := .free "int") rfl),
  b_bool := He.free_ok X G (c.fact 90 (f := .free "bool") rfl),
  b_tuple := He.free_ok X G (c.fact 91 (f := .free "tuple") rfl),
  b_list := He.free_ok X G (c.fact 92 (f := .free "list") rfl),
  b_str := He.free_ok X G (c.fact 93 (f := .free "str") rfl),
  b_len := He.free_ok X G (c.fact 94 (f := .free "len") rfl),
  b_range := He.free_ok X G (c.fact 95 (f := .free "range") rfl),
  b_enumerate := He.free_ok X G (c.fact 96 (f := .free "enumerate") rfl),
  b_zip := He.free_ok X G (c.fact 97 (f := .free "zip") rfl),
  b_min := He.free_ok X G (c.fact 98 (f := .free "min") rfl),
  b_max := He.free_ok X G (c.fact 99 (f := .free "max") rfl),
  b_sum := He.free_ok X G (c.fact 100 (f := .free "sum") rfl),
  b_abs := He.free_ok X G (c.fact 101 (f := .free "abs") rfl),
  g_LONGEST := He.int_ok X G (c.fact 102 (f := .int "LONGEST" 2000) rfl),
  g_MOST_STATES := He.int_ok X G (c.fact 103 (f := .int "MOST_STATES" 1000) rfl),
  g_MOST_STANDINGS := He.int_ok X G (c.fact 104 (f := .int "MOST_STANDINGS" 1000) rfl),
  g_MOST_KINDS := He.int_ok X G (c.fact 105 (f := .int "MOST_KINDS" 1000) rfl),
  g_LETTERS := He.str_ok X G (c.fact 106 (f := .str "LETTERS" "abcdefgh") rfl),
  isi_cls := e1,
  isi_get := e2,
  isi_tk := e3,
  isi_mro := e4,
  isi_one := e5 }
theorem glo_law {K : PySem.W.Frag} {h : Heap} {mg : Str → Option Value} (X : K.In h) (G : h.Ns mainGlobals mg) (c : He.SaysD fa fn K) : Glo K mg "law" s_law := glo_of (c.def_ 63 (d := d_law) rfl) (He.glo_ok X G (c.fact 58 (f := .glo "law") rfl))

end AW

namespace AW
open PySem PySem.Spec PyProof.Rows L2
open PySem.W PySem.Calls PySem
theorem run (w : World) : HandSHeadRun.RunEq R (PySem.W.view R.prog [100]) (hookA fa fn) (fun s => obA fa fn (HandSHeadRun.getT s)) 10000 nms w := by
  intro os
  kernel_rfl
end AW
open PySem PySem.W PySem.Calls PyProof.Rows
theorem PySem.Challenge.cw_afterwise_k58_whole_put_machines_holds : PySem.Challenge.rw_afterwise_k58_whole_put_machines.Holds := by
  w_on; o_law
  refine HandSHeadRun.head_any (r := OpenLaw.row PySem.Challenge.rw_afterwise_k58_whole_put_machines) (q := view (OpenLaw.row PySem.Challenge.rw_afterwise_k58_whole_put_machines).prog [100]) (H := AW.hookA AW.fa AW.fn) (ob := fun s => AW.obA AW.fa AW.fn (HandSHeadRun.getT s)) (M := 10000) (loose := AW.nms) (d := HandSHeadRun.topDef (OpenLaw.row PySem.Challenge.rw_afterwise_k58_whole_put_machines).prog 100) (kwd := []) AW.ob_eq
    (by kernel_rfl) (fun s => by kernel_rfl) AW.run (by kernel_rfl) (by kernel_rfl) (by kernel_rfl) (by rfl) (by first | assumption | decide +kernel) (by decide +kernel) ⟨rfl, rfl, rfl, rfl, rfl, by decide +kernel⟩ ?hw ?hc
  case hw => w_witness2
  case hc =>
    refine L2.walk_ofE (l := PySem.Challenge.rw_afterwise_k58_whole_put_machines) (n := 63) (k := 10) (x := "_law_script") (CX := L2.CX0) rfl (by decide) (by kernel_rfl) ⟨rfl, by decide, by decide⟩ ?F (fun _ _ _ _ z => z)
    intro w mg fa h Y G hmg0
    obtain ⟨K, KX, c, xb⟩ := Y
    have hmg : mg ("law" : PySem.Str) = some (.ref fa) := by
      have e : (HandSHeadRun.topDef (OpenLaw.row PySem.Challenge.rw_afterwise_k58_whole_put_machines).prog 100).name = ("law" : PySem.Str) := by kernel_rfl
      rw [← e]
      exact hmg0
    obtain ⟨f, fd, F, hf⟩ := AW.glo_law KX G c
    have e := hmg.symm.trans hf
    cases e
    have b := L2.FunD.bindsA (ps := ["_law_script"]) F fun _ _ _ _ _ _ us hl => match us, hl with | [_], _ => rfl
    exact ⟨K, fd, AW.sp_law K, KX, fun s v => b s [v] rfl, fun H a ns hl _ hS => ⟨a, ns, rfl, hS, Nat.le_trans hl (by decide), fun _ => rfl⟩, fun base _ _ => AW.fn_law (AW.env_of KX G c xb) F⟩
