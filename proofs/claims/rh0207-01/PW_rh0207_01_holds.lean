import PyProof.Rows.All
import Wide.All
import OpenK.AllK
import Wide.FinOn
import PySem.Challenge.RW_rh0207_01
set_option Elab.async false
namespace Mine
section
open PySem PySem.W PyProof.Rows
set_option maxRecDepth 100000 in
set_option maxHeartbeats 8000000 in
open_top hd for PySem.Challenge.rw_rh0207_01
end
section
open PySem PySem.W PyProof.Rows
-- part M0
section
open PySem PySem.W PySem.Spec PySem.Calls PyProof.Rows PySem.SeqAt
section
variable {α : Type}
theorem snoc_all {P : Nat → α → Prop} {l : List α} {x : α} (h : ∀ (j : Nat) (q : α), l[j]? = some q → P j q) (hx : P l.length x) : ∀ (j : Nat) (q : α), (l ++ [x])[j]? = some q → P j q := by
  intro j q hj
  rcases Nat.lt_or_ge j l.length with g | g
  · rw [List.getElem?_append_left g] at hj
    exact h j q hj
  · rw [List.getElem?_append_right g] at hj
    cases e : j - l.length with
    | zero =>
      rw [e] at hj
      have : j = l.length := Nat.le_antisymm (Nat.le_of_sub_eq_zero e) g
      rw [this, ← Option.some.inj hj]
      exact hx
    | succ n => rw [e] at hj; cases hj
theorem sub_cons {a : α} {l l' : List α} (ha : a ∈ l') (h : ∀ q ∈ l, q ∈ l') : ∀ q ∈ a :: l, q ∈ l' := List.forall_mem_cons.mpr ⟨ha, h⟩
theorem al {P : α → Prop} {a : α} {l : List α} (h : P a) (r : ∀ x ∈ l, P x) : ∀ x ∈ a :: l, P x := List.forall_mem_cons.mpr ⟨h, r⟩
theorem sub_two {a b l' : List α} (ha : ∀ q ∈ a, q ∈ l') (h : ∀ q ∈ b, q ∈ l') : ∀ q ∈ a ++ b, q ∈ l' := fun q hq => (List.mem_append.mp hq).elim (ha q) (h q)
theorem sub_id {l : List α} : ∀ q ∈ l, q ∈ l := fun _ h => h
theorem sub_sk {a : α} {l l' : List α} (h : ∀ q ∈ l, q ∈ l') : ∀ q ∈ l, q ∈ a :: l' := fun q hq => .tail _ (h q hq)
theorem sub_l {l a b : List α} (h : ∀ q ∈ l, q ∈ a) : ∀ q ∈ l, q ∈ a ++ b := fun q hq => List.mem_append_left _ (h q hq)
theorem sub_r {l a b : List α} (h : ∀ q ∈ l, q ∈ b) : ∀ q ∈ l, q ∈ a ++ b := fun q hq => List.mem_append_right _ (h q hq)
theorem mem_in2 {A B Z LS rest : List α} {x y : α} {p : α} (h : p ∈ B ++ (A ++ (LS ++ x :: y :: rest))) : p ∈ x :: y :: (Z ++ (B ++ (A ++ (LS ++ rest)))) :=
  sub_two (sub_sk (sub_sk (sub_r (sub_l sub_id)))) (sub_two (sub_sk (sub_sk (sub_r (sub_r (sub_l sub_id))))) (sub_two (sub_sk (sub_sk (sub_r (sub_r (sub_r (sub_l sub_id)))))) (sub_cons (.head _) (sub_cons (.tail _ (.head _)) (sub_sk (sub_sk (sub_r (sub_r (sub_r (sub_r sub_id)))))))))) p h
theorem mem_or2 {A LS rest : List α} {x y : α} {p : α} (h : p ∈ A ++ (LS ++ x :: y :: rest)) : p ∈ A ++ (LS ++ rest) ∨ p = x ∨ p = y :=
  (List.mem_append.mp h).elim (fun h => .inl (List.mem_append_left _ h)) fun h => (List.mem_append.mp h).elim (fun h => .inl (List.mem_append_right _ (List.mem_append_left _ h))) fun h => (List.mem_cons.mp h).elim (fun h => .inr (.inl h)) fun h => (List.mem_cons.mp h).elim (fun h => .inr (.inr h)) fun h => .inl (List.mem_append_right _ (List.mem_append_right _ h))
theorem mem_in1 {A B LS rest : List α} {x : α} {p : α} (h : p ∈ B ++ (A ++ (LS ++ x :: rest))) : p ∈ x :: (B ++ (A ++ (LS ++ rest))) :=
  sub_two (sub_sk (sub_l sub_id)) (sub_two (sub_sk (sub_r (sub_l sub_id))) (sub_two (sub_sk (sub_r (sub_r (sub_l sub_id)))) (sub_cons (.head _) (sub_sk (sub_r (sub_r (sub_r sub_id))))))) p h
theorem mem_or1 {A LS rest : List α} {x : α} {p : α} (h : p ∈ A ++ (LS ++ x :: rest)) : p ∈ A ++ (LS ++ rest) ∨ p = x :=
  (List.mem_append.mp h).elim (fun h => .inl (List.mem_append_left _ h)) fun h => (List.mem_append.mp h).elim (fun h => .inl (List.mem_append_right _ (List.mem_append_left _ h))) fun h => (List.mem_cons.mp h).elim .inr fun h => .inl (List.mem_append_right _ (List.mem_append_right _ h))
theorem mem_swap {A B C : List α} {p : α} (h : p ∈ A ++ (B ++ C)) : p ∈ B ++ (A ++ C) := sub_two (sub_r (sub_l sub_id)) (sub_two (sub_l sub_id) (sub_r (sub_r sub_id))) p h
theorem mem_swap1 {A R : List α} {d e : α} {q : α} (h : q ∈ A ++ d :: R) : q ∈ d :: e :: (A ++ R) := sub_two (sub_sk (sub_sk (sub_l sub_id))) (sub_cons (.head _) (sub_sk (sub_sk (sub_r sub_id)))) q h
theorem mem_swap2 {A R : List α} {d e f : α} {q : α} (h : q ∈ A ++ d :: R) : q ∈ d :: e :: f :: (A ++ R) := sub_two (sub_sk (sub_sk (sub_sk (sub_l sub_id)))) (sub_cons (.head _) (sub_sk (sub_sk (sub_sk (sub_r sub_id))))) q h
theorem mem_mid {A B C : List α} {p : α} (h : p ∈ A ++ C) : p ∈ A ++ (B ++ C) := sub_two (sub_l sub_id) (sub_r (sub_r sub_id)) p h
theorem mem_at {A R : List α} {f f' q : α} (h : q ∈ A ++ f' :: R) : q ∈ A ++ f :: R ∨ q = f' :=
  (List.mem_append.mp h).elim (fun h => .inl (List.mem_append_left _ h)) fun h => (List.mem_cons.mp h).elim .inr fun h => .inl (List.mem_append_right _ (.tail _ h))
theorem sub_skip {a : α} {l l' : List α} (h : ∀ q ∈ l, q ∈ l') : ∀ q ∈ l, q ∈ a :: l' := fun q hq => .tail _ (h q hq)
theorem sub_mono {a : α} {l l' : List α} (h : ∀ q ∈ l, q ∈ l') : ∀ q ∈ a :: l, q ∈ a :: l' := sub_cons (.head _) (sub_skip h)
theorem sub_app {a : List α} {l : List α} : ∀ q ∈ l, q ∈ a ++ l := fun _ hq => List.mem_append_right _ hq
theorem cat_map {β : Type} {f : β → α} {l : List β} {x : β} (y : List α) : (l ++ [x]).map f ++ y = l.map f ++ f x :: y := by rw [List.map_append, List.append_assoc]; rfl
theorem cat_flat {β : Type} {f : β → List α} {l : List β} {x : β} (y : List α) : (l ++ [x]).flatMap f ++ y = l.flatMap f ++ (f x ++ y) := by rw [List.flatMap_append, List.append_assoc, List.flatMap_singleton]
theorem len_snoc {l : List α} {x : α} {i : Nat} (h : l.length = i) : (l ++ [x]).length = i + 1 := by rw [List.length_append, h]; rfl
theorem map_snoc {β : Type} {f : β → α} {l : List β} {x : β} : l.map f ++ [f x] = (l ++ [x]).map f := by rw [List.map_append]; rfl
theorem up_self {m : Str → Option Value} {x : Str} {v : Option Value} : (fun z => if z = x then v else m z) x = v := if_pos rfl
theorem up_ne {m : Str → Option Value} {x y : Str} {u : Option Value} {v : Value} (h : x ≠ y) (hm : m x = some v) : (fun z => if z = y then u else m z) x = some v := (if_neg h).trans hm
end
section
variable {M : Model} {A : Around} {s : Shared} {β : Type} {t : Sem β} {Q₀ : β → Shared → Prop} {E₀ : Value → Shared → Prop}
theorem cutT {P : β → Prop} {h₀ : Heap} {L : Addr} {m : Str → Option Value} {news : List (Addr × Obj)} (F : Fr h₀ L s.heap m) (N : News h₀ L s.heap news)
    (h : ∀ s Q E, Fr h₀ L s.heap m → News h₀ L s.heap news → (∀ b h' tk, P b → Fr h₀ L h' m → News h₀ L h' news → Q b { s with heap := h', toks := tk }) → wpAny M A t Q E s)
    (k : ∀ b h' tk, P b → Fr h₀ L h' m → News h₀ L h' news → Q₀ b { s with heap := h', toks := tk }) : wpAny M A t Q₀ E₀ s := h _ _ _ F N k
theorem cutL {P : Obj → Prop} {f : β} {h₀ : Heap} {L l : Addr} {o : Obj} {m : Str → Option Value} {pre post : List (Addr × Obj)} (F : Fr h₀ L s.heap m) (N : News h₀ L s.heap (pre ++ (l, o) :: post))
    (h : ∀ s Q E, Fr h₀ L s.heap m → News h₀ L s.heap (pre ++ (l, o) :: post) → (∀ o' h' tk, P o' → Fr h₀ L h' m → News h₀ L h' (pre ++ (l, o') :: post) → Q f { s with heap := h', toks := tk }) → wpAny M A t Q E s)
    (k : ∀ o' h' tk, P o' → Fr h₀ L h' m → News h₀ L h' (pre ++ (l, o') :: post) → Q₀ f { s with heap := h', toks := tk }) : wpAny M A t Q₀ E₀ s := h _ _ _ F N k
theorem lt_mem {l : List (Addr × Obj)} {a b : Addr} {o : Obj} (h : ∀ p ∈ l, p.1 < b) (m : (a, o) ∈ l) : a < b := h _ m
theorem lt_mem2 {l : List (Addr × Obj)} {a b c : Addr} {o : Obj} (q : @LT.lt Nat _ b c) (h : ∀ p ∈ l, p.1 < b) (m : (a, o) ∈ l) : a < c := Nat.lt_trans (h _ m) q
theorem lt_at {l : List (Addr × Obj)} {X : Addr} {r : Addr × Obj} (h : ∀ p ∈ l, p.1 < X) (hr : r ∈ l) : r.1 < X := h r hr
theorem lt_ne {I : Addr} {l : List (Addr × Obj)} (h : ∀ p ∈ l, p.1 < I) : ∀ p ∈ l, p.1 ≠ I := fun p hp => Nat.ne_of_lt (h p hp)
theorem lt_ne_succ {I : Addr} {l : List (Addr × Obj)} (h : ∀ p ∈ l, p.1 < I) : ∀ p ∈ l, p.1 ≠ I + 1 := fun p hp => Nat.ne_of_lt (Nat.lt_succ_of_lt (h p hp))
theorem cutB {P : Bool → Prop} {t : Sem Bool} {Q₀ : Bool → Shared → Prop} (h : ∀ Q E, (∀ b tk, P b → Q b { s with toks := tk }) → wpAny M A t Q E s) (k : ∀ b tk, P b → Q₀ b { s with toks := tk }) : wpAny M A t Q₀ E₀ s := h _ _ k
theorem cutV {P : Value → Prop} {t : Sem Value} {Q₀ : Value → Shared → Prop} (h : ∀ Q E, (∀ v tk, P v → Q v { s with toks := tk }) → wpAny M A t Q E s) (k : ∀ v tk, P v → Q₀ v { s with toks := tk }) : wpAny M A t Q₀ E₀ s := h _ _ k
end
noncomputable def Mark : Prop := True
theorem mark : Mark := True.intro
noncomputable def Held (p : Prop) : Prop := p
theorem held {p : Prop} (h : Held p) : p := h
inductive FnLit (body' : List Stmt) (qual' : Str) (scope' : Scope) : List Stmt → Str → Scope → Prop
  | mk : FnLit body' qual' scope' body' qual' scope'
theorem fn_is {K : Frag} {f : Addr} {oc dV kV doc pm cdv ct oc' dV' kV' doc' pm' cdv' ct' : Value} {an od an' od' : Option Addr} {osl osl' : Array (Option Value)} {name qual name' qual' : Str} {params params' : Arguments} {body body' : List Stmt} {scope scope' : Scope}
  (h2 : K.lookup f = some ⟨oc', od', .func (fnOf name' qual' params' body' scope' dV' kV' doc' pm' an' cdv' ct'), osl'⟩)
  (ho : K.lookup f = some ⟨oc, od, .func (fnOf name qual params body scope dV kV doc pm an cdv ct), osl⟩) : FnLit body' qual' scope' body qual scope := by
  have h3 := ho.symm.trans h2
  injection h3 with h3
  injection h3 with _ _ h4 _
  injection h4 with h4
  injection h4 with e1 e2 e3 e4 e5
  injection e4 with e4
  subst e4 e2 e5
  exact .mk
theorem lt7 {k : Int} (h0 : 0 ≤ k) (h7 : k < 7) : k = 0 ∨ k = 1 ∨ k = 2 ∨ k = 3 ∨ k = 4 ∨ k = 5 ∨ k = 6 := by
  obtain ⟨n, rfl⟩ := Int.eq_ofNat_of_zero_le h0
  have h : n < 7 := Int.ofNat_lt.mp h7
  exact (by decide : ∀ n : Fin 7, ((n.1 : Nat) : Int) = 0 ∨ ((n.1 : Nat) : Int) = 1 ∨ ((n.1 : Nat) : Int) = 2 ∨ ((n.1 : Nat) : Int) = 3 ∨ ((n.1 : Nat) : Int) = 4 ∨ ((n.1 : Nat) : Int) = 5 ∨ ((n.1 : Nat) : Int) = 6) ⟨n, h⟩
theorem lt3 {k : Int} (h : 0 ≤ k ∧ k < 3) : k = 0 ∨ k = 1 ∨ k = 2 := by
  obtain ⟨n, rfl⟩ := Int.eq_ofNat_of_zero_le h.1
  have h : n < 3 := Int.ofNat_lt.mp h.2
  exact (by decide : ∀ n : Fin 3, ((n.1 : Nat) : Int) = 0 ∨ ((n.1 : Nat) : Int) = 1 ∨ ((n.1 : Nat) : Int) = 2) ⟨n, h⟩
theorem ik0 {i n : Nat} (e : i + 0 = n) : i = n := e
theorem ikl {i k n : Nat} (e : i + (k + 1) = n) : i < n := e ▸ Nat.lt_add_of_pos_right (Nat.succ_pos k)
theorem iks {i k n : Nat} (e : i + (k + 1) = n) : i + 1 + k = n := (Nat.succ_add_eq_add_succ i k).trans e
theorem ikz {α : Type} {i : Nat} {vs : List α} (e : i + 0 = vs.length) : vs.toArray[i]? = none := by
  rw [List.getElem?_toArray]; exact List.getElem?_eq_none (Nat.le_of_eq e.symm)
theorem lim2 {x j c d lim : Nat} (h : x + d < lim) (hk : j + c ≤ d) : x + j + c < lim := Nat.lt_of_le_of_lt (Nat.le_trans (Nat.le_of_eq (Nat.add_assoc x j c)) (Nat.add_le_add_left hk x)) h
theorem lim1 {x c d lim : Nat} (h : x + d < lim) (hk : c ≤ d) : x + c < lim := Nat.lt_of_le_of_lt (Nat.add_le_add_left hk x) h
theorem lim0 {x d lim : Nat} (h : x + d < lim) : x < lim := Nat.lt_of_le_of_lt (Nat.le_add_right x d) h
theorem fr_eq {h₀ h : Heap} {L : Addr} {m m' : Str → Option Value} (F : Fr h₀ L h m) (e : m = m') : Fr h₀ L h m' := e ▸ F
end
local macro_rules | `(tactic| walk_at $s:str) => `(tactic| k_extra $s)
local macro_rules | `(tactic| k_ne) => `(tactic| k_extra "ne")
local macro_rules | `(tactic| k_all) => `(tactic| k_extra "all")
local macro_rules | `(tactic| k_mem) => `(tactic| k_extra "mem")
local macro_rules | `(tactic| k_lt $h:ident) => `(tactic| (have hAll9 := $h; replace $h := allLt_of $h; dsimp only [AllLt] at $h:ident))
local macro_rules | `(tactic| k_room) => `(tactic| ktr_room)
local macro_rules | `(tactic| k_units) => `(tactic| ktr_units)
local macro_rules | `(tactic| ktr_room) => `(tactic| k_extra "room")
local macro_rules | `(tactic| ktr_units) => `(tactic| k_extra "room")
-- part D1
section
open PySem PySem.W PySem.Spec PySem.Calls PyProof.Rows
set_option linter.all false
set_option maxRecDepth 100000
set_option maxHeartbeats 8000000
local macro_rules | `(tactic| k_all) => `(tactic| assumption)
theorem len_lst {prog : Program} {w : World} {A : Around} {E : Value → Shared → Prop} {s : Shared} {h₀ : Heap} {L D : Addr} {news : List (Addr × Obj)} {ys : List Value} {ns : List Int} {Q : Value → Shared → Prop}
  (N : News h₀ L s.heap news) (hm : (D, LCg.lst ys) ∈ news) (hy : IntsAre ys ns) (hb : ns.length ≤ 14) (h : Q (.int (ns.length : Int) (s.toks + 1)) { s with toks := s.toks + 1 + 1 }) : wpAny (model prog w) A (call (.builtin "len") [.ref D]) Q E s := by
  have e : ys.toArray.size = ns.length := by rw [List.size_toArray]; exact hy.length
  exact call_len_list (items := ys.toArray) ⟨_, (N _ hm).1, rfl, _, rfl⟩ (by rw [e]; omega) (by rw [e]; exact h)
noncomputable def drawV (ns : List Int) (i many : Int) : Int :=
  if i < ns.length then Int.fmod (if ns.getD i.toNat 0 < 0 then -ns.getD i.toNat 0 else ns.getD i.toNat 0) many else Int.fmod (3 * i + Int.fdiv i 4 + 1) many
theorem drawV_lo {ns : List Int} {i many : Int} (h : 1 ≤ many) : 0 ≤ drawV ns i many := by
  unfold drawV
  split <;> exact Int.fmod_nonneg_of_pos _ (by omega)
theorem drawV_hi {ns : List Int} {i many : Int} (h : 1 ≤ many) : drawV ns i many < many := by
  unfold drawV
  split <;> exact Int.fmod_lt_of_pos _ (by omega)
theorem drawV_in {ns : List Int} {i many : Int} (h : i < ns.length) : drawV ns i many = Int.fmod (if ns.getD i.toNat 0 < 0 then -ns.getD i.toNat 0 else ns.getD i.toNat 0) many := if_pos h
theorem drawV_out {ns : List Int} {i many : Int} (h : ¬ i < ns.length) : drawV ns i many = Int.fmod (3 * i + Int.fdiv i 4 + 1) many := if_neg h

theorem draw1 (w : World) {p : Program} {loose : List Str} {mean : ExcName → Option Value} {mg mb : Str → Option Value} {rest : List (Addr × Obj)} {l D : Addr} {i : Int} {t0 u0 : Tok} {n : Nat} {ys : List Value} {ns : List Int} {many : Int}
  {dp u : Nat} {gd : Option (List Code)} {cn : Str} {cs : Scope} {a : Addr} {ccd : Value} {cl : List (Str × Addr)} {outer : List Env} {A₀ : Around} {base h₀ : Heap} {L : Addr} {m : Str → Option Value} {s : Shared} {Q E : Value → Shared → Prop}
  (B : Below A₀ base outer h₀) (F : Fr h₀ L s.heap m) (hk : cs.kind = .function) (T : Top p loose mean mg mb h₀)
  (N : News h₀ L s.heap ((l, W.listOf #[.ref D, .int i t0] n) :: rest)) (hl : ∀ q ∈ rest, q.1 ≠ l) (mD : (D, LCg.lst ys) ∈ rest) (hys : IntsAre ys ns) (h14 : ns.length ≤ 14) (hi : 0 ≤ i) (hi2 : i ≤ 14) (hm1 : 1 ≤ many) (hm2 : many ≤ 7)
  (hdp : dp + 10 < recursionLimit) (hu : u + 100 < cLine)
  (hret : ∀ t1 t2 h' tk', Fr h₀ L h' m → News h₀ L h' ((l, W.listOf #[.ref D, .int (i + 1) t1] n) :: rest) → Q (.int (drawV ns i many) t2) { s with heap := h', toks := tk' }) :
  (hd.heap_39 w.params).In h₀ → 
  wpAny (model PySem.Challenge.rw_rh0207_01.row.prog w) (ktrTop dp u gd cn cs L a ccd cl outer) (call (.ref 192) [.ref l, .int many u0]) Q E s := by
  w_top off
  k_with_none
  k_with "ne" => first | assumption | (refine neN ?_; (try dsimp only); first | assumption | exact Nat.ne_of_lt (lt_mem (by assumption) (by k_mem)) | exact Nat.ne_of_gt (lt_mem (by assumption) (by k_mem)) | exact Nat.ne_of_gt (lt_mem2 (by assumption) (by assumption) (by k_mem)) | exact And.left (by assumption) | exact Ne.symm (And.left (by assumption)) | exact And.left (And.right (by assumption)) | exact Ne.symm (And.left (And.right (by assumption))) | exact And.left (And.right (And.right (by assumption))) | exact Ne.symm (And.left (And.right (And.right (by assumption)))) | exact And.left (And.right (And.right (And.right (by assumption)))) | exact Ne.symm (And.left (And.right (And.right (And.right (by assumption))))) | exact And.left (And.right (And.right (And.right (And.right (by assumption))))) | exact Ne.symm (And.left (And.right (And.right (And.right (And.right (by assumption)))))) | exact Ne.symm (And.left (And.right (And.right (And.right (And.right (And.right (by assumption)))))))  | exact Ne.symm (And.left (And.right (And.right (And.right (And.right (And.right (And.right (by assumption)))))))) | omega)
  k_with "all" => first | assumption | exact List.forall_mem_nil _ | (refine' List.forall_mem_cons.mpr ⟨?a, ?b⟩; (case a => k_ne); (case b => k_all)) | exact lt_ne (by assumption) | exact lt_ne_succ (by assumption) | exact fun p hp => Nat.ne_of_lt (lt_at (by assumption) (by k_mem))
  k_with "mem" => first | assumption | exact List.Mem.head _ | (refine' List.Mem.tail _ ?_; k_mem)
  k_with "room" => first | exact lim2 (by assumption) (Nat.le_of_ble_eq_true rfl) | exact lim1 (by assumption) (Nat.le_of_ble_eq_true rfl) | exact lim0 (by assumption)
  k_with "call builtin:len" => (k_here; k_dflt (refine len_lst (by k_asm) (by k_mem) (by assumption) (by assumption) ?_))
  k_fill
  intro X
  refine wpAny_call ?_
  k_dflt (refine' code_def (binds := [(Str.ofString "pool", .ref l), (Str.ofString "many", .int many u0)]) ?k1 ?k2 ?k3 ?k4 ?k5 ?kA ?kF ?kK ?k6 ?k7 ?k8 ?k9 ?kB ?_ ?c2 ?c3 ?c4 ?c5; (case kA => exact rfl); (case kF => exact rfl); (case kK => assumption); (case k1 => k_asm); (case k2 => k_asm); (case k3 => k_asm); (case k4 => k_asm); (case k5 => k_asm); (case k6 => k_is); (case k7 => k_is); (case k8 => ktr_room); (case k9 => exact BindsTo.of_eq rfl); (case c5 => decide); (case kB => exact locs rfl); (case c2 => exact rfl); (case c3 => exact rfl); (case c4 => exact rfl); k_whole; intro g' L' h' FG' F' N' B' X' T'; (try dsimp only); (try k_fold))
  k_steps
  · rw [← drawV_in (by assumption)]
    exact hret _ _ _ _ (by assumption) (by assumption)
  · rw [← drawV_out (by assumption)]
    exact hret _ _ _ _ (by assumption) (by assumption)

theorem UpdF.split {d : Addr} {o : Obj} {news : List (Addr × Obj)} {g : Obj → List (Addr × Obj)} (U : UpdF d o news g) : ∃ pre post, news = pre ++ (d, o) :: post ∧ (∀ o', g o' = pre ++ (d, o') :: post) ∧ (∀ p ∈ pre, p.1 ≠ d) ∧ ∀ p ∈ post, p.1 ≠ d := by
  induction U with
  | head h => exact ⟨[], _, rfl, fun _ => rfl, (fun _ h => nomatch h), h⟩
  | tail h _ ih =>
    obtain ⟨pre, post, e, eg, a, b⟩ := ih
    refine ⟨_ :: pre, post, by rw [e]; rfl, fun o' => congrArg (List.cons _) (eg o'), fun q hq => ?_, b⟩
    rcases List.mem_cons.mp hq with rfl | hq
    · exact h
    · exact a q hq
theorem news_front {h₀ h : Heap} {L : Addr} {pre post : List (Addr × Obj)} {x : Addr × Obj} (N : News h₀ L h (pre ++ x :: post)) : News h₀ L h (x :: (pre ++ post)) := fun q hq => N q (by
  rcases List.mem_cons.mp hq with rfl | hq
  · exact List.mem_append_right _ (.head _)
  · rcases List.mem_append.mp hq with hq | hq
    · exact List.mem_append_left _ hq
    · exact List.mem_append_right _ (.tail _ hq))
theorem news_back {h₀ h : Heap} {L : Addr} {pre post : List (Addr × Obj)} {x : Addr × Obj} (N : News h₀ L h (x :: (pre ++ post))) : News h₀ L h (pre ++ x :: post) := fun q hq => N q (by
  rcases List.mem_append.mp hq with hq | hq
  · exact .tail _ (List.mem_append_left _ hq)
  · rcases List.mem_cons.mp hq with rfl | hq
    · exact .head _
    · exact .tail _ (List.mem_append_right _ hq))

theorem draw_ct {w : World} {p : Program} {loose : List Str} {mean : ExcName → Option Value} {mg mb : Str → Option Value} {news : List (Addr × Obj)} {g : Obj → List (Addr × Obj)} {l D : Addr} {i : Int} {t0 u0 : Tok} {n : Nat} {ys : List Value} {ns : List Int} {many : Int}
  {dp u : Nat} {gd : Option (List Code)} {cn : Str} {cs : Scope} {a : Addr} {ccd : Value} {cl : List (Str × Addr)} {outer : List Env} {A₀ : Around} {base h₀ : Heap} {L : Addr} {m : Str → Option Value} {s : Shared} {Q E : Value → Shared → Prop}
  (B : Below A₀ base outer h₀) (F : Fr h₀ L s.heap m) (X : (hd.heap_39 w.params).In h₀) (T : Top p loose mean mg mb h₀) (N : News h₀ L s.heap news) (U : UpdF l (W.listOf #[.ref D, .int i t0] n) news g) (hk : cs.kind = .function)
  (mD : (D, LCg.lst ys) ∈ news) (nD : D ≠ l) (hys : IntsAre ys ns) (h14 : ns.length ≤ 14) (hi : 0 ≤ i) (hi2 : i ≤ 14) (hm1 : 1 ≤ many) (hm2 : many ≤ 7)
  (hdp : dp + 10 < recursionLimit) (hu : u + 100 < cLine)
  (hret : ∀ t1 t2 h' tk', Fr h₀ L h' m → News h₀ L h' (g (W.listOf #[.ref D, .int (i + 1) t1] n)) → Q (.int (drawV ns i many) t2) { s with heap := h', toks := tk' }) :
  wpAny (model PySem.Challenge.rw_rh0207_01.row.prog w) (ktrTop dp u gd cn cs L a ccd cl outer) (call (.ref 192) [.ref l, .int many u0]) Q E s := by
  obtain ⟨pre, post, rfl, eg, ha, hb⟩ := UpdF.split U
  refine draw1 w B F hk T (news_front N) (fun q hq => ?_) ?_ hys h14 hi hi2 hm1 hm2 hdp hu (fun t1 t2 h' tk' F' N' => hret t1 t2 h' tk' F' (by rw [eg]; exact news_back N')) X
  · rcases List.mem_append.mp hq with hq | hq
    · exact ha q hq
    · exact hb q hq
  · rcases List.mem_append.mp mD with hq | hq
    · exact List.mem_append_left _ hq
    · rcases List.mem_cons.mp hq with e | hq
      · exact absurd (congrArg Prod.fst e) nD
      · exact List.mem_append_right _ hq
end
-- part B1
section
open PySem PySem.W PySem.Spec PySem.Calls PyProof.Rows PySem.SeqAt
set_option linter.all false
set_option maxRecDepth 100000
set_option maxHeartbeats 8000000
noncomputable abbrev tupO (vs : List Value) : Obj := { cls := .type "tuple", data := .seq vs.toArray 0 }
section
variable {prog : Program} {w : World} {A : Around} {E : Value → Shared → Prop} {s : Shared} {h₀ : Heap} {L : Addr} {m : Str → Option Value} {news : List (Addr × Obj)}

theorem sorted12 {d : Addr} {o : Obj} {v1 v2 : Value} {Q : Value → Shared → Prop} (hh : A.handled = none) (F : Fr h₀ L s.heap m) (N : News h₀ L s.heap news) (hm : (d, o) ∈ news) (hd : o.IsDictOf (intKind prog w) [(1, v1), (2, v2)]) (lo : (d == sysModules) = false)
    (h : ∀ D h' tk t1 t2, Fr h₀ L h' m → News h₀ L h' ((D, W.listOf #[.int 1 t1, .int 2 t2] 2) :: news) → (∀ q ∈ news, q.1 < D) → Q (.ref D) { s with heap := h', toks := tk }) :
    wpAny (model prog w) A (call (.builtin "sorted") [.ref d]) Q E s := by
  obtain ⟨es, ep, hx, hdat, hk, hp, hn⟩ := hd
  have hat : s.heap.DictAt (intKind prog w) d [(1, v1), (2, v2)] ep := ⟨o, es, (N _ hm).1, hx, hdat, hk, hp, hn⟩
  refine kdu_sorted (kdl_dict (knd := intKind prog w) (kvs := [(1, v1), (2, v2)]) (ep := ep) lo) hh F N hat (Nat.le_of_ble_eq_true rfl) fun D h' tk vs F' N' l1 hl hv => ?_
  obtain ⟨k1, x1, e1, i1⟩ := hv 0 (vs.getD 0 .none) (by cases vs with | nil => cases hl | cons a r => rfl)
  obtain ⟨k2, x2, e2, i2⟩ := hv 1 (vs.getD 1 .none) (by
    cases vs with
    | nil => cases hl
    | cons a r => cases r with
      | nil => cases hl
      | cons b r => rfl)
  cases e1
  cases e2
  obtain ⟨t1, e1⟩ := Value.isInt_shape i1
  obtain ⟨t2, e2⟩ := Value.isInt_shape i2
  have hvs : vs = [.int 1 t1, .int 2 t2] := by
    cases vs with
    | nil => cases hl
    | cons a r => cases r with
      | nil => cases hl
      | cons b r => cases r with
        | nil => simp at e1 e2; rw [e1, e2]
        | cons c r => simp at hl
  subst hvs
  refine lks_sort (q := [1, 2]) (news' := fun t => (D, W.listOf (lks_vals [1, 2] 0 t).toArray 2) :: news) F' N' (fun t => Upd.head fun p hp => Nat.ne_of_lt (l1 p hp)) rfl rfl rfl (Nat.le_of_ble_eq_true rfl) fun t h'' F'' N'' => ?_
  exact h D h'' tk (t 0) (t 1) F'' N'' l1

noncomputable def IDict (prog : Program) (w : World) (news : List (Addr × Obj)) (d : Addr) (kvs : List (Int × Value)) : Prop := (d == sysModules) = false ∧ ∃ o, (d, o) ∈ news ∧ o.IsDictOf (intKind prog w) kvs
noncomputable def TDict (prog : Program) (w : World) (news : List (Addr × Obj)) (d : Addr) (xs : List (List Int × Addr × Value)) : Prop :=
  (d == sysModules) = false ∧ ∃ o es ep, (d, o) ∈ news ∧ o.ExactDict ∧ o.data = .dict es ep ∧ es.toList = xs.map (entryOfKey (tupleKind (intKind prog w))) ∧ (xs.map (·.1)).Nodup ∧ ∀ x ∈ xs, ∃ ok, (x.2.1, ok) ∈ news ∧ TupKeyObj (intKind prog w) x.1 ok
theorem IDict.mono {news' : List (Addr × Obj)} {d : Addr} {kvs : List (Int × Value)} (h : IDict prog w news d kvs) (hs : ∀ q ∈ news, q ∈ news') : IDict prog w news' d kvs := let ⟨lo, o, hm, hd⟩ := h; ⟨lo, o, hs _ hm, hd⟩
theorem TDict.mono {news' : List (Addr × Obj)} {d : Addr} {xs : List (List Int × Addr × Value)} (h : TDict prog w news d xs) (hs : ∀ q ∈ news, q ∈ news') : TDict prog w news' d xs := by
  obtain ⟨lo, o, es, ep, hm, hx, hd, he, hn, hk⟩ := h
  exact ⟨lo, o, es, ep, hs _ hm, hx, hd, he, hn, fun x hx => (hk x hx).imp fun ok z => ⟨hs _ z.1, z.2⟩⟩
theorem pair_key {r n : Int} {t u : Tok} : TupKeyObj (intKind prog w) [r, n] (tupO [.int r t, .int n u]) := ⟨rfl, _, _, rfl, .cons (intKind_is ..) (.cons (intKind_is ..) .nil)⟩
theorem IDict.of (N : News h₀ L s.heap news) {d : Addr} {kvs : List (Int × Value)} (h : IDict prog w news d kvs) : s.heap.DictOf (intKind prog w) d kvs := let ⟨_, _, hm, hd⟩ := h; kda_dict N hm hd
theorem TDict.of (N : News h₀ L s.heap news) {d : Addr} {xs : List (List Int × Addr × Value)} (h : TDict prog w news d xs) : s.heap.DictOfH (tupleKind (intKind prog w)) d xs :=
  let ⟨_, o, es, ep, hm, hx, hd, he, hn, hk⟩ := h
  ⟨o, es, ep, (N _ hm).1, hx, hd, he, fun x hx => let ⟨_, hm', t⟩ := hk x hx; t.key (N.get hm'), hn⟩

theorem item_I {value slice : Expr} {d : Addr} {kvs : List (Int × Value)} {k : Int} {t : Tok} {v : Value} {Q : Value → Shared → Prop} (N : News h₀ L s.heap news) (hI : IDict prog w news d kvs) (hv : valueAt kvs k = some v) (h : Q v { s with toks := s.toks + 1 })
    (hs : subscripted slice false (.ref d) (.int k t) = operate [.ref d, .int k t] (getItem (.ref d) (.int k t)) := by with_unfolding_all rfl) :
    wpAny (model prog w) A (subscriptTail value slice (.ref d) (.int k t)) Q E s :=
  have hm := (hI.of N).mapOf
  tail_any hm.typeIs slot_dict_getitem.lookup (wpAny_getItem_of (intKind_is ..) hm hv h) hs
theorem in_I {d : Addr} {kvs : List (Int × Value)} {k : Int} {t : Tok} {Q : Value → Shared → Prop} (N : News h₀ L s.heap news) (hI : IDict prog w news d kvs) (h : Q (.bool (valueAt kvs k).isSome) { s with toks := s.toks + 1 }) :
    wpAny (model prog w) A (compareOp .In (.int k t) (.ref d)) Q E s := wpAny_in_of (intKind_is ..) hI.1 (hI.of N).mapOf h
theorem notin_I {d : Addr} {kvs : List (Int × Value)} {k : Int} {t : Tok} {Q : Value → Shared → Prop} (N : News h₀ L s.heap news) (hI : IDict prog w news d kvs) (h : Q (.bool (!(valueAt kvs k).isSome)) { s with toks := s.toks + 1 }) :
    wpAny (model prog w) A (compareOp .NotIn (.int k t) (.ref d)) Q E s := wpAny_notIn_of (intKind_is ..) hI.1 (hI.of N).mapOf h
theorem get_I {d : Addr} {kvs : List (Int × Value)} {k : Int} {t : Tok} {Q : Value → Shared → Prop} (N : News h₀ L s.heap news) (hI : IDict prog w news d kvs) (h : Q ((valueAt kvs k).getD .none) { s with toks := s.toks + 1 }) :
    wpAny (model prog w) A (call (.builtin "dict.get") [.ref d, .int k t]) Q E s :=
  call_meetsIn PySem.F.slot_dict_get (hI.of N).typeIs PySem.F.entry_dict_get (PySem.F.args_dict_get_2 _ _) (meets_dict_get (intKind prog w) d (intKind_is ..) hI.1) ⟨_, (hI.of N).mapOf, h⟩
theorem meth_I {d : Addr} {kvs : List (Int × Value)} {pl : Sem Bool} {Q : Value × List Value → Shared → Prop} (N : News h₀ L s.heap news) (hI : IDict prog w news d kvs) (h : Q (.builtin "dict.get", [.ref d]) s) :
    wpAny (model prog w) A (getMethod (.ref d) "get" pl) Q E s :=
  let ⟨_, _, hm, hd⟩ := hI
  kdl_method PySem.F.slot_dict_get PySem.F.type_dict_get N hm hd h

theorem item_T {value slice : Expr} {d a : Addr} {xs : List (List Int × Addr × Value)} {ks : List Int} {ok : Obj} {b : Addr} {v : Value} {Q : Value → Shared → Prop} (hu : A.units + 1 < cLine) (N : News h₀ L s.heap news) (hT : TDict prog w news d xs) (hka : (a, ok) ∈ news) (tk : TupKeyObj (intKind prog w) ks ok)
    (hp : atKey xs ks = some (b, v)) (h : ∀ tk', Q v { s with toks := tk' })
    (hs : subscripted slice false (.ref d) (.ref a) = operate [.ref d, .ref a] (getItem (.ref d) (.ref a)) := by with_unfolding_all rfl) (hg : ∀ r, letTemporaryGo value (.ref d) r = pure () := by intro _; with_unfolding_all rfl) :
    wpAny (model prog w) A (subscriptTail value slice (.ref d) (.ref a)) Q E s :=
  subscriptTail_builtin (hT.of N).typeIs slot_dict_getitem.lookup (wpAny_getItem_heap (tupleKind_room_in1 hu) (tk.key (N.get hka)) (hT.of N) hp (h _)) hs hg
theorem in_T {d a : Addr} {xs : List (List Int × Addr × Value)} {ks : List Int} {ok : Obj} {Q : Value → Shared → Prop} (hu : A.units + 1 < cLine) (N : News h₀ L s.heap news) (hT : TDict prog w news d xs) (hka : (a, ok) ∈ news) (tk : TupKeyObj (intKind prog w) ks ok)
    (h : ∀ tk', Q (.bool (atKey xs ks).isSome) { s with toks := tk' }) : wpAny (model prog w) A (compareOp .In (.ref a) (.ref d)) Q E s :=
  wpAny_in_heap (tupleKind_room_in1 hu) (tk.key (N.get hka)) hT.1 (hT.of N) (h _)

inductive Pairs2 (news : List (Addr × Obj)) : List Value → List (Int × Int) → Prop
  | nil : Pairs2 news [] []
  | cons {e : Addr} {r n : Int} {t u : Tok} {vs : List Value} {ps : List (Int × Int)} : (e, tupO [.int r t, .int n u]) ∈ news → Pairs2 news vs ps → Pairs2 news (.ref e :: vs) ((r, n) :: ps)
theorem Pairs2.mono {news' : List (Addr × Obj)} {vs : List Value} {ps : List (Int × Int)} (h : Pairs2 news vs ps) (hs : ∀ q ∈ news, q ∈ news') : Pairs2 news' vs ps := by
  induction h with
  | nil => exact .nil
  | cons hm _ ih => exact .cons (hs _ hm) ih
theorem in_pairs {T e : Addr} {r n : Int} {t u : Tok} {vs : List Value} {ps : List (Int × Int)} {Q : Value → Shared → Prop} (hu : A.units + 1 < cLine) (N : News h₀ L s.heap news) (hT : (T, tupO vs) ∈ news) (hP : Pairs2 news vs ps) (he : (e, tupO [.int r t, .int n u]) ∈ news)
    (h : Q (.bool (decide ((r, n) ∈ ps))) s) : wpAny (model prog w) A (compareOp .In (.ref e) (.ref T)) Q E s := by
  classical
  -- what an item is
  have key : ∀ {vs : List Value} {ps : List (Int × Int)}, Pairs2 news vs ps → ∃ f : Value → Bool, (∀ y ∈ vs, EqAt A.in1 s y (.ref e) (f y)) ∧ vs.any f = decide ((r, n) ∈ ps) := by
    intro vs ps hP
    let f : Value → Bool := fun y => if ∃ e' t' u', y = .ref e' ∧ (e', tupO [.int r t', .int n u']) ∈ news then true else false
    have hf : ∀ {e' : Addr} {r' n' : Int} {t' u' : Tok}, (e', tupO [.int r' t', .int n' u']) ∈ news → f (.ref e') = decide ((r', n') = (r, n)) := by
      intro e' r' n' t' u' hm
      by_cases hq : (r', n') = (r, n)
      · cases hq
        rw [decide_eq_true rfl]
        exact if_pos ⟨e', t', u', rfl, hm⟩
      · rw [decide_eq_false hq]
        refine if_neg ?_
        rintro ⟨e'', t'', u'', hr, hm'⟩
        cases hr
        have h1 := (N _ hm).1
        rw [(N _ hm').1] at h1
        have h2 := Option.some.inj h1
        injection h2 with _ _ h3 _
        injection h3 with h3 _
        have h4 := congrArg Array.toList h3
        simp at h4
        exact hq (by rw [h4.1.1, h4.2.1])
    refine ⟨f, ?_, ?_⟩
    · induction hP with
      | nil => intro y hy; cases hy
      | @cons e' r' n' t' u' vs ps hm _ ih =>
        intro y hy
        rcases List.mem_cons.mp hy with rfl | hy
        · rw [hf hm]
          intro prog' w' E' Q' hq
          refine wpAny_eqBool_tuple (knd := intKind prog' w') (x := [r', n']) (y := [r, n]) hu ((pair_key (prog := prog') (w := w')).key (N _ hm).1) ((pair_key (prog := prog') (w := w')).key (N _ he).1) ?_
          have e1 : decide ([r', n'] = [r, n]) = decide ((r', n') = (r, n)) := by
            by_cases hz : (r', n') = (r, n)
            · cases hz; simp
            · rw [decide_eq_false hz, decide_eq_false]; intro hz'; apply hz; injection hz' with a b; injection b with b _; rw [a, b]
          rw [e1]; exact hq
        · exact ih y hy
    · induction hP with
      | nil => rfl
      | @cons e' r' n' t' u' vs ps hm _ ih =>
        rw [List.any_cons, hf hm, ih]
        by_cases hz : (r', n') = (r, n)
        · cases hz; simp
        · have hz' : ¬ (r, n) = (r', n') := fun q => hz q.symm
          simp [hz, List.mem_cons]
          intro a b; exact absurd (by rw [a, b]) hz'
  obtain ⟨f, hf, ha⟩ := key hP
  refine in_tupleAt (items := vs.toArray) f ⟨_, (N _ hT).1, rfl, _, rfl⟩ (fun y hy => hf y (by simpa using hy)) ?_
  have : vs.toArray.any f = decide ((r, n) ∈ ps) := by rw [← ha]; simp
  rw [this]; exact h
end
end
-- part C1
section
open PySem PySem.W PySem.Spec PySem.Calls PyProof.Rows PySem.SeqAt
set_option linter.all false
set_option maxRecDepth 100000
set_option maxHeartbeats 8000000
inductive NetAt (news : List (Addr × Obj)) (n ld lu : Addr) : Prop
  | mk (dn : Addr) (k : Nat) (h1 : Int) (t1 : Tok) (h2 : Int) (t2 : Tok) (h3 : Int) (t3 : Tok) (h4 : Int) (t4 : Tok) (h5 : Int) (t5 : Tok) (h6 : Int) (t6 : Tok) (v2 v3 v5 v6 : Value) (mn : (n, instObj 181 dn) ∈ news)
    (md : (dn, dictOf [⟨h1, .str (Str.ofString "links") t1, .ref ld⟩, ⟨h2, .str (Str.ofString "choices") t2, v2⟩, ⟨h3, .str (Str.ofString "delay") t3, v3⟩, ⟨h4, .str (Str.ofString "cut_links") t4, .ref lu⟩, ⟨h5, .str (Str.ofString "waiting") t5, v5⟩, ⟨h6, .str (Str.ofString "count") t6, v6⟩] k) ∈ news) : NetAt news n ld lu
theorem NetAt.mono {news news' : List (Addr × Obj)} {n ld lu : Addr} (h : NetAt news n ld lu) (hs : ∀ q ∈ news, q ∈ news') : NetAt news' n ld lu := by
  obtain ⟨dn, k, h1, t1, h2, t2, h3, t3, h4, t4, h5, t5, h6, t6, w2, w3, w5, w6, mn, md⟩ := h
  exact ⟨dn, k, h1, t1, h2, t2, h3, t3, h4, t4, h5, t5, h6, t6, w2, w3, w5, w6, hs _ mn, hs _ md⟩
noncomputable def linkO (ps1 ps2 : List (Int × Int)) (p : Int × Int) : Option Int := if p ∈ ps1 then some 1 else if p ∈ ps2 then some 2 else none
noncomputable def OptV : Option Int → Value → Prop
  | some k, v => ∃ t, v = .int k t
  | none, v => v = .none
theorem item_I' {prog : Program} {w : World} {A : Around} {E : Value → Shared → Prop} {s : Shared} {h₀ : Heap} {L : Addr} {news : List (Addr × Obj)} {value slice : Expr} {d : Addr} {kvs : List (Int × Value)} {k : Int} {t : Tok} {v : Value} {Q : Value → Shared → Prop}
    (N : News h₀ L s.heap news) (hI : ∃ news', IDict prog w news' d kvs ∧ ∀ q ∈ news', q ∈ news) (hv : valueAt kvs k = some v) (h : Q v { s with toks := s.toks + 1 })
    (hs : subscripted slice false (.ref d) (.int k t) = operate [.ref d, .int k t] (getItem (.ref d) (.int k t)) := by with_unfolding_all rfl) :
    wpAny (model prog w) A (subscriptTail value slice (.ref d) (.int k t)) Q E s := let ⟨_, hi, hs'⟩ := hI; item_I N (hi.mono hs') hv h hs

theorem in_pairs' {prog : Program} {w : World} {A : Around} {E : Value → Shared → Prop} {s : Shared} {h₀ : Heap} {L : Addr} {news : List (Addr × Obj)} {T e : Addr} {r n : Int} {t u : Tok} {vs : List Value} {ps : List (Int × Int)} {Q : Value → Shared → Prop}
    (hu : A.units + 1 < cLine) (N : News h₀ L s.heap news) (hT : (T, tupO vs) ∈ news) (hP : ∃ news', Pairs2 news' vs ps ∧ ∀ q ∈ news', q ∈ news) (he : (e, tupO [.int r t, .int n u]) ∈ news)
    (h : Q (.bool (decide ((r, n) ∈ ps))) s) : wpAny (model prog w) A (compareOp .In (.ref e) (.ref T)) Q E s := let ⟨_, hp, hs⟩ := hP; in_pairs hu N hT (hp.mono hs) he h
theorem linkO_1 {ps1 ps2 : List (Int × Int)} {p : Int × Int} {t : Tok} (h : p ∈ ps1) : OptV (linkO ps1 ps2 p) (.int 1 t) := by rw [linkO, if_pos h]; exact ⟨_, rfl⟩
theorem linkO_2 {ps1 ps2 : List (Int × Int)} {p : Int × Int} {t : Tok} (h1 : ¬ p ∈ ps1) (h : p ∈ ps2) : OptV (linkO ps1 ps2 p) (.int 2 t) := by rw [linkO, if_neg h1, if_pos h]; exact ⟨_, rfl⟩
theorem linkO_3 {ps1 ps2 : List (Int × Int)} {p : Int × Int} (h1 : ¬ p ∈ ps1) (h : ¬ p ∈ ps2) : OptV (linkO ps1 ps2 p) .none := by rw [linkO, if_neg h1, if_neg h]; exact rfl



theorem link_of_ct {w : World} {p : Program} {loose : List Str} {mean : ExcName → Option Value} {mg mb : Str → Option Value} {news : List (Addr × Obj)} {n ld lu T1 T2 e : Addr} {v1 v2 : List Value} {ps1 ps2 : List (Int × Int)} {r q : Int} {t u : Tok}
  {dp un : Nat} {gd : Option (List Code)} {cn : Str} {cs : Scope} {a : Addr} {ccd : Value} {cl : List (Str × Addr)} {outer : List Env} {A₀ : Around} {base h₀ : Heap} {L : Addr} {m : Str → Option Value} {s : Shared} {Q E : Value → Shared → Prop}
  (B : Below A₀ base outer h₀) (F : Fr h₀ L s.heap m) (T : Top p loose mean mg mb h₀) (N : News h₀ L s.heap news) (hk : cs.kind = .function)
  (hN : NetAt news n ld lu) (hI : IDict PySem.Challenge.rw_rh0207_01.row.prog w news ld [(1, .ref T1), (2, .ref T2)]) (m1 : (T1, tupO v1) ∈ news) (m2 : (T2, tupO v2) ∈ news) (P1 : Pairs2 news v1 ps1) (P2 : Pairs2 news v2 ps2)
  (he : (e, tupO [.int r t, .int q u]) ∈ news) (hdp : dp + 10 < recursionLimit) (hu : un + 100 < cLine)
  (hret : ∀ v h' tk', OptV (linkO ps1 ps2 (r, q)) v → Fr h₀ L h' m → News h₀ L h' news → Q v { s with heap := h', toks := tk' }) :
  (hd.heap_39 w.params).In h₀ →
  wpAny (model PySem.Challenge.rw_rh0207_01.row.prog w) (ktrTop dp un gd cn cs L a ccd cl outer) (call (.ref 123) [.ref n, .ref e]) Q E s := by
  w_top off
  k_with_none
  k_with "ne" => first | assumption | (refine neN ?_; (try dsimp only); first | assumption | exact Nat.ne_of_lt (lt_mem (by assumption) (by k_mem)) | exact Nat.ne_of_gt (lt_mem (by assumption) (by k_mem)) | exact Nat.ne_of_gt (lt_mem2 (by assumption) (by assumption) (by k_mem)) | exact And.left (by assumption) | exact Ne.symm (And.left (by assumption)) | exact And.left (And.right (by assumption)) | exact Ne.symm (And.left (And.right (by assumption))) | exact And.left (And.right (And.right (by assumption))) | exact Ne.symm (And.left (And.right (And.right (by assumption)))) | exact And.left (And.right (And.right (And.right (by assumption)))) | exact Ne.symm (And.left (And.right (And.right (And.right (by assumption))))) | exact And.left (And.right (And.right (And.right (And.right (by assumption))))) | exact Ne.symm (And.left (And.right (And.right (And.right (And.right (by assumption)))))) | exact Ne.symm (And.left (And.right (And.right (And.right (And.right (And.right (by assumption)))))))  | exact Ne.symm (And.left (And.right (And.right (And.right (And.right (And.right (And.right (by assumption)))))))) | omega)
  k_with "all" => first | assumption | exact List.forall_mem_nil _ | (refine' List.forall_mem_cons.mpr ⟨?a, ?b⟩; (case a => k_ne); (case b => k_all)) | exact lt_ne (by assumption) | exact lt_ne_succ (by assumption) | exact fun p hp => Nat.ne_of_lt (lt_at (by assumption) (by k_mem))
  k_with "mem" => first | assumption | exact List.Mem.head _ | (refine' List.Mem.tail _ ?_; k_mem)
  k_with "room" => first | exact lim2 (by assumption) (Nat.le_of_ble_eq_true rfl) | exact lim1 (by assumption) (Nat.le_of_ble_eq_true rfl) | exact lim0 (by assumption)
  k_with "call builtin:sorted" => (k_here; k_dflt (refine sorted12 (by exact rfl) (by k_asm) (by k_asm) (by assumption) (by assumption) (by assumption) ?_); intro D' h' tk' t1' t2' F' N' l1; (try k_lt l1); (try k_sweep))
  k_with "subscriptTail" => (k_here; (with_reducible show wpAny _ _ (subscriptTail _ _ (Value.ref _) (Value.int _ _)) _ _ _); k_dflt (refine item_I' (by k_asm) ⟨_, by assumption, fun q hq => by k_mem⟩ (by rfl) ?_); (try dsimp only))
  k_with "compareOp In ref" => (k_here; k_dflt (refine in_pairs' (by ktr_units) (by k_asm) (by k_mem) ⟨_, by assumption, fun q hq => by k_mem⟩ (by k_mem) ?_))
  k_with "pyIter ref" => (k_here; (with_reducible show wpAny _ _ (pyIter (Value.ref _)) (fun it s₂ => LoopAtV _ _ _ _ _ _ _ _ _ it s₂) _ _); k_dflt (refine iter_listUnr (by exact rfl) (by k_asm) (by k_asm) (List.Mem.head _) rfl rfl ?_); intro I' lI')
  k_with "UnrEnd" => (k_dflt (refine UnrEnd.intro (by k_asm) (by k_asm) _ (fun _ h9 => h9) (lt_ne (by assumption)) ?_))
  k_fill
  intro X
  obtain ⟨dn, k, h1, t1, h2, t2, h3, t3, h4, t4, h5, t5, h6, t6, w2, w3, w5, w6, mn, md⟩ := hN
  have hI2 := hI
  obtain ⟨lo, o, mo, hd⟩ := hI2
  refine wpAny_call ?_
  k_dflt (refine' code_def (binds := [(Str.ofString "self", .ref n), (Str.ofString "end", .ref e)]) ?k1 ?k2 ?k3 ?k4 ?k5 ?kA ?kF ?kK ?k6 ?k7 ?k8 ?k9 ?kB ?_ ?c2 ?c3 ?c4 ?c5; (case kA => exact rfl); (case kF => exact rfl); (case kK => assumption); (case k1 => k_asm); (case k2 => k_asm); (case k3 => k_asm); (case k4 => k_asm); (case k5 => k_asm); (case k6 => k_is); (case k7 => k_is); (case k8 => ktr_room); (case k9 => exact BindsTo.of_eq rfl); (case c5 => decide); (case kB => exact locs rfl); (case c2 => exact rfl); (case c3 => exact rfl); (case c4 => exact rfl); k_whole; intro g' L' h' FG' F' N' B' X' T'; (try dsimp only); (try k_fold))
  k_steps
  all_goals first
    | k_mem
    | exact hret _ _ _ (linkO_1 (by assumption)) (by k_asm) (cb_drop (by k_asm) (fun q hq => by k_mem))
    | exact hret _ _ _ (linkO_2 (by assumption) (by assumption)) (by k_asm) (cb_drop (by k_asm) (fun q hq => by k_mem))
    | exact hret _ _ _ (linkO_3 (by assumption) (by assumption)) (by k_asm) (cb_drop (by k_asm) (fun q hq => by k_mem))
end
-- part C2
section
open PySem PySem.W PySem.Spec PySem.Calls PyProof.Rows PySem.SeqAt
set_option linter.all false
set_option maxRecDepth 100000
set_option maxHeartbeats 8000000
theorem OptV.cases {o : Option Int} {v : Value} (h : OptV o v) : (∃ k t, o = some k ∧ v = .int k t) ∨ (o = none ∧ v = .none) := by
  cases o with
  | none => exact .inr ⟨rfl, h⟩
  | some k => obtain ⟨t, h⟩ := h; exact .inl ⟨k, t, rfl, h⟩
theorem notin_ints {prog : Program} {w : World} {A : Around} {E : Value → Shared → Prop} {s : Shared} {h₀ : Heap} {L : Addr} {news : List (Addr × Obj)} {l : Addr} {n : Nat} {vs : List Value} {ns : List Int} {k : Int} {t : Tok} {Q : Value → Shared → Prop}
    (N : News h₀ L s.heap news) (hl : (l, W.listOf vs.toArray n) ∈ news) (hi : IntsAre vs ns) (h : Q (.bool (!decide (k ∈ ns))) s) : wpAny (model prog w) A (compareOp .NotIn (.int k t) (.ref l)) Q E s := by
  let f : Value → Bool := fun y => match y with | .int a _ => a == k | _ => false
  have key : ∀ {vs : List Value} {ns : List Int}, IntsAre vs ns → (∀ y ∈ vs, EqAt A.in1 s y (.int k t) (f y)) ∧ vs.any f = decide (k ∈ ns) := by
    intro vs ns hi
    induction hi with
    | nil => exact ⟨fun y hy => (nomatch hy), rfl⟩
    | cons a u _ ih =>
      refine ⟨fun y hy => ?_, ?_⟩
      · rcases List.mem_cons.mp hy with rfl | hy
        · exact EqAt.int_int a u k t
        · exact ih.1 y hy
      · rw [List.any_cons, ih.2]
        show (a == k || _) = _
        by_cases hz : a = k
        · subst hz; simp
        · have hz' : ¬ k = a := fun q => hz q.symm
          simp [hz, hz']
  obtain ⟨hf, ha⟩ := key hi
  refine notIn_listAt (items := vs.toArray) f ⟨_, (N _ hl).1, rfl, _, rfl⟩ (fun y hy => hf y (by simpa using hy)) ?_
  have : vs.toArray.any f = decide (k ∈ ns) := by rw [← ha]; simp
  rw [this]; exact h
noncomputable def upO (cuts : List Int) : Option Int → Bool
  | none => false
  | some k => !decide (k ∈ cuts)


theorem upO_some {cuts : List Int} {o : Option Int} {k : Int} (h : o = some k) : upO cuts o = !decide (k ∈ cuts) := by rw [h]; rfl
theorem upO_none {cuts : List Int} {o : Option Int} (h : o = none) : upO cuts o = false := by rw [h]; rfl
theorem is_up_ct {w : World} {p : Program} {loose : List Str} {mean : ExcName → Option Value} {mg mb : Str → Option Value} {news : List (Addr × Obj)} {n ld lu T1 T2 e : Addr} {v1 v2 cv : List Value} {ps1 ps2 : List (Int × Int)} {cns : List Int} {cn0 : Nat} {r q : Int} {t u : Tok}
  {dp un : Nat} {gd : Option (List Code)} {cn : Str} {cs : Scope} {a : Addr} {ccd : Value} {cl : List (Str × Addr)} {outer : List Env} {A₀ : Around} {base h₀ : Heap} {L : Addr} {m : Str → Option Value} {s : Shared} {Q E : Value → Shared → Prop}
  (B : Below A₀ base outer h₀) (F : Fr h₀ L s.heap m) (T : Top p loose mean mg mb h₀) (N : News h₀ L s.heap news) (hk : cs.kind = .function)
  (hN : NetAt news n ld lu) (hI : IDict PySem.Challenge.rw_rh0207_01.row.prog w news ld [(1, .ref T1), (2, .ref T2)]) (m1 : (T1, tupO v1) ∈ news) (m2 : (T2, tupO v2) ∈ news) (P1 : Pairs2 news v1 ps1) (P2 : Pairs2 news v2 ps2)
  (hcu : (lu, W.listOf cv.toArray cn0) ∈ news) (hci : IntsAre cv cns)
  (he : (e, tupO [.int r t, .int q u]) ∈ news) (hdp : dp + 20 < recursionLimit) (hu : un + 200 < cLine)
  (hret : ∀ h' tk', Fr h₀ L h' m → News h₀ L h' news → Q (.bool (upO cns (linkO ps1 ps2 (r, q)))) { s with heap := h', toks := tk' }) :
  (hd.heap_39 w.params).In h₀ →
  wpAny (model PySem.Challenge.rw_rh0207_01.row.prog w) (ktrTop dp un gd cn cs L a ccd cl outer) (call (.ref 130) [.ref n, .ref e]) Q E s := by
  w_top off
  k_with_none
  k_with "ne" => first | assumption | (refine neN ?_; (try dsimp only); first | assumption | exact Nat.ne_of_lt (lt_mem (by assumption) (by k_mem)) | exact Nat.ne_of_gt (lt_mem (by assumption) (by k_mem)) | exact Nat.ne_of_gt (lt_mem2 (by assumption) (by assumption) (by k_mem)) | exact And.left (by assumption) | exact Ne.symm (And.left (by assumption)) | exact And.left (And.right (by assumption)) | exact Ne.symm (And.left (And.right (by assumption))) | exact And.left (And.right (And.right (by assumption))) | exact Ne.symm (And.left (And.right (And.right (by assumption)))) | exact And.left (And.right (And.right (And.right (by assumption)))) | exact Ne.symm (And.left (And.right (And.right (And.right (by assumption))))) | exact And.left (And.right (And.right (And.right (And.right (by assumption))))) | exact Ne.symm (And.left (And.right (And.right (And.right (And.right (by assumption)))))) | exact Ne.symm (And.left (And.right (And.right (And.right (And.right (And.right (by assumption)))))))  | exact Ne.symm (And.left (And.right (And.right (And.right (And.right (And.right (And.right (by assumption)))))))) | omega)
  k_with "all" => first | assumption | exact List.forall_mem_nil _ | (refine' List.forall_mem_cons.mpr ⟨?a, ?b⟩; (case a => k_ne); (case b => k_all)) | exact lt_ne (by assumption) | exact lt_ne_succ (by assumption) | exact fun p hp => Nat.ne_of_lt (lt_at (by assumption) (by k_mem))
  k_with "mem" => first | assumption | exact List.Mem.head _ | (refine' List.Mem.tail _ ?_; k_mem)
  k_with "room" => first | exact lim2 (by assumption) (Nat.le_of_ble_eq_true rfl) | exact lim1 (by assumption) (Nat.le_of_ble_eq_true rfl) | exact lim0 (by assumption)
  k_with "compareOp NotIn int ref" => (k_here; k_dflt (refine notin_ints (by k_asm) (by k_mem) (by assumption) ?_))
  k_with "call ref" => (k_here; (with_reducible show wpAny _ _ (call (Value.ref 123) [Value.ref _, Value.ref _]) _ _ _); k_dflt (refine' link_of_ct ?B ?F ?T ?N ?hk ?hN ?hI ?m1 ?m2 ?P1 ?P2 ?he ?hd ?hu ?_ ?X; (case B => k_asm); (case F => k_asm); (case X => k_asm); (case T => k_asm); (case N => k_asm); (case hk => exact rfl); (case hN => assumption); (case hI => assumption); (case m1 => k_mem); (case m2 => k_mem); (case P1 => assumption); (case P2 => assumption); (case he => k_mem); (case hd => ktr_room); (case hu => ktr_units); k_whole); intro v' h' tk' hv' F' N'; (rcases OptV.cases hv' with ⟨k9', t9', e9', f9'⟩ | ⟨e9', f9'⟩ <;> subst f9'); all_goals (try k_sweep))
  k_fill
  intro X
  have hN2 := hN
  obtain ⟨dn, k, h1, t1, h2, t2, h3, t3, h4, t4, h5, t5, h6, t6, w2, w3, w5, w6, mn, md⟩ := hN2
  refine wpAny_call ?_
  k_dflt (refine' code_def (binds := [(Str.ofString "self", .ref n), (Str.ofString "end", .ref e)]) ?k1 ?k2 ?k3 ?k4 ?k5 ?kA ?kF ?kK ?k6 ?k7 ?k8 ?k9 ?kB ?_ ?c2 ?c3 ?c4 ?c5; (case kA => exact rfl); (case kF => exact rfl); (case kK => assumption); (case k1 => k_asm); (case k2 => k_asm); (case k3 => k_asm); (case k4 => k_asm); (case k5 => k_asm); (case k6 => k_is); (case k7 => k_is); (case k8 => ktr_room); (case k9 => exact BindsTo.of_eq rfl); (case c5 => decide); (case kB => exact locs rfl); (case c2 => exact rfl); (case c3 => exact rfl); (case c4 => exact rfl); k_whole; intro g' L' h' FG' F' N' B' X' T'; (try dsimp only); (try k_fold))
  k_steps
  · rw [← upO_some (cuts := cns) (by assumption)]
    exact hret _ _ (by k_asm) (by k_asm)
  · rw [← upO_none (cuts := cns) (by assumption)]
    exact hret _ _ (by k_asm) (by k_asm)
end
-- part C3
section
open PySem PySem.W PySem.Spec PySem.Calls PyProof.Rows PySem.SeqAt
set_option linter.all false
set_option maxRecDepth 100000
set_option maxHeartbeats 8000000
inductive NetOk (w : World) (news : List (Addr × Obj)) (n : Addr) (ps1 ps2 : List (Int × Int)) (cns : List Int) : Prop
  | mk (ld lu T1 T2 : Addr) (v1 v2 cv : List Value) (k : Nat) (hA : NetAt news n ld lu) (hI : IDict PySem.Challenge.rw_rh0207_01.row.prog w news ld [(1, .ref T1), (2, .ref T2)]) (m1 : (T1, tupO v1) ∈ news) (m2 : (T2, tupO v2) ∈ news)
    (p1 : Pairs2 news v1 ps1) (p2 : Pairs2 news v2 ps2) (mc : (lu, W.listOf cv.toArray k) ∈ news) (hc : IntsAre cv cns) : NetOk w news n ps1 ps2 cns
theorem NetOk.mono {w : World} {news news' : List (Addr × Obj)} {n : Addr} {ps1 ps2 : List (Int × Int)} {cns : List Int} (h : NetOk w news n ps1 ps2 cns) (hs : ∀ q ∈ news, q ∈ news') : NetOk w news' n ps1 ps2 cns := by
  obtain ⟨ld, lu, T1, T2, v1, v2, cv, k, a, b, c, d, e, f, g, i⟩ := h
  exact ⟨ld, lu, T1, T2, v1, v2, cv, k, a.mono hs, b.mono hs, hs _ c, hs _ d, e.mono hs, f.mono hs, hs _ g, i⟩
section
variable {w : World} {p : Program} {loose : List Str} {mean : ExcName → Option Value} {mg mb : Str → Option Value} {news₀ news : List (Addr × Obj)} {n e : Addr} {ps1 ps2 : List (Int × Int)} {cns : List Int} {r q : Int} {t u : Tok}
  {dp un : Nat} {gd : Option (List Code)} {cn : Str} {cs : Scope} {a : Addr} {ccd : Value} {cl : List (Str × Addr)} {outer : List Env} {A₀ : Around} {base h₀ : Heap} {L : Addr} {m : Str → Option Value} {s : Shared} {Q E : Value → Shared → Prop}
theorem link_of_C (B : Below A₀ base outer h₀) (F : Fr h₀ L s.heap m) (X : (hd.heap_39 w.params).In h₀) (T : Top p loose mean mg mb h₀) (N : News h₀ L s.heap news) (hk : cs.kind = .function)
    (hN : NetOk w news₀ n ps1 ps2 cns) (hs : ∀ q ∈ news₀, q ∈ news) (he : (e, tupO [.int r t, .int q u]) ∈ news) (hdp : dp + 10 < recursionLimit) (hu : un + 100 < cLine)
    (hret : ∀ v h' tk', OptV (linkO ps1 ps2 (r, q)) v → Fr h₀ L h' m → News h₀ L h' news → Q v { s with heap := h', toks := tk' }) :
    wpAny (model PySem.Challenge.rw_rh0207_01.row.prog w) (ktrTop dp un gd cn cs L a ccd cl outer) (call (.ref 123) [.ref n, .ref e]) Q E s := by
  obtain ⟨ld, lu, T1, T2, v1, v2, cv, k, a, b, c, d, e, f, g, i⟩ := hN.mono hs
  exact link_of_ct B F T N hk a b c d e f he hdp hu hret X
theorem is_up_C (B : Below A₀ base outer h₀) (F : Fr h₀ L s.heap m) (X : (hd.heap_39 w.params).In h₀) (T : Top p loose mean mg mb h₀) (N : News h₀ L s.heap news) (hk : cs.kind = .function)
    (hN : NetOk w news₀ n ps1 ps2 cns) (hs : ∀ q ∈ news₀, q ∈ news) (he : (e, tupO [.int r t, .int q u]) ∈ news) (hdp : dp + 20 < recursionLimit) (hu : un + 200 < cLine)
    (hret : ∀ h' tk', Fr h₀ L h' m → News h₀ L h' news → Q (.bool (upO cns (linkO ps1 ps2 (r, q)))) { s with heap := h', toks := tk' }) :
    wpAny (model PySem.Challenge.rw_rh0207_01.row.prog w) (ktrTop dp un gd cn cs L a ccd cl outer) (call (.ref 130) [.ref n, .ref e]) Q E s := by
  obtain ⟨ld, lu, T1, T2, v1, v2, cv, k, a, b, c, d, e, f, g, i⟩ := hN.mono hs
  exact is_up_ct B F T N hk a b c d e f g i he hdp hu hret X
end

noncomputable def endO (g : Int) : Option (Int × Int) := if g = 11 then some (1, 1) else if g = 12 then some (1, 2) else if g = 21 then some (2, 1) else if g = 22 then some (2, 2) else if g = 31 then some (3, 1) else if g = 32 then some (3, 2) else none
noncomputable def EndsOk (w : World) (news : List (Addr × Obj)) (ed : Addr) : Prop := ∃ kvs, IDict PySem.Challenge.rw_rh0207_01.row.prog w news ed kvs ∧ ∀ g, (endO g = none ∧ valueAt kvs g = none) ∨ ∃ r q e t u, endO g = some (r, q) ∧ valueAt kvs g = some (.ref e) ∧ (e, tupO [.int r t, .int q u]) ∈ news
theorem EndsOk.mono {w : World} {news news' : List (Addr × Obj)} {ed : Addr} (h : EndsOk w news ed) (hs : ∀ q ∈ news, q ∈ news') : EndsOk w news' ed := by
  obtain ⟨kvs, hI, hk⟩ := h
  refine ⟨kvs, hI.mono hs, fun g => (hk g).imp id ?_⟩
  rintro ⟨r, q, e, t, u, a, b, c⟩
  exact ⟨r, q, e, t, u, a, b, hs _ c⟩
inductive WorldAt (news : List (Addr × Obj)) (wd n rd ed : Addr) : Prop
  | mk (dw : Addr) (k : Nat) (h1 : Int) (t1 : Tok) (h2 : Int) (t2 : Tok) (h3 : Int) (t3 : Tok) (h4 : Int) (t4 : Tok) (h5 : Int) (t5 t5' : Tok) (h6 : Int) (t6 : Tok) (h7 : Int) (t7 : Tok) (v3 v6 v7 : Value) (mn : (wd, instObj 97 dw) ∈ news)
    (md : (dw, dictOf [⟨h1, .str (Str.ofString "net") t1, .ref n⟩, ⟨h2, .str (Str.ofString "routers") t2, .ref rd⟩, ⟨h3, .str (Str.ofString "addresses") t3, v3⟩, ⟨h4, .str (Str.ofString "ends") t4, .ref ed⟩, ⟨h5, .str (Str.ofString "bits") t5, .int 8 t5'⟩, ⟨h6, .str (Str.ofString "now") t6, v6⟩, ⟨h7, .str (Str.ofString "steps") t7, v7⟩] k) ∈ news) : WorldAt news wd n rd ed
noncomputable def nbO (ps1 ps2 : List (Int × Int)) (cns : List Int) (name i g addr : Int) : Option Int := match endO (if g = 0 then addr else g) with
  | none => none
  | some (r, q) => if r = name then none else if linkO ps1 ps2 (r, q) ≠ linkO ps1 ps2 (name, i) then none else if upO cns (linkO ps1 ps2 (r, q)) = true then some r else none
noncomputable def nbL : Option Int → Tok → List Value
  | none, _ => []
  | some r, t => [.int r t]

section
variable {ps1 ps2 : List (Int × Int)} {cns : List Int} {name i g addr r q k k' : Int} {x : Option (Int × Int)} {o o' : Option Int}
theorem nb_none (h : endO (if g = 0 then addr else g) = none) : nbO ps1 ps2 cns name i g addr = none := by unfold nbO; rw [h]
theorem nb_same (h : endO (if g = 0 then addr else g) = some (r, q)) (h1 : r = name) : nbO ps1 ps2 cns name i g addr = none := by unfold nbO; rw [h]; exact if_pos h1
theorem nb_other (h : endO (if g = 0 then addr else g) = some (r, q)) (h1 : r ≠ name) (h2 : linkO ps1 ps2 (r, q) ≠ linkO ps1 ps2 (name, i)) : nbO ps1 ps2 cns name i g addr = none := by unfold nbO; rw [h]; exact (if_neg h1).trans (if_pos h2)
theorem nb_down (h : endO (if g = 0 then addr else g) = some (r, q)) (h1 : r ≠ name) (h2 : linkO ps1 ps2 (r, q) = linkO ps1 ps2 (name, i)) (h3 : upO cns (linkO ps1 ps2 (r, q)) = false) : nbO ps1 ps2 cns name i g addr = none := by
  unfold nbO; rw [h]; exact (if_neg h1).trans ((if_neg (fun q => q h2)).trans (if_neg (by rw [h3]; exact Bool.false_ne_true)))
theorem nb_yes (h : endO (if g = 0 then addr else g) = some (r, q)) (h1 : r ≠ name) (h2 : linkO ps1 ps2 (r, q) = linkO ps1 ps2 (name, i)) (h3 : upO cns (linkO ps1 ps2 (r, q)) = true) : nbO ps1 ps2 cns name i g addr = some r := by
  unfold nbO; rw [h]; exact (if_neg h1).trans ((if_neg (fun q => q h2)).trans (if_pos h3))
end
theorem sub2 {α : Type} {a b c : α} {r : List α} : ∀ q ∈ a :: r, q ∈ a :: b :: c :: r := fun q hq => by
  rcases List.mem_cons.mp hq with rfl | hq
  · exact .head _
  · exact .tail _ (.tail _ (.tail _ hq))
theorem allLt_back {d : Addr} : ∀ {l : List (Addr × Obj)}, AllLt d l → ∀ p ∈ l, p.1 < d
  | [], _, _, h => nomatch h
  | _ :: _, x, p, h => by
    rcases List.mem_cons.mp h with rfl | h
    · exact x.1
    · exact allLt_back x.2 p h
theorem ends_get {w : World} {A : Around} {E : Value → Shared → Prop} {s : Shared} {h₀ : Heap} {L : Addr} {news₀ news : List (Addr × Obj)} {ed : Addr} {g : Int} {t : Tok} {Q : Value → Shared → Prop}
    (N : News h₀ L s.heap news) (hE : EndsOk w news₀ ed) (hs : ∀ q ∈ news₀, q ∈ news) (h : ∀ v tk', ((endO g = none ∧ v = .none) ∨ ∃ r q e t u, endO g = some (r, q) ∧ v = .ref e ∧ (e, tupO [.int r t, .int q u]) ∈ news) → Q v { s with toks := tk' }) :
    wpAny (model PySem.Challenge.rw_rh0207_01.row.prog w) A (call (.builtin "dict.get") [.ref ed, .int g t]) Q E s := by
  obtain ⟨kvs, hI, hk⟩ := hE.mono hs
  refine get_I N hI ?_
  rcases hk g with ⟨a, b⟩ | ⟨r, q, e, t, u, a, b, c⟩
  · rw [b]; exact h _ _ (.inl ⟨a, rfl⟩)
  · rw [b]; exact h _ _ (.inr ⟨_, _, _, _, _, a, rfl, c⟩)
theorem ends_meth {w : World} {A : Around} {E : Value → Shared → Prop} {s : Shared} {h₀ : Heap} {L : Addr} {news₀ news : List (Addr × Obj)} {ed : Addr} {pl : Sem Bool} {Q : Value × List Value → Shared → Prop}
    (N : News h₀ L s.heap news) (hE : EndsOk w news₀ ed) (hs : ∀ q ∈ news₀, q ∈ news) (h : Q (.builtin "dict.get", [.ref ed]) s) :
    wpAny (model PySem.Challenge.rw_rh0207_01.row.prog w) A (getMethod (.ref ed) "get" pl) Q E s := by
  obtain ⟨kvs, hI, hk⟩ := hE.mono hs
  exact meth_I N hI h

theorem ne_opt {prog : Program} {w : World} {A : Around} {E : Value → Shared → Prop} {s : Shared} {o o' : Option Int} {v v' : Value} {Q : Value → Shared → Prop} (hv : OptV o v) (hv' : OptV o' v') (h : ∀ b : Bool, (b = true ↔ o ≠ o') → Q (.bool b) s) :
    wpAny (model prog w) A (compareOp .NotEq v v') Q E s := by
  rcases OptV.cases hv with ⟨k, t, rfl, rfl⟩ | ⟨rfl, rfl⟩ <;> rcases OptV.cases hv' with ⟨k', t', rfl, rfl⟩ | ⟨rfl, rfl⟩
  · k_steps
    exact h _ ⟨fun e f => bne_iff_ne.mp e (Option.some.inj f), fun e => bne_iff_ne.mpr fun f => e (f ▸ rfl)⟩
  · k_steps
    exact h _ ⟨fun _ f => (nomatch f), fun _ => rfl⟩
  · k_steps
    exact h _ ⟨fun _ f => (nomatch f), fun _ => rfl⟩
  · k_steps
    exact h _ ⟨fun f => (nomatch f), fun f => (f rfl).elim⟩
theorem goal_v {g addr : Int} {v : Value} {tg ta : Tok} (h : (g = 0 ∧ v = .int addr ta) ∨ (g ≠ 0 ∧ v = .int g tg)) : ∃ t, v = .int (if g = 0 then addr else g) t := by
  rcases h with ⟨a, rfl⟩ | ⟨a, rfl⟩
  · exact ⟨ta, by rw [if_pos a]⟩
  · exact ⟨tg, by rw [if_neg a]⟩
theorem ne_off {b : Bool} {p q : Option Int} (h : b = true ↔ p ≠ q) (e : b = false) : p = q := Decidable.byContradiction fun n => by rw [h.mpr n] at e; cases e
theorem neighbours_ct {w : World} {p : Program} {loose : List Str} {mean : ExcName → Option Value} {mg mb : Str → Option Value} {news : List (Addr × Obj)} {wd n rd ed hp : Addr} {ps1 ps2 : List (Int × Int)} {cns : List Int} {name i g addr : Int} {tn ti tg ta : Tok}
  {dp un : Nat} {gd : Option (List Code)} {cn : Str} {cs : Scope} {a : Addr} {ccd : Value} {cl : List (Str × Addr)} {outer : List Env} {A₀ : Around} {base h₀ : Heap} {L : Addr} {m : Str → Option Value} {s : Shared} {Q E : Value → Shared → Prop}
  (B : Below A₀ base outer h₀) (F : Fr h₀ L s.heap m) (T : Top p loose mean mg mb h₀) (N : News h₀ L s.heap news) (hk : cs.kind = .function)
  (hW : WorldAt news wd n rd ed) (hN : NetOk w news n ps1 ps2 cns) (hE : EndsOk w news ed) (hh : (hp, tupO [.int i ti, .int g tg]) ∈ news)
  (hdp : dp + 30 < recursionLimit) (hu : un + 300 < cLine)
  (hret : ∀ D t h' tk', Fr h₀ L h' m → News h₀ L h' ((D, tupO (nbL (nbO ps1 ps2 cns name i g addr) t)) :: news) → (∀ q ∈ news, q.1 < D) → Q (.ref D) { s with heap := h', toks := tk' }) :
  (hd.heap_39 w.params).In h₀ →
  wpAny (model PySem.Challenge.rw_rh0207_01.row.prog w) (ktrTop dp un gd cn cs L a ccd cl outer) (call (.ref 89) [.ref wd, .int name tn, .ref hp, .int addr ta]) Q E s := by
  w_top off
  k_with_none
  k_with "ne" => first | assumption | (refine neN ?_; (try dsimp only); first | assumption | exact Nat.ne_of_lt (lt_mem (by assumption) (by k_mem)) | exact Nat.ne_of_gt (lt_mem (by assumption) (by k_mem)) | exact Nat.ne_of_gt (lt_mem2 (by assumption) (by assumption) (by k_mem)) | exact And.left (by assumption) | exact Ne.symm (And.left (by assumption)) | exact And.left (And.right (by assumption)) | exact Ne.symm (And.left (And.right (by assumption))) | exact And.left (And.right (And.right (by assumption))) | exact Ne.symm (And.left (And.right (And.right (by assumption)))) | exact And.left (And.right (And.right (And.right (by assumption)))) | exact Ne.symm (And.left (And.right (And.right (And.right (by assumption))))) | exact And.left (And.right (And.right (And.right (And.right (by assumption))))) | exact Ne.symm (And.left (And.right (And.right (And.right (And.right (by assumption)))))) | exact Ne.symm (And.left (And.right (And.right (And.right (And.right (And.right (by assumption)))))))  | exact Ne.symm (And.left (And.right (And.right (And.right (And.right (And.right (And.right (by assumption)))))))) | omega)
  k_with "all" => first | assumption | exact List.forall_mem_nil _ | (refine' List.forall_mem_cons.mpr ⟨?a, ?b⟩; (case a => k_ne); (case b => k_all)) | exact lt_ne (by assumption) | exact lt_ne_succ (by assumption) | exact fun p hp => Nat.ne_of_lt (lt_at (by assumption) (by k_mem))
  k_with "mem" => first | assumption | exact List.Mem.head _ | (refine' List.Mem.tail _ ?_; k_mem)
  k_with "room" => first | exact lim2 (by assumption) (Nat.le_of_ble_eq_true rfl) | exact lim1 (by assumption) (Nat.le_of_ble_eq_true rfl) | exact lim0 (by assumption)
  k_with "call ref" => (k_here; (with_reducible show wpAny _ _ (call (Value.ref 123) [Value.ref _, Value.ref _]) _ _ _); k_dflt (refine' link_of_C ?B ?F ?X ?T ?N ?hk ?hN ?hs ?he ?hd ?hu ?_; (case B => k_asm); (case F => k_asm); (case X => k_asm); (case T => k_asm); (case N => k_asm); (case hk => exact rfl); (case hN => assumption); (case hs => exact fun q hq => by k_mem); (case he => k_mem); (case hd => ktr_room); (case hu => ktr_units); k_whole); intro v' h' tk' hv' F' N'; (try k_sweep))
  k_with "call ref" => (k_here; (with_reducible show wpAny _ _ (call (Value.ref 130) [Value.ref _, Value.ref _]) _ _ _); k_dflt (refine' is_up_C ?B ?F ?X ?T ?N ?hk ?hN ?hs ?he ?hd ?hu ?_; (case B => k_asm); (case F => k_asm); (case X => k_asm); (case T => k_asm); (case N => k_asm); (case hk => exact rfl); (case hN => assumption); (case hs => exact fun q hq => by k_mem); (case he => k_mem); (case hd => ktr_room); (case hu => ktr_units); k_whole); intro h' tk' F' N'; (try k_sweep))
  k_with "call builtin:dict.get" => (k_here; k_dflt (refine' ends_get (news₀ := _) ?N ?hE ?hs ?_; (case N => k_asm); (case hE => assumption); (case hs => exact fun q hq => by k_mem)); intro v9' tk9' h9'; (rcases h9' with ⟨e9', f9'⟩ | ⟨r9', q9', a9', t9', u9', e9', f9', m9'⟩ <;> subst f9'))
  k_with "getMethod ref" => (k_here; (with_reducible show wpAny _ _ (getMethod (Value.ref _) (PySem.Str.ofString "get") _) _ _ _); k_dflt (refine' ends_meth (news₀ := _) ?N ?hE ?hs ?_; (case N => k_asm); (case hE => assumption); (case hs => exact fun q hq => by k_mem)))
  k_with "compareOp NotEq" => (k_here; k_dflt (refine ne_opt (by assumption) (by assumption) ?_); intro b9' hb9')
  k_with "eval IfExp" => (k_here; (fail_if_success (rename Mark => z9)); refine held ?_)
  k_with "isTrue BoolOp" => (k_here; (fail_if_success (rename Mark => z9)); refine held ?_)
  k_fill
  intro X
  obtain ⟨dw, k, h1, t1, h2, t2, h3, t3, h4, t4, h5, t5, t5', h6, t6, h7, t7, w3, w6, w7, mn, md⟩ := hW
  have hN2 := hN
  obtain ⟨ld, lu, T1, T2, v1, v2, cv, kk, hNA, _, _, _, _, _, _, _⟩ := hN2
  obtain ⟨dn, k', g1, s1, g2, s2, g3, s3, g4, s4, g5, s5, g6, s6, x2, x3, x5, x6, mnn, mnd⟩ := hNA
  have hretN : ∀ D h' tk', nbO ps1 ps2 cns name i g addr = none → Fr h₀ L h' m → News h₀ L h' ((D, tupO []) :: news) → (∀ q ∈ news, q.1 < D) → Q (.ref D) { s with heap := h', toks := tk' } := fun D h' tk' e => by
    have h9 := hret D 0 h' tk'
    rw [e] at h9
    exact h9
  have hretS : ∀ D r t h' tk', nbO ps1 ps2 cns name i g addr = some r → Fr h₀ L h' m → News h₀ L h' ((D, tupO [.int r t]) :: news) → (∀ q ∈ news, q.1 < D) → Q (.ref D) { s with heap := h', toks := tk' } := fun D r t h' tk' e => by
    have h9 := hret D t h' tk'
    rw [e] at h9
    exact h9
  clear hret
  refine wpAny_call ?_
  k_dflt (refine' code_def (binds := [(Str.ofString "self", .ref wd), (Str.ofString "name", .int name tn), (Str.ofString "hop", .ref hp), (Str.ofString "address", .int addr ta)]) ?k1 ?k2 ?k3 ?k4 ?k5 ?kA ?kF ?kK ?k6 ?k7 ?k8 ?k9 ?kB ?_ ?c2 ?c3 ?c4 ?c5; (case kA => exact rfl); (case kF => exact rfl); (case kK => assumption); (case k1 => k_asm); (case k2 => k_asm); (case k3 => k_asm); (case k4 => k_asm); (case k5 => k_asm); (case k6 => k_is); (case k7 => k_is); (case k8 => ktr_room); (case k9 => exact BindsTo.of_eq rfl); (case c5 => decide); (case kB => exact locs rfl); (case c2 => exact rfl); (case c3 => exact rfl); (case c4 => exact rfl); k_whole; intro g' L' h' FG' F' N' B' X' T'; (try dsimp only); (try k_fold))
  k_steps
  unfold Held
  refine cutV (P := fun v => (g = 0 ∧ v = .int addr ta) ∨ (g ≠ 0 ∧ v = .int g tg)) ?h ?k
  case h =>
    intro Q9 E9 k9
    have mark9 := mark
    k_steps
    · exact k9 _ _ (.inl ⟨by assumption, rfl⟩)
    · exact k9 _ _ (.inr ⟨by assumption, rfl⟩)
  case k =>
    intro v9 tk9 h9
    obtain ⟨t9, f9⟩ := goal_v h9
    clear h9
    subst f9
    dsimp only
    k_steps
    · unfold Held
      have mark9 := mark
      k_steps
      exact hretN _ _ _ (nb_none (by assumption)) (by k_asm) (cb_drop (by k_asm) sub2) (allLt_back (And.right (And.right (by assumption))))
    · unfold Held
      refine cutT (P := fun b => (b = true ∧ nbO ps1 ps2 cns name i g addr = none) ∨ (b = false ∧ nbO ps1 ps2 cns name i g addr = some r9')) (by k_asm) (by k_asm) ?h ?k
      case h =>
        intro s9 Q9 E9 F9 N9 k9
        have mark9 := mark
        k_steps
        · exact k9 _ _ _ (.inl ⟨rfl, nb_same (by assumption) (by assumption)⟩) (by k_asm) (by k_asm)
        · exact k9 _ _ _ (.inl ⟨rfl, nb_other (by assumption) (by assumption) (Iff.mp (by assumption) (by assumption))⟩) (by k_asm) (by k_asm)
        · exact k9 _ _ _ (.inr ⟨rfl, nb_yes (by assumption) (by assumption) (ne_off (by assumption) (by assumption)) (by assumption)⟩) (by k_asm) (by k_asm)
        · exact k9 _ _ _ (.inl ⟨rfl, nb_down (by assumption) (by assumption) (ne_off (by assumption) (by assumption)) (by assumption)⟩) (by k_asm) (by k_asm)
      case k =>
        intro b9 h9 tk9 e9 F9 N9
        dsimp only
        rcases e9 with ⟨f9, e9⟩ | ⟨f9, e9⟩ <;> subst f9
        · k_steps
          exact hretN _ _ _ e9 (by k_asm) (cb_drop (by k_asm) sub2) (allLt_back (And.right (And.right (by assumption))))
        · k_steps
          exact hretS _ _ _ _ _ e9 (by k_asm) (cb_drop (by k_asm) sub2) (allLt_back (And.right (And.right (by assumption))))
end
-- part R1
section
open PySem PySem.W PySem.Spec PySem.Calls PyProof.Rows PySem.SeqAt
set_option linter.all false
set_option maxRecDepth 100000
set_option maxHeartbeats 8000000
noncomputable abbrev netD (w : World) (ld lc wt : Addr) (v2 v3 v6 : Value) (t1 t2 t3 t4 t5 t6 : Tok) : Obj :=
  dictOf [⟨PyData.keyHash w.params (Str.ofString "links"), .str (Str.ofString "links") t1, .ref ld⟩, ⟨PyData.keyHash w.params (Str.ofString "choices"), .str (Str.ofString "choices") t2, v2⟩, ⟨PyData.keyHash w.params (Str.ofString "delay"), .str (Str.ofString "delay") t3, v3⟩, ⟨PyData.keyHash w.params (Str.ofString "cut_links"), .str (Str.ofString "cut_links") t4, .ref lc⟩, ⟨PyData.keyHash w.params (Str.ofString "waiting") , .str (Str.ofString "waiting") t5, .ref wt⟩, ⟨PyData.keyHash w.params (Str.ofString "count"), .str (Str.ofString "count") t6, v6⟩] 6
section
variable {prog : Program} {w : World} {A : Around} {E : Value → Shared → Prop} {s : Shared} {h₀ : Heap} {L : Addr} {m : Str → Option Value} {news : List (Addr × Obj)}
theorem ldV {env : Env} {x : Str} {pos : Pos} {m' : Str → Option Value} {v : Value} {Q : Value → Shared → Prop} (hk : env.scope.kind = .function) (hx : env.kindOf x = some .local) (hn : s.heap.Ns env.locals m') (hv : m' x = some v) (dx : (x == ("__debug__" : Str)) = false) (h : Q v s) :
    wpAny (model prog w) A (eval (.Name x pos) env) Q E s := wpAny_Name (wpAny_loadName_local hk hx hn hv h) dx
theorem dict_copy_I {src : Addr} {kvs : List (Int × Value)} {Q : Value → Shared → Prop} (F : Fr h₀ L s.heap m) (N : News h₀ L s.heap news) (hbig : h₀.NoLimit) (hI : ∃ news', IDict prog w news' src kvs ∧ ∀ q ∈ news', q ∈ news) (hsz : kvs.length ≤ sizeLine)
    (h : ∀ d h' od, Fr h₀ L h' m → News h₀ L h' ((d, od) :: news) → (∀ q ∈ news, q.1 < d) → od.IsDictOf (intKind prog w) kvs → (d == sysModules) = false → Q (.ref d) { s with heap := h' }) :
    wpAny (model prog w) A (call (.type "dict") [.ref src]) Q E s := by
  obtain ⟨news', hI, hs⟩ := hI
  have hI := hI.mono hs
  refine kt_call_dict hI.1 (hI.of N) hsz fun h' hm hs' => ?_
  obtain ⟨o', ho', hd'⟩ := Heap.dictOf_iff.mp hm
  have N1 := News.push F N { cls := .type "dict", data := .dict #[] }
  exact h _ h' o' ((F.push _).change hs' (N1 _ (.head _)).2.1 (N1.fresh (.head _))) (N1.setHead N.apart hs' ho') (fun p hp => Heap.lt_size (N p hp).1) hd' (F.notModules (modules_low hbig))
end
theorem net_ct {w : World} {p : Program} {loose : List Str} {mean : ExcName → Option Value} {mg mb : Str → Option Value} {news : List (Addr × Obj)} {lk lc : Addr} {td : Tok} {kvs : List (Int × Value)}
  {dp un : Nat} {gd : Option (List Code)} {cn : Str} {cs : Scope} {a : Addr} {ccd : Value} {cl : List (Str × Addr)} {outer : List Env} {A₀ : Around} {base h₀ : Heap} {L : Addr} {m : Str → Option Value} {s : Shared} {Q E : Value → Shared → Prop}
  (B : Below A₀ base outer h₀) (F : Fr h₀ L s.heap m) (T : Top p loose mean mg mb h₀) (N : News h₀ L s.heap news) (hk : cs.kind = .function)
  (hI : IDict PySem.Challenge.rw_rh0207_01.row.prog w news lk kvs) (hsz : kvs.length ≤ sizeLine) (hc : (lc, W.listOf #[] 0) ∈ news)
  (hdp : dp + 20 < recursionLimit) (hu : un + 200 < cLine)
  (hret : ∀ (n dn ld ch cu wt : Addr) (od : Obj) (k1 : Nat) (v3 v6 : Value) (t1 t2 t3 t4 t5 t6 : Tok) h' tk', Fr h₀ L h' m →
    News h₀ L h' ((wt, W.listOf #[] 0) :: (cu, W.listOf #[] 0) :: (ch, W.listOf #[] k1) :: (ld, od) :: (n, instObj 181 dn) :: (dn, netD w ld cu wt (.ref ch) v3 v6 t1 t2 t3 t4 t5 t6) :: news) →
    (∀ q ∈ news, q.1 < dn) → @LT.lt Nat _ dn n → @LT.lt Nat _ n ld → @LT.lt Nat _ ld ch → @LT.lt Nat _ ch cu → @LT.lt Nat _ cu wt → od.IsDictOf (intKind PySem.Challenge.rw_rh0207_01.row.prog w) kvs → (ld == sysModules) = false → Q (.ref n) { s with heap := h', toks := tk' }) :
  (hd.heap_39 w.params).In h₀ →
  wpAny (model PySem.Challenge.rw_rh0207_01.row.prog w) (ktrTop dp un gd cn cs L a ccd cl outer) (call (.ref 181) [.ref lk, .ref lc, .int 1 td]) Q E s := by
  w_top off
  k_with_none
  k_with "ne" => first | assumption | (refine neN ?_; (try dsimp only); first | assumption | exact Nat.ne_of_lt (lt_mem (by assumption) (by k_mem)) | exact Nat.ne_of_gt (lt_mem (by assumption) (by k_mem)) | exact Nat.ne_of_gt (lt_mem2 (by assumption) (by assumption) (by k_mem)) | exact And.left (by assumption) | exact Ne.symm (And.left (by assumption)) | exact And.left (And.right (by assumption)) | exact Ne.symm (And.left (And.right (by assumption))) | exact And.left (And.right (And.right (by assumption))) | exact Ne.symm (And.left (And.right (And.right (by assumption)))) | exact And.left (And.right (And.right (And.right (by assumption)))) | exact Ne.symm (And.left (And.right (And.right (And.right (by assumption))))) | exact And.left (And.right (And.right (And.right (And.right (by assumption))))) | exact Ne.symm (And.left (And.right (And.right (And.right (And.right (by assumption)))))) | exact Ne.symm (And.left (And.right (And.right (And.right (And.right (And.right (by assumption)))))))  | exact Ne.symm (And.left (And.right (And.right (And.right (And.right (And.right (And.right (by assumption)))))))) | omega)
  k_with "all" => first | assumption | exact List.forall_mem_nil _ | (refine' List.forall_mem_cons.mpr ⟨?a, ?b⟩; (case a => k_ne); (case b => k_all)) | exact lt_ne (by assumption) | exact lt_ne_succ (by assumption) | exact fun p hp => Nat.ne_of_lt (lt_at (by assumption) (by k_mem))
  k_with "mem" => first | assumption | exact List.Mem.head _ | (refine' List.Mem.tail _ ?_; k_mem)
  k_with "room" => first | exact lim2 (by assumption) (Nat.le_of_ble_eq_true rfl) | exact lim1 (by assumption) (Nat.le_of_ble_eq_true rfl) | exact lim0 (by assumption)
  k_with "call type:dict" => (k_here; (with_reducible show wpAny _ _ (call (Value.type "dict") [Value.ref _]) _ _ _); k_dflt (refine dict_copy_I (by k_asm) (by k_asm) (Top.nolimit (by k_asm)) ⟨_, by assumption, by intro q9' hq9'; repeat (first | with_reducible exact hq9' | refine List.mem_cons_of_mem _ ?_)⟩ (by assumption) ?_); intro d' h' o' F' N' l1 hd' lo')
  k_fill
  intro X
  k_dflt (refine' call_cls ?k1 ?k2 ?k3 ?k4 ?k5 ?k6 ?_; (case k1 => k_asm); (case k2 => k_asm); (case k3 => k_asm); (case k4 => k_is); (case k5 => k_is); (case k6 => k_is); k_whole; intro x' d9 h' F' N' lX lY; replace lY := ltN lY)
  clear F N
  k_dflt (refine' code_def (binds := [(Str.ofString "self", .ref x'), (Str.ofString "links", .ref lk), (Str.ofString "choices", .ref lc), (Str.ofString "delay", .int 1 td)]) ?k1 ?k2 ?k3 ?k4 ?k5 ?kA ?kF ?kK ?k6 ?k7 ?k8 ?k9 ?kB ?_ ?c2 ?c3 ?c4 ?c5; (case kA => exact rfl); (case kF => exact rfl); (case kK => assumption); (case k1 => k_asm); (case k2 => k_asm); (case k3 => k_asm); (case k4 => k_asm); (case k5 => k_asm); (case k6 => k_is); (case k7 => k_is); (case k8 => ktr_room); (case k9 => exact BindsTo.of_eq rfl); (case c5 => decide); (case kB => exact locs rfl); (case c2 => exact rfl); (case c3 => exact rfl); (case c4 => exact rfl); k_whole; intro g' L' h' FG' F' N' B' X' T'; (try dsimp only); (try k_fold))
  k_steps
  refine hret _ _ _ _ _ _ _ _ _ _ _ _ _ _ _ _ _ _ (by k_asm) (by k_asm) lX lY ?_ ?_ ?_ ?_ (by assumption) (by assumption)
  all_goals exact lt_mem (by assumption) (by k_mem)
end
-- part R2
section
open PySem PySem.W PySem.Spec PySem.Calls PyProof.Rows PySem.SeqAt
set_option linter.all false
set_option maxRecDepth 100000
set_option maxHeartbeats 8000000
noncomputable def TableOk (w : World) (p : Program) (loose : List Str) (mean : ExcName → Option Value) (mg mb : Str → Option Value) (news : List (Addr × Obj)) (f hp : Addr) : Prop :=
  ∀ (dp un : Nat) (gd : Option (List Code)) (cn : Str) (cs : Scope) (a : Addr) (ccd : Value) (cl : List (Str × Addr)) (outer : List Env) (A₀ : Around) (base h₀ : Heap) (L : Addr) (m : Str → Option Value) (s : Shared) (Q E : Value → Shared → Prop) (news' : List (Addr × Obj)),
    Below A₀ base outer h₀ → Fr h₀ L s.heap m → (hd.heap_39 w.params).In h₀ → News h₀ L s.heap news' → (∀ q ∈ news, q ∈ news') → Top p loose mean mg mb h₀ → cs.kind = .function → dp + 10 < recursionLimit → un + 100 < cLine →
    (∀ D r z hs t1 t2 t3 t4 t5 t6 h' tk', Fr h₀ L h' m → News h₀ L h' ((D, W.listOf #[.ref r] 0) :: (r, tupO [.ref z, .str (Str.ofString "intra") t1, .int 1 t2, .int 0 t3, .int 0 t4, .ref hs]) :: (hs, tupO [.ref hp]) :: (z, tupO [.int 0 t5, .int 0 t6]) :: news') → (∀ q ∈ news', q.1 < hs) → (∀ q ∈ news', q.1 < r) → Q (.ref D) { s with heap := h', toks := tk' }) →
    wpAny (model PySem.Challenge.rw_rh0207_01.row.prog w) (ktrTop dp un gd cn cs L a ccd cl outer) (call (.ref f) []) Q E s
inductive RouterAt (w : World) (p : Program) (loose : List Str) (mean : ExcName → Option Value) (mg mb : Str → Option Value) (news : List (Addr × Obj)) (x hp : Addr) : Prop
  | mk (dx : Addr) (k : Nat) (h1 : Int) (t1 : Tok) (v1 : Value) (h2 : Int) (t2 : Tok) (v2 : Value) (h3 : Int) (t3 : Tok) (v3 : Value) (h4 : Int) (t4 : Tok) (v4 : Value) (h5 : Int) (t5 : Tok) (v5 : Value) (h6 : Int) (t6 : Tok) (v6 : Value) (h7 : Int) (t7 : Tok) (f : Addr) (mx : (x, instObj 181 dx) ∈ news)
    (md : (dx, dictOf [⟨h1, .str (Str.ofString "links") t1, v1⟩, ⟨h2, .str (Str.ofString "choices") t2, v2⟩, ⟨h3, .str (Str.ofString "delay") t3, v3⟩, ⟨h4, .str (Str.ofString "cut_links") t4, v4⟩, ⟨h5, .str (Str.ofString "waiting") t5, v5⟩, ⟨h6, .str (Str.ofString "count") t6, v6⟩, ⟨h7, .str (Str.ofString "table") t7, .ref f⟩] k) ∈ news)
    (mf : ∃ fd, (f, ({ cls := .type "function", data := .func fd } : Obj)) ∈ news) (hT : TableOk w p loose mean mg mb news f hp) : RouterAt w p loose mean mg mb news x hp
noncomputable def lamQ : Str := (Str.ofString "_law_router" ++ ".<locals>.") ++ Str.ofString "<lambda>"

theorem lt1 {a x : Addr} (h : @LT.lt Nat _ (a + 1) x) : @LT.lt Nat _ a x := Nat.lt_of_succ_lt h
theorem tl_lt {rest tl : List (Addr × Obj)} {P L : Addr} {o : Obj} (h : ∀ r ∈ (P, o) :: rest, r.1 < L) (h2 : ∀ q ∈ tl, @LT.lt Nat _ L q.1) : (∀ q ∈ tl, ∀ r ∈ rest, r.1 < q.1) ∧ ∀ q ∈ tl, @LT.lt Nat _ P q.1 :=
  ⟨fun q hq r hr => Nat.lt_trans (h r (.tail _ hr)) (h2 q hq), fun q hq => Nat.lt_trans (h (P, o) (.head _)) (h2 q hq)⟩
section
variable {w : World} {p : Program} {loose : List Str} {mean : ExcName → Option Value} {mg mb : Str → Option Value} {lk lc : Addr} {td : Tok} {news : List (Addr × Obj)}
  {dp un : Nat} {gd : Option (List Code)} {cn : Str} {cs : Scope} {a : Addr} {ccd : Value} {cl : List (Str × Addr)} {outer : List Env} {A₀ : Around} {base h₀ : Heap} {L : Addr} {m : Str → Option Value} {s : Shared} {Q E : Value → Shared → Prop} {o : Obj}
theorem net_ct0 (B : Below A₀ base outer h₀) (F : Fr h₀ L s.heap m) (T : Top p loose mean mg mb h₀) (N : News h₀ L s.heap news) (hk : cs.kind = .function)
  (hb : (lk == sysModules) = false) (hm : (lk, o) ∈ news) (hi : o.IsDictOf (intKind PySem.Challenge.rw_rh0207_01.row.prog w) []) (hc : (lc, W.listOf #[] 0) ∈ news)
  (hdp : dp + 20 < recursionLimit) (hu : un + 200 < cLine) (X : (hd.heap_39 w.params).In h₀)
  (hret : ∀ (n dn ld ch cu wt : Addr) (od : Obj) (k1 : Nat) (v3 v6 : Value) (t1 t2 t3 t4 t5 t6 : Tok) h' tk', Fr h₀ L h' m →
    News h₀ L h' ((wt, W.listOf #[] 0) :: (cu, W.listOf #[] 0) :: (ch, W.listOf #[] k1) :: (ld, od) :: (n, instObj 181 dn) :: (dn, netD w ld cu wt (.ref ch) v3 v6 t1 t2 t3 t4 t5 t6) :: news) →
    (∀ q ∈ news, q.1 < dn) → (∀ q ∈ news, q.1 < n) → (∀ q ∈ news, q.1 < ld) → (∀ q ∈ news, q.1 < ch) → (∀ q ∈ news, q.1 < cu) → (∀ q ∈ news, q.1 < wt) →
    @Ne Nat wt dn → @Ne Nat cu dn → @Ne Nat ch dn → @Ne Nat ld dn → @Ne Nat n dn → Q (.ref n) { s with heap := h', toks := tk' }) :
  wpAny (model PySem.Challenge.rw_rh0207_01.row.prog w) (ktrTop dp un gd cn cs L a ccd cl outer) (call (.ref 181) [.ref lk, .ref lc, .int 1 td]) Q E s :=
  net_ct (kvs := []) B F T N hk ⟨hb, o, hm, hi⟩ (Nat.zero_le _) hc hdp hu (fun n dn ld ch cu wt od k1 v3 v6 t1 t2 t3 t4 t5 t6 h' tk' F' N' q1 q2 q3 q4 q5 q6 _ _ =>
    have z3 := Nat.lt_trans q2 q3
    have z4 := Nat.lt_trans z3 q4
    have z5 := Nat.lt_trans z4 q5
    have z6 := Nat.lt_trans z5 q6
    hret n dn ld ch cu wt od k1 v3 v6 t1 t2 t3 t4 t5 t6 h' tk' F' N' q1 (fun q hq => Nat.lt_trans (q1 q hq) q2) (fun q hq => Nat.lt_trans (q1 q hq) z3) (fun q hq => Nat.lt_trans (q1 q hq) z4) (fun q hq => Nat.lt_trans (q1 q hq) z5) (fun q hq => Nat.lt_trans (q1 q hq) z6)
      (Nat.ne_of_gt z6) (Nat.ne_of_gt z5) (Nat.ne_of_gt z4) (Nat.ne_of_gt z3) (Nat.ne_of_gt q2)) X
end
theorem router_A {w : World} {p : Program} {loose : List Str} {mean : ExcName → Option Value} {mg mb : Str → Option Value} {rest : List (Addr × Obj)} {hp : Addr}
  {dp un : Nat} {gd : Option (List Code)} {cn : Str} {nms : List (Str × NameKind)} {mm : List (Str × Const)} {a : Addr} {ccd : Value} {cl : List (Str × Addr)} {outer : List Env} {A₀ : Around} {base h₀ : Heap} {L : Addr} {m : Str → Option Value} {s : Shared} {Q E : Value → Shared → Prop}
  (B : Below A₀ base outer h₀) (F : Fr h₀ L s.heap m) (T : Top p loose mean mg mb h₀) (N : News h₀ L s.heap ((194, tabObj #[]) :: rest)) (hr : ∀ q ∈ rest, q.1 ≠ 194)
  (hC : CodeHd base 198 194)
  (hdp : dp + 50 < recursionLimit) (hu : un + 500 < cLine)
  (hret : ∀ x tl c' oc vs t h' tk', Fr h₀ L h' m → News h₀ L h' (tl ++ (194, tabObj #[rawInt 143, rawInt 18, .ref c']) :: rest) → (∀ nw, (∀ q ∈ tl, q ∈ nw) → RouterAt w p loose mean mg mb nw x hp) →
    (c', oc) ∈ tl → oc.data = .fields vs → vs[1]? = some (.str lamQ t) → ((∀ q ∈ tl, ∀ r ∈ rest, r.1 < q.1) ∧ ∀ q ∈ tl, @LT.lt Nat _ 194 q.1) → Q (.ref x) { s with heap := h', toks := tk' }) :
  (hd.heap_39 w.params).In h₀ →
  wpAny (model PySem.Challenge.rw_rh0207_01.row.prog w) (ktrTop dp un gd cn { kind := .function, names := nms, isGenerator := false, isCoroutine := false, more := mm } L a ccd cl outer) (call (.ref 199) [.ref hp]) Q E s := by
  w_top off
  k_with_none
  k_with "ne" => first | assumption | (refine neN ?_; (try dsimp only); first | assumption | exact Nat.ne_of_lt (lt_mem (by assumption) (by k_mem)) | exact Nat.ne_of_gt (lt_mem (by assumption) (by k_mem)) | exact Nat.ne_of_gt (lt_mem2 (by assumption) (by assumption) (by k_mem)) | exact And.left (by assumption) | exact Ne.symm (And.left (by assumption)) | exact And.left (And.right (by assumption)) | exact Ne.symm (And.left (And.right (by assumption))) | exact And.left (And.right (And.right (by assumption))) | exact Ne.symm (And.left (And.right (And.right (by assumption)))) | exact And.left (And.right (And.right (And.right (by assumption)))) | exact Ne.symm (And.left (And.right (And.right (And.right (by assumption))))) | exact And.left (And.right (And.right (And.right (And.right (by assumption))))) | exact Ne.symm (And.left (And.right (And.right (And.right (And.right (by assumption)))))) | exact Ne.symm (And.left (And.right (And.right (And.right (And.right (And.right (by assumption)))))))  | exact Ne.symm (And.left (And.right (And.right (And.right (And.right (And.right (And.right (by assumption)))))))) | omega)
  k_with "all" => first | assumption | exact List.forall_mem_nil _ | (refine' List.forall_mem_cons.mpr ⟨?a, ?b⟩; (case a => k_ne); (case b => k_all)) | exact lt_ne (by assumption) | exact lt_ne_succ (by assumption) | exact fun p hp => Nat.ne_of_lt (lt_at (by assumption) (by k_mem))
  k_with "mem" => first | assumption | exact List.Mem.head _ | (refine' List.Mem.tail _ ?_; k_mem)
  k_with "room" => first | exact lim2 (by assumption) (Nat.le_of_ble_eq_true rfl) | exact lim1 (by assumption) (Nat.le_of_ble_eq_true rfl) | exact lim0 (by assumption)
  k_with "call ref" => (k_here; (with_reducible show wpAny _ _ (call (Value.ref 181) [Value.ref _, Value.ref _, Value.int 1 _]) _ _ _); k_dflt (refine' net_ct0 ?B ?F ?T ?N ?hk ?hb ?hm ?hi ?hc ?hd ?hu ?X ?_; (case B => k_asm); (case F => k_asm); (case X => k_asm); (case T => k_asm); (case N => k_asm); (case hk => exact rfl); (case hb => assumption); (case hm => k_mem); (case hi => assumption); (case hc => k_mem); (case hd => ktr_room); (case hu => ktr_units); k_whole); intro n9 dn9 ld9 ch9 cu9 wt9 od9 k9 v39 v69 t19 t29 t39 t49 t59 t69 h9 tk9 F' N' u1 u2 u3 u4 u5 u6 q1 q2 q3 q4 q5; (try k_sweep))
  k_fill
  intro X
  refine wpAny_call ?_
  k_dflt (refine' code_defC (binds := [(Str.ofString "hop", .ref hp)]) ?k1 ?k2 ?k3 ?k4 ?k5 ?kA ?kF ?kK ?k6 ?k7 ?k8 ?k9 ?kB ?kD ?_ ?c2 ?c3 ?c4; (case kA => exact rfl); (case kF => exact rfl); (case kK => exact rfl); (case k1 => k_asm); (case k2 => k_asm); (case k3 => k_asm); (case k4 => k_asm); (case k5 => k_asm); (case k6 => k_is); (case k7 => k_is); (case k8 => ktr_room); (case k9 => exact BindsTo.of_eq rfl); (case kB => exact rfl); (case kD => decide +kernel); (case c2 => exact rfl); (case c3 => exact rfl); (case c4 => exact rfl); k_whole; intro g' L' h' tk' cells' FG' F' N' Y' B' X' T' lR)
  replace F' := fr_eq F' (m' := fun _ => none) rfl
  obtain ⟨o', hE', d1'⟩ := CellsAre.one Y'
  subst hE'
  clear Y'
  have d2' : o'.data = .cell (some (.ref hp)) := d1'
  clear d1'
  simp only [List.cons_append, List.nil_append] at N'
  dsimp only
  try k_lift B'
  show wpAny _ _ _ _ _ _
  k_fold
  have nL : @Ne Nat (L' + 1) 194 := Nat.ne_of_gt (Nat.lt_succ_of_lt (lR _ (.head _)))
  k_steps
  refine hret _ [_, _, _, _, _, _, _, _, _, _, _] _ _ _ _ _ _ (by k_asm) (by k_asm) ?_ (.tail _ (.head _)) (by assumption) (by assumption) (tl_lt lR ?_)
  · intro nw hnw
    refine ⟨_, _, _, _, _, _, _, _, _, _, _, _, _, _, _, _, _, _, _, _, _, _, _, hnw _ (by k_mem), hnw _ (by k_mem), ⟨_, hnw _ (by k_mem)⟩, ?_⟩
    intro dp' un' gd' cn' cs' a' ccd' cl' outer' A' base' h0' L' m' s' Q' E' news' B1 F1 X1 N1 hs1 T1 hk1 hd1 hu1 hret1
    have mf := hs1 _ (hnw _ (List.Mem.head _))
    have mc := hs1 _ (hnw _ (List.Mem.tail _ (List.Mem.head _)))
    have mo := hs1 _ (hnw _ (List.Mem.tail _ (List.Mem.tail _ (List.Mem.tail _ (List.Mem.tail _ (List.Mem.tail _ (List.Mem.tail _ (List.Mem.tail _ (List.Mem.tail _ (List.Mem.tail _ (List.Mem.tail _ (List.Mem.head _))))))))))))
    refine wpAny_call ?_
    k_dflt (refine' kla_code (binds := []) ?k1 ?k2 ?k3 ?k4 ?k5 ?kA ?kF ?kK ?k6 ?k7 ?k8 ?k9 ?kB ?_ ?c2 ?c3 ?c4 ?c5; (case kA => exact rfl); (case kF => exact rfl); (case kK => assumption); (case k1 => k_asm); (case k2 => k_asm); (case k3 => k_asm); (case k4 => k_asm); (case k5 => k_asm); (case k6 => exact mf); (case k7 => exact codeRec_news (by k_asm) mc (by assumption) (by assumption)); (case k8 => k_room); (case k9 => exact rfl); (case c5 => decide); (case kB => exact fun y hy => nomatch hy); (case c2 => exact rfl); (case c3 => exact rfl); (case c4 => exact rfl); k_whole; intro g' L' h' FG' F' N' B' X' T'; (try dsimp only); (try k_lift B'); (try k_fold))
    k_with "newTuple" => (k_here; k_dflt (refine' kup_newTuple ?F ?N ?_ ?z; (case F => k_asm); (case N => k_asm); (case z => kmk_size)); intro D' h' F' N' l1; (try k_lt l1); (try k_sweep))
    clear lR
    k_steps
    exact hret1 _ _ _ _ _ _ _ _ _ _ _ _ (by k_asm) (by k_asm) (fun q hq => lt_at (by assumption) (by k_mem)) (fun q hq => lt_at (by assumption) (by k_mem))
  · repeat' (refine List.forall_mem_cons.mpr ⟨?_, ?_⟩)
    all_goals (first | exact List.forall_mem_nil _ | exact Nat.lt_succ_self _ | exact lt1 (lt_mem (by assumption) (by k_mem)) | exact lt1 (lt_mem2 (by assumption) (by assumption) (by k_mem)))
theorem router_B {w : World} {p : Program} {loose : List Str} {mean : ExcName → Option Value} {mg mb : Str → Option Value} {rest : List (Addr × Obj)} {hp c1 : Addr} {oc1 : Obj} {vs1 : Array Value} {tq : Tok}
  {dp un : Nat} {gd : Option (List Code)} {cn : Str} {nms : List (Str × NameKind)} {mm : List (Str × Const)} {a : Addr} {ccd : Value} {cl : List (Str × Addr)} {outer : List Env} {A₀ : Around} {base h₀ : Heap} {L : Addr} {m : Str → Option Value} {s : Shared} {Q E : Value → Shared → Prop}
  (B : Below A₀ base outer h₀) (F : Fr h₀ L s.heap m) (T : Top p loose mean mg mb h₀) (N : News h₀ L s.heap ((194, tabObj #[rawInt 143, rawInt 18, .ref c1]) :: rest)) (hc1 : (c1, oc1) ∈ rest) (hoc1 : oc1.data = .fields vs1) (hvs1 : vs1[1]? = some (.str lamQ tq)) (hr : ∀ q ∈ rest, q.1 ≠ 194)
  (hC : CodeHd base 198 194)
  (hdp : dp + 50 < recursionLimit) (hu : un + 500 < cLine)
  (hret : ∀ x tl h' tk', Fr h₀ L h' m → News h₀ L h' (tl ++ (194, tabObj #[rawInt 143, rawInt 18, .ref c1]) :: rest) → (∀ nw, (∀ q ∈ tl, q ∈ nw) → (c1, oc1) ∈ nw → RouterAt w p loose mean mg mb nw x hp) →
    ((∀ q ∈ tl, ∀ r ∈ rest, r.1 < q.1) ∧ ∀ q ∈ tl, @LT.lt Nat _ 194 q.1) → Q (.ref x) { s with heap := h', toks := tk' }) :
  (hd.heap_39 w.params).In h₀ →
  wpAny (model PySem.Challenge.rw_rh0207_01.row.prog w) (ktrTop dp un gd cn { kind := .function, names := nms, isGenerator := false, isCoroutine := false, more := mm } L a ccd cl outer) (call (.ref 199) [.ref hp]) Q E s := by
  w_top off
  k_with_none
  k_with "ne" => first | assumption | (refine neN ?_; (try dsimp only); first | assumption | exact Nat.ne_of_lt (lt_mem (by assumption) (by k_mem)) | exact Nat.ne_of_gt (lt_mem (by assumption) (by k_mem)) | exact Nat.ne_of_gt (lt_mem2 (by assumption) (by assumption) (by k_mem)) | exact And.left (by assumption) | exact Ne.symm (And.left (by assumption)) | exact And.left (And.right (by assumption)) | exact Ne.symm (And.left (And.right (by assumption))) | exact And.left (And.right (And.right (by assumption))) | exact Ne.symm (And.left (And.right (And.right (by assumption)))) | exact And.left (And.right (And.right (And.right (by assumption)))) | exact Ne.symm (And.left (And.right (And.right (And.right (by assumption))))) | exact And.left (And.right (And.right (And.right (And.right (by assumption))))) | exact Ne.symm (And.left (And.right (And.right (And.right (And.right (by assumption)))))) | exact Ne.symm (And.left (And.right (And.right (And.right (And.right (And.right (by assumption)))))))  | exact Ne.symm (And.left (And.right (And.right (And.right (And.right (And.right (And.right (by assumption)))))))) | omega)
  k_with "all" => first | assumption | exact List.forall_mem_nil _ | (refine' List.forall_mem_cons.mpr ⟨?a, ?b⟩; (case a => k_ne); (case b => k_all)) | exact lt_ne (by assumption) | exact lt_ne_succ (by assumption) | exact fun p hp => Nat.ne_of_lt (lt_at (by assumption) (by k_mem))
  k_with "mem" => first | assumption | exact List.Mem.head _ | (refine' List.Mem.tail _ ?_; k_mem)
  k_with "room" => first | exact lim2 (by assumption) (Nat.le_of_ble_eq_true rfl) | exact lim1 (by assumption) (Nat.le_of_ble_eq_true rfl) | exact lim0 (by assumption)
  k_with "call ref" => (k_here; (with_reducible show wpAny _ _ (call (Value.ref 181) [Value.ref _, Value.ref _, Value.int 1 _]) _ _ _); k_dflt (refine' net_ct0 ?B ?F ?T ?N ?hk ?hb ?hm ?hi ?hc ?hd ?hu ?X ?_; (case B => k_asm); (case F => k_asm); (case X => k_asm); (case T => k_asm); (case N => k_asm); (case hk => exact rfl); (case hb => assumption); (case hm => k_mem); (case hi => assumption); (case hc => k_mem); (case hd => ktr_room); (case hu => ktr_units); k_whole); intro n9 dn9 ld9 ch9 cu9 wt9 od9 k9 v39 v69 t19 t29 t39 t49 t59 t69 h9 tk9 F' N' u1 u2 u3 u4 u5 u6 q1 q2 q3 q4 q5; (try k_sweep))
  k_fill
  intro X
  refine wpAny_call ?_
  k_dflt (refine' code_defC (binds := [(Str.ofString "hop", .ref hp)]) ?k1 ?k2 ?k3 ?k4 ?k5 ?kA ?kF ?kK ?k6 ?k7 ?k8 ?k9 ?kB ?kD ?_ ?c2 ?c3 ?c4; (case kA => exact rfl); (case kF => exact rfl); (case kK => exact rfl); (case k1 => k_asm); (case k2 => k_asm); (case k3 => k_asm); (case k4 => k_asm); (case k5 => k_asm); (case k6 => k_is); (case k7 => k_is); (case k8 => ktr_room); (case k9 => exact BindsTo.of_eq rfl); (case kB => exact rfl); (case kD => decide +kernel); (case c2 => exact rfl); (case c3 => exact rfl); (case c4 => exact rfl); k_whole; intro g' L' h' tk' cells' FG' F' N' Y' B' X' T' lR)
  replace F' := fr_eq F' (m' := fun _ => none) rfl
  obtain ⟨o', hE', d1'⟩ := CellsAre.one Y'
  subst hE'
  clear Y'
  have d2' : o'.data = .cell (some (.ref hp)) := d1'
  clear d1'
  simp only [List.cons_append, List.nil_append] at N'
  dsimp only
  try k_lift B'
  show wpAny _ _ _ _ _ _
  k_fold
  have nL : @Ne Nat (L' + 1) 194 := Nat.ne_of_gt (Nat.lt_succ_of_lt (lR _ (.head _)))
  k_steps
  refine hret _ [_, _, _, _, _, _, _, _, _, _] _ _ (by k_asm) (by k_asm) ?_ (tl_lt lR ?_)
  · intro nw hnw hcnw
    refine ⟨_, _, _, _, _, _, _, _, _, _, _, _, _, _, _, _, _, _, _, _, _, _, _, hnw _ (by k_mem), hnw _ (by k_mem), ⟨_, hnw _ (by k_mem)⟩, ?_⟩
    intro dp' un' gd' cn' cs' a' ccd' cl' outer' A' base' h0' L' m' s' Q' E' news' B1 F1 X1 N1 hs1 T1 hk1 hd1 hu1 hret1
    have mf := hs1 _ (hnw _ (List.Mem.head _))
    have mc := hs1 _ hcnw
    have mo := hs1 _ (hnw _ (List.Mem.tail _ (List.Mem.tail _ (List.Mem.tail _ (List.Mem.tail _ (List.Mem.tail _ (List.Mem.tail _ (List.Mem.tail _ (List.Mem.tail _ (List.Mem.tail _ (List.Mem.head _)))))))))))
    refine wpAny_call ?_
    k_dflt (refine' kla_code (binds := []) ?k1 ?k2 ?k3 ?k4 ?k5 ?kA ?kF ?kK ?k6 ?k7 ?k8 ?k9 ?kB ?_ ?c2 ?c3 ?c4 ?c5; (case kA => exact rfl); (case kF => exact rfl); (case kK => assumption); (case k1 => k_asm); (case k2 => k_asm); (case k3 => k_asm); (case k4 => k_asm); (case k5 => k_asm); (case k6 => exact mf); (case k7 => exact codeRec_news (by k_asm) mc (by assumption) (by assumption)); (case k8 => k_room); (case k9 => exact rfl); (case c5 => decide); (case kB => exact fun y hy => nomatch hy); (case c2 => exact rfl); (case c3 => exact rfl); (case c4 => exact rfl); k_whole; intro g' L' h' FG' F' N' B' X' T'; (try dsimp only); (try k_lift B'); (try k_fold))
    k_with "newTuple" => (k_here; k_dflt (refine' kup_newTuple ?F ?N ?_ ?z; (case F => k_asm); (case N => k_asm); (case z => kmk_size)); intro D' h' F' N' l1; (try k_lt l1); (try k_sweep))
    clear lR
    k_steps
    exact hret1 _ _ _ _ _ _ _ _ _ _ _ _ (by k_asm) (by k_asm) (fun q hq => lt_at (by assumption) (by k_mem)) (fun q hq => lt_at (by assumption) (by k_mem))
  · repeat' (refine List.forall_mem_cons.mpr ⟨?_, ?_⟩)
    all_goals (first | exact List.forall_mem_nil _ | exact Nat.lt_succ_self _ | exact lt1 (lt_mem (by assumption) (by k_mem)) | exact lt1 (lt_mem2 (by assumption) (by assumption) (by k_mem)))
end
-- part C4
section
open PySem PySem.W PySem.Spec PySem.Calls PyProof.Rows PySem.SeqAt
set_option linter.all false
set_option maxRecDepth 100000
set_option maxHeartbeats 8000000
theorem item_I2 {w : World} {A : Around} {E : Value → Shared → Prop} {s : Shared} {h₀ : Heap} {L : Addr} {news₀ news : List (Addr × Obj)} {value slice : Expr} {d : Addr} {kvs : List (Int × Value)} {k : Int} {t : Tok} {v : Value} {Q : Value → Shared → Prop}
    (N : News h₀ L s.heap news) (hI : IDict PySem.Challenge.rw_rh0207_01.row.prog w news₀ d kvs) (hs : ∀ q ∈ news₀, q ∈ news) (hv : valueAt kvs k = some v) (h : Q v { s with toks := s.toks + 1 })
    (hs' : subscripted slice false (.ref d) (.int k t) = operate [.ref d, .int k t] (getItem (.ref d) (.int k t)) := by with_unfolding_all rfl) :
    wpAny (model PySem.Challenge.rw_rh0207_01.row.prog w) A (subscriptTail value slice (.ref d) (.int k t)) Q E s := item_I N (hI.mono hs) hv h hs'

theorem table_use {w : World} {p : Program} {loose : List Str} {mean : ExcName → Option Value} {mg mb : Str → Option Value} {news₀ news : List (Addr × Obj)} {f hp : Addr}
  {dp un : Nat} {gd : Option (List Code)} {cn : Str} {cs : Scope} {a : Addr} {ccd : Value} {cl : List (Str × Addr)} {outer : List Env} {A₀ : Around} {base h₀ : Heap} {L : Addr} {m : Str → Option Value} {s : Shared} {Q E : Value → Shared → Prop}
  (B : Below A₀ base outer h₀) (F : Fr h₀ L s.heap m) (X : (hd.heap_39 w.params).In h₀) (N : News h₀ L s.heap news) (T : Top p loose mean mg mb h₀) (H : TableOk w p loose mean mg mb news₀ f hp) (hs : ∀ q ∈ news₀, q ∈ news) (hk : cs.kind = .function) (hdp : dp + 10 < recursionLimit) (hu : un + 100 < cLine)
  (hret : ∀ D r z hs t1 t2 t3 t4 t5 t6 h' tk', Fr h₀ L h' m → News h₀ L h' ((D, W.listOf #[.ref r] 0) :: (r, tupO [.ref z, .str (Str.ofString "intra") t1, .int 1 t2, .int 0 t3, .int 0 t4, .ref hs]) :: (hs, tupO [.ref hp]) :: (z, tupO [.int 0 t5, .int 0 t6]) :: news) → (∀ q ∈ news, q.1 < hs) → (∀ q ∈ news, q.1 < r) → Q (.ref D) { s with heap := h', toks := tk' }) :
  wpAny (model PySem.Challenge.rw_rh0207_01.row.prog w) (ktrTop dp un gd cn cs L a ccd cl outer) (call (.ref f) []) Q E s := H _ _ _ _ _ _ _ _ _ _ _ _ _ _ _ _ _ _ B F X N hs T hk hdp hu hret

theorem shift_eq {x : Int} (h0 : 0 ≤ x) (h1 : x < 256) : x.fdiv (2 ^ (8 - 0 : Int).toNat) = Int.fdiv 0 (2 ^ (8 - 0 : Int).toNat) := by
  show x.fdiv 256 = Int.fdiv 0 256
  rw [Int.fdiv_eq_ediv_of_nonneg _ (by decide), Int.fdiv_eq_ediv_of_nonneg _ (by decide)]
  omega
theorem sub3 {α : Type} {a b d z : α} {r : List α} : ∀ q ∈ a :: b :: r, q ∈ d :: a :: b :: z :: r := fun q hq => by
  rcases List.mem_cons.mp hq with rfl | hq
  · exact .tail _ (.head _)
  · rcases List.mem_cons.mp hq with rfl | hq
    · exact .tail _ (.tail _ (.head _))
    · exact .tail _ (.tail _ (.tail _ (.tail _ hq)))
theorem route_of_ct {w : World} {p : Program} {loose : List Str} {mean : ExcName → Option Value} {mg mb : Str → Option Value} {news : List (Addr × Obj)} {wd n rd ed x hp : Addr} {kvs : List (Int × Value)} {name addr : Int} {tn ta : Tok}
  {dp un : Nat} {gd : Option (List Code)} {cn : Str} {cs : Scope} {a : Addr} {ccd : Value} {cl : List (Str × Addr)} {outer : List Env} {A₀ : Around} {base h₀ : Heap} {L : Addr} {m : Str → Option Value} {s : Shared} {Q E : Value → Shared → Prop}
  (B : Below A₀ base outer h₀) (F : Fr h₀ L s.heap m) (T : Top p loose mean mg mb h₀) (N : News h₀ L s.heap news) (hk : cs.kind = .function)
  (hW : WorldAt news wd n rd ed) (hI : IDict PySem.Challenge.rw_rh0207_01.row.prog w news rd kvs) (hv : valueAt kvs name = some (.ref x)) (hR : RouterAt w p loose mean mg mb news x hp) (ha0 : 0 ≤ addr) (ha1 : addr < 256)
  (hdp : dp + 50 < recursionLimit) (hu : un + 500 < cLine)
  (hret : ∀ r z hs t1 t2 t3 t4 h' tk', Fr h₀ L h' m → News h₀ L h' ((r, tupO [.ref z, .str (Str.ofString "intra") t1, .int 1 t2, .int 0 t3, .int 0 t4, .ref hs]) :: (hs, tupO [.ref hp]) :: news) → (∀ q ∈ news, q.1 < hs) → (∀ q ∈ news, q.1 < r) → Q (.ref r) { s with heap := h', toks := tk' }) :
  (hd.heap_39 w.params).In h₀ →
  wpAny (model PySem.Challenge.rw_rh0207_01.row.prog w) (ktrTop dp un gd cn cs L a ccd cl outer) (call (.ref 82) [.ref wd, .int name tn, .int addr ta]) Q E s := by
  w_top off
  k_with_none
  k_with "ne" => first | assumption | (refine neN ?_; (try dsimp only); first | assumption | exact Nat.ne_of_lt (lt_mem (by assumption) (by k_mem)) | exact Nat.ne_of_gt (lt_mem (by assumption) (by k_mem)) | exact Nat.ne_of_gt (lt_mem2 (by assumption) (by assumption) (by k_mem)) | exact And.left (by assumption) | exact Ne.symm (And.left (by assumption)) | exact And.left (And.right (by assumption)) | exact Ne.symm (And.left (And.right (by assumption))) | exact And.left (And.right (And.right (by assumption))) | exact Ne.symm (And.left (And.right (And.right (by assumption)))) | exact And.left (And.right (And.right (And.right (by assumption)))) | exact Ne.symm (And.left (And.right (And.right (And.right (by assumption))))) | exact And.left (And.right (And.right (And.right (And.right (by assumption))))) | exact Ne.symm (And.left (And.right (And.right (And.right (And.right (by assumption)))))) | exact Ne.symm (And.left (And.right (And.right (And.right (And.right (And.right (by assumption)))))))  | exact Ne.symm (And.left (And.right (And.right (And.right (And.right (And.right (And.right (by assumption)))))))) | omega)
  k_with "all" => first | assumption | exact List.forall_mem_nil _ | (refine' List.forall_mem_cons.mpr ⟨?a, ?b⟩; (case a => k_ne); (case b => k_all)) | exact lt_ne (by assumption) | exact lt_ne_succ (by assumption) | exact fun p hp => Nat.ne_of_lt (lt_at (by assumption) (by k_mem))
  k_with "mem" => first | assumption | exact List.Mem.head _ | (refine' List.Mem.tail _ ?_; k_mem)
  k_with "room" => first | exact lim2 (by assumption) (Nat.le_of_ble_eq_true rfl) | exact lim1 (by assumption) (Nat.le_of_ble_eq_true rfl) | exact lim0 (by assumption)
  k_with "subscriptTail" => (k_here; (with_reducible show wpAny _ _ (subscriptTail _ _ (Value.ref _) (Value.int _ _)) _ _ _); k_dflt (refine item_I2 (by k_asm) (by assumption) (fun q hq => by k_mem) (by assumption) ?_))
  k_with "callWith ref" => (k_here; (try dsimp only); k_dflt (refine callWith_F0 (FnAt.of (by k_asm) (by assumption)) ?_); (try dsimp only [List.nil_append, List.cons_append]))
  k_with "call ref" => (k_here; (with_reducible show wpAny _ _ (call (Value.ref _) []) _ _ _); k_dflt (refine' table_use ?B ?F ?X ?N ?T ?H ?hs ?hk ?hd ?hu ?_; (case B => k_asm); (case F => k_asm); (case X => k_asm); (case T => k_asm); (case N => k_asm); (case hk => exact rfl); (case H => assumption); (case hs => exact fun q hq => by k_mem); (case hd => ktr_room); (case hu => ktr_units); k_whole); intro D' r' z' hs' t1' t2' t3' t4' t5' t6' h' tk' F' N' o1' o2'; (try k_sweep))
  k_with "pyIter ref" => (k_here; (with_reducible show wpAny _ _ (pyIter (Value.ref _)) (fun it s₂ => LoopAtV _ _ _ _ _ _ _ _ _ it s₂) _ _); k_dflt (refine iter_listUnr (by exact rfl) (by k_asm) (by k_asm) (List.Mem.head _) rfl rfl ?_); intro I' lI')
  k_with "UnrEnd" => (k_dflt (refine UnrEnd.intro (by k_asm) (by k_asm) _ (fun _ h9 => h9) (lt_ne (by assumption)) ?_))
  k_fill
  intro X
  obtain ⟨dw, k, h1, t1, h2, t2, h3, t3, h4, t4, h5, t5, t5', h6, t6, h7, t7, w3, w6, w7, mn, md⟩ := hW
  obtain ⟨dx, k', g1, s1, x1, g2, s2, x2, g3, s3, x3, g4, s4, x4, g5, s5, x5, g6, s6, x6, g7, s7, f, mx, mdx, ⟨fd, mf⟩, hT⟩ := hR
  refine wpAny_call ?_
  k_dflt (refine' code_def (binds := [(Str.ofString "self", .ref wd), (Str.ofString "name", .int name tn), (Str.ofString "address", .int addr ta)]) ?k1 ?k2 ?k3 ?k4 ?k5 ?kA ?kF ?kK ?k6 ?k7 ?k8 ?k9 ?kB ?_ ?c2 ?c3 ?c4 ?c5; (case kA => exact rfl); (case kF => exact rfl); (case kK => assumption); (case k1 => k_asm); (case k2 => k_asm); (case k3 => k_asm); (case k4 => k_asm); (case k5 => k_asm); (case k6 => k_is); (case k7 => k_is); (case k8 => ktr_room); (case k9 => exact BindsTo.of_eq rfl); (case c5 => decide); (case kB => exact locs rfl); (case c2 => exact rfl); (case c3 => exact rfl); (case c4 => exact rfl); k_whole; intro g' L' h' FG' F' N' B' X' T'; (try dsimp only); (try k_fold))
  k_steps
  all_goals first
    | k_mem
    | exact absurd (shift_eq ha0 ha1) (by assumption)
    | exact hret _ _ _ _ _ _ _ _ _ (by k_asm) (cb_drop (by k_asm) sub3) (by assumption) (by assumption)
    | skip
end
-- part T1
section
open PySem PySem.W PySem.Spec PySem.Calls PyProof.Rows PySem.SeqAt
set_option linter.all false
set_option maxRecDepth 100000
set_option maxHeartbeats 8000000
section
variable {prog : Program} {w : World} {A : Around} {E : Value → Shared → Prop} {s : Shared} {env : Env} {h₀ : Heap} {x : Str} {body : List Stmt} {Q : Flow → Shared → Prop}
noncomputable def TRest (prog : Program) (w : World) (A : Around) (E : Value → Shared → Prop) (h₀ : Heap) (env : Env) (x : Str) (body : List Stmt) (Q : Flow → Shared → Prop) (s : Shared) (I : Addr) (T : Addr × Obj) : List Value → (Str → Option Value) → List (Addr × Obj) → Prop
  | [], m, news => ∀ h tk, Fr h₀ env.locals h m → News h₀ env.locals h news → Q .next { s with heap := h, toks := tk }
  | v :: r, m, news => ∀ (it : Obj) h tk, Fr h₀ env.locals h (fun y => if y = x then some v else m y) → News h₀ env.locals h ((I, it) :: news) →
      wpAny (model prog w) A (execs body env) (UnrPost h₀ env.locals { s with heap := h, toks := tk } I it (fun m' n' => T ∈ n' ∧ TRest prog w A E h₀ env x body Q s I T r m' n') Q) E { s with heap := h, toks := tk }
theorem TRest.done {I : Addr} {T : Addr × Obj} {m : Str → Option Value} {news : List (Addr × Obj)} (h : ∀ h tk, Fr h₀ env.locals h m → News h₀ env.locals h news → Q .next { s with heap := h, toks := tk }) :
    TRest prog w A E h₀ env x body Q s I T [] m news := h
theorem TRest.turn {I : Addr} {T : Addr × Obj} {v : Value} {r : List Value} {m : Str → Option Value} {news : List (Addr × Obj)}
    (h : ∀ (it : Obj) h tk, Fr h₀ env.locals h (fun y => if y = x then some v else m y) → News h₀ env.locals h ((I, it) :: news) →
      wpAny (model prog w) A (execs body env) (UnrPost h₀ env.locals { s with heap := h, toks := tk } I it (fun m' n' => T ∈ n' ∧ TRest prog w A E h₀ env x body Q s I T r m' n') Q) E { s with heap := h, toks := tk }) :
    TRest prog w A E h₀ env x body Q s I T (v :: r) m news := h

theorem drop_at {vs : List Value} {i : Nat} {v : Value} (hi : i < vs.length) (hv : vs.toArray[i]? = some v) : vs.drop i = v :: vs.drop (i + 1) := by
  rw [List.getElem?_toArray, List.getElem?_eq_getElem hi] at hv
  rw [List.drop_eq_getElem_cons hi, Option.some.inj hv]
theorem close_core {I t : Addr} {it to : Obj} {own : List (Addr × Obj)} {h₁ : Heap} {tk₁ : Nat} {r : (Str → Option Value) → List (Addr × Obj) → Prop} (hown : ∀ p ∈ own, p.1 ∈ [I, t]) (hget : ∀ p ∈ own, h₁.get? p.1 = some p.2) (heI : h₁.get? I = some it) (ht : h₁.get? t = some to) :
    ∀ s₂, UnrEnd h₀ env.locals { s with heap := h₁, toks := tk₁ } I it (fun m' n' => (t, to) ∈ n' ∧ r m' n') s₂ → LoopStepU h₀ env.locals [I] own (fun m' n' => (t, to) ∈ n' ∧ r m' n') { s with heap := h₁, toks := tk₁ } .next s₂ := by
  have what : ∀ p ∈ own, p = (I, it) ∨ p = (t, to) := fun p hp => by
    have hg := hget p hp
    rcases List.mem_cons.mp (hown p hp) with e | e
    · rw [e, heI] at hg
      exact .inl (Prod.ext e (Option.some.inj hg).symm)
    · have e := List.mem_singleton.mp e
      rw [e, ht] at hg
      exact .inr (Prod.ext e (Option.some.inj hg).symm)
  rintro s₂ ⟨h', tk', m', n', e, F', N', o', hm', R'⟩
  refine ⟨rfl, h', tk', m', n', e, F', fun p hp => ?_, fun p hp hI => o' p hp (List.mem_singleton.mp hI), hm', R'⟩
  rcases List.mem_append.mp hp with hp | hp
  · rcases what p hp with e | e
    · rw [e]; exact N' _ (List.mem_cons_self ..)
    · rw [e]; exact N' _ (List.mem_cons_of_mem _ hm')
  · exact N' _ (List.mem_cons_of_mem _ hp)
theorem iter_tup {t : Addr} {vs : List Value} {m₀ : Str → Option Value} {news : List (Addr × Obj)} (hh : A.handled = none) (F : Fr h₀ env.locals s.heap m₀) (N : News h₀ env.locals s.heap news) (hm : (t, ({ cls := .type "tuple", data := .seq vs.toArray 0 } : Obj)) ∈ news)
    (R : ∀ I : Addr, (∀ p ∈ news, p.1 < I) → TRest prog w A E h₀ env x body Q s I (t, ({ cls := .type "tuple", data := .seq vs.toArray 0 } : Obj)) vs m₀ news) :
    wpAny (model prog w) A (pyIter (.ref t)) (fun it s₂ => LoopAtV prog w A h₀ env x body Q E it s₂) E s := by
  generalize hto : ({ cls := .type "tuple", data := .seq vs.toArray 0 } : Obj) = to at hm R
  have ht0 := N _ hm
  have hT : s.heap.IsTuple t vs.toArray := ⟨to, ht0.1, by rw [← hto], 0, by rw [← hto]⟩
  have htlt : t < s.heap.objs.size := Heap.lt_size ht0.1
  have htI : t ≠ s.heap.objs.size := Nat.ne_of_lt htlt
  have below : ∀ p ∈ news, p.1 < s.heap.objs.size := fun p hp => Heap.lt_size (N p hp).1
  refine wpAny_pyIter_tuple hT ?_
  have R0 := R s.heap.objs.size below
  have fresh := next_is_new F
  have W := Walks.tuple (prog := prog) (w := w) hh s.heap.objs.size t htI vs.toArray
  rw [List.size_toArray] at W
  refine ⟨s.heap.objs.size, _, _, vs.length, _, _, m₀, news, fun i m₁ n₁ => (t, to) ∈ n₁ ∧ TRest prog w A E h₀ env x body Q s s.heap.objs.size (t, to) (vs.drop i) m₁ n₁, rfl, W, fun hL => ?_, fun b hb => ?_, fun p hp hI => ?_,
    ⟨⟨_, Heap.get?_push_size _ rfl, rfl, rfl⟩, ?_⟩, F.push _, fun p hp => ⟨Heap.get?_push_of_some _ (N p hp).1, (N p hp).2⟩, ⟨hm, R0⟩, ?_, ?_⟩
  · rcases List.mem_cons.mp hL with e | hL
    · have := F.ns.lt; rw [e] at this; exact Nat.lt_irrefl _ this
    · exact ht0.2.1 (List.mem_singleton.mp hL).symm
  · rw [List.mem_singleton.mp hb]; exact fresh
  · have := below p hp; rw [List.mem_singleton.mp hI] at this; exact Nat.lt_irrefl _ this
  · exact ⟨to, Heap.get?_push_of_some _ ht0.1, by rw [← hto], 0, by rw [← hto]⟩
  · rintro i v m₁ n₁ s₁ own ⟨h₁, tk₁, rfl⟩ hi hv ⟨hm₁, R₁⟩ off hown hget hall hst F₁ N₁
    obtain ⟨it, heI, _, _⟩ := hst.1
    have hIown := hall s.heap.objs.size (List.mem_cons_self ..) fresh _ heI
    have hi' : i < vs.length := hi
    have ed := drop_at hi' hv
    rw [ed] at R₁
    have N₂ : News h₀ env.locals h₁ ((s.heap.objs.size, it) :: n₁) := fun p hp => by
      rcases List.mem_cons.mp hp with rfl | hp
      · exact N₁ _ (List.mem_append_left _ hIown)
      · exact N₁ _ (List.mem_append_right _ hp)
    have close := close_core (h₀ := h₀) (env := env) (s := s) (I := s.heap.objs.size) (t := t) (to := to) (h₁ := h₁) (tk₁ := tk₁) (r := fun m' n' => TRest prog w A E h₀ env x body Q s s.heap.objs.size (t, to) (vs.drop (i + 1)) m' n') hown hget heI (N₁ _ (List.mem_append_right _ hm₁)).1
    refine wpAny_mono (R₁ it h₁ tk₁ F₁ N₂) (fun f s₂ z => ?_) fun _ _ e => e
    cases f with
    | next => exact .next (close _ z)
    | cont => exact .cont (close _ z)
    | brk => exact .brk z
    | ret v => exact .ret z
  · rintro h' tk' m' n' F' N' _ ⟨_, R'⟩
    have e : vs.drop vs.length = [] := List.drop_length
    simp only [e] at R'
    exact R' h' tk' F' N'
end
end
-- part T2
section
open PySem PySem.W PySem.Spec PySem.Calls PyProof.Rows PySem.SeqAt
set_option linter.all false
set_option maxRecDepth 100000
set_option maxHeartbeats 8000000
open PyProof.Rows.LCg PyProof.Rows.LCt
section
variable {prog : Program} {w : World} {A : Around} {E : Value → Shared → Prop} {s : Shared} {env : Env} {h₀ : Heap} {L : Addr} {m : Str → Option Value}
noncomputable def SrcW (prog : Program) (w : World) (A : Around) (h₀ : Heap) (L : Addr) (m : Str → Option Value) (R : Shared → (List (Addr × Obj) → Prop) → (Nat → Value → Prop) → Nat → List (Addr × Obj) → Prop) (it : Value) (s₂ : Shared) : Prop :=
  ∃ (I : Addr) (fp : List Addr) (n : Nat) (P : Nat → Value → Prop) (St : Nat → Heap → Prop) (S : List (Addr × Obj) → Prop) (news : List (Addr × Obj)), it = .ref I ∧ Walks prog w A I fp [I] n P St ∧ n ≤ sizeLine ∧ (∀ i h, St i h → ∃ o, h.get? I = some o) ∧
    (∀ i h h' o nw, St i h → h.get? I = some o → h'.get? I = some o → (∀ b o, h₀.get? b = some o → h'.get? b = some o) → News h₀ L h' nw → S nw → St i h') ∧ St 0 s₂.heap ∧ (∀ b ∈ fp, b < s₂.heap.objs.size) ∧ Fr h₀ L s₂.heap m ∧ News h₀ L s₂.heap news ∧ L ≠ I ∧ h₀.get? I = none ∧
    (∀ p ∈ news, p.1 ≠ I) ∧ S news ∧ R s₂ S P n news

theorem comp_U {elt iter : Expr} {x : Str} {px : Pos} {scope : Scope} {cl : List (Str × Addr)} {pos : Pos} {Q : Value → Shared → Prop} (_F₀ : Fr h₀ L s.heap m)
    (hclos : closureFor scope env = pure cl) (hcell : ∀ y ∈ scope.names, y.2 ≠ .cell) (hkind : scope.kind = .function)
    (hnames : ∀ y ∈ scope.names, y.2 = .local → scope.names.lookup y.1 = some .local) (hx : scope.names.lookup x = some .local)
    (h : wpAny (model prog w) A (eval iter env) (fun xv s₁ => wpAny (model prog w) A (pyIter xv) (SrcW prog w A h₀ L m (fun s₂ S P n news => CompRest prog w A h₀ L m env elt x scope cl s₂ S P (FinE h₀ L m s₂ Q) n 0 [] news)) E s₁) E s)
    (hs : ∀ x, foldedSetIterable iter env x = pure x := by intro _; rfl) :
    wpAny (model prog w) A (eval (.ListComp elt [⟨.Name x px, iter, [], 0⟩] scope pos) env) Q E s := by
  rw [eval_ListComp]
  refine wpAny_comprehension_free (use := none) rfl hs hclos hkind hnames (wpAny_mono h (fun xv s₁ h₁ => wpAny_mono h₁ (fun it s₂ h₂ => ?_) fun _ _ e => e) fun _ _ e => e)
  obtain ⟨I, fp, n, P, St, S, news, rfl, W, hn, hIo, hSt, st, hfp, F, N, hLI, hI0, off, hS, R⟩ := h₂
  refine block_U W hn hIo hSt hcell hkind hx st hfp F N hLI hI0 off hS R ?_
  intro D C h' tk m' ys n' F' N' o1 hns hC0 hD0 hCL hDL hCD offC fin
  refine ⟨m', hns, fun h'' hs'' => fin D h'' tk (F'.change hs'' hCL hC0) (fun p hp => ⟨hs''.extBut _ _ ?_ (N' p hp).1, (N' p hp).2⟩) o1⟩
  rcases List.mem_cons.mp hp with rfl | hp
  · exact Ne.symm hCD
  · exact offC p hp
theorem comp_T {ct elt iter : Expr} {x : Str} {px : Pos} {scope : Scope} {cl : List (Str × Addr)} {pos : Pos} {Q : Value → Shared → Prop} (_F₀ : Fr h₀ L s.heap m)
    (hclos : closureFor scope env = pure cl) (hcell : ∀ y ∈ scope.names, y.2 ≠ .cell) (hkind : scope.kind = .function)
    (hnames : ∀ y ∈ scope.names, y.2 = .local → scope.names.lookup y.1 = some .local) (hx : scope.names.lookup x = some .local)
    (h : wpAny (model prog w) A (eval iter env) (fun xv s₁ => wpAny (model prog w) A (pyIter xv) (SrcW prog w A h₀ L m (fun s₂ S P n news => CompRestT prog w A h₀ L m env ct elt x scope cl s₂ S P (FinE h₀ L m s₂ Q) n 0 [] news)) E s₁) E s)
    (hs : ∀ x, foldedSetIterable iter env x = pure x := by intro _; rfl) :
    wpAny (model prog w) A (eval (.ListComp elt [⟨.Name x px, iter, [ct], 0⟩] scope pos) env) Q E s := by
  rw [eval_ListComp]
  refine wpAny_comprehension_free (use := none) rfl hs hclos hkind hnames (wpAny_mono h (fun xv s₁ h₁ => wpAny_mono h₁ (fun it s₂ h₂ => ?_) fun _ _ e => e) fun _ _ e => e)
  obtain ⟨I, fp, n, P, St, S, news, rfl, W, hn, hIo, hSt, st, hfp, F, N, hLI, hI0, off, hS, R⟩ := h₂
  refine block_T W hn hIo hSt hcell hkind hx st hfp F N hLI hI0 off hS R ?_
  intro D C h' tk m' ys n' F' N' o1 hns hC0 hD0 hCL hDL hCD offC fin
  refine ⟨m', hns, fun h'' hs'' => fin D h'' tk (F'.change hs'' hCL hC0) (fun p hp => ⟨hs''.extBut _ _ ?_ (N' p hp).1, (N' p hp).2⟩) o1⟩
  rcases List.mem_cons.mp hp with rfl | hp
  · exact Ne.symm hCD
  · exact offC p hp

theorem src_tup {t : Addr} {vs : List Value} {news : List (Addr × Obj)} {R : Shared → (List (Addr × Obj) → Prop) → (Nat → Value → Prop) → Nat → List (Addr × Obj) → Prop} (hh : A.handled = none) (F : Fr h₀ L s.heap m) (N : News h₀ L s.heap news)
    (hm : (t, ({ cls := .type "tuple", data := .seq vs.toArray 0 } : Obj)) ∈ news) (hn : vs.length ≤ sizeLine)
    (r : ∀ h, R { s with heap := h } (fun nw => (t, ({ cls := .type "tuple", data := .seq vs.toArray 0 } : Obj)) ∈ nw) (fun i v => vs.toArray[i]? = some v) vs.length news) :
    wpAny (model prog w) A (pyIter (.ref t)) (SrcW prog w A h₀ L m R) E s := by
  have ht0 := N _ hm
  have hT : s.heap.IsTuple t vs.toArray := ⟨_, ht0.1, rfl, 0, rfl⟩
  have htlt : t < s.heap.objs.size := Heap.lt_size ht0.1
  refine wpAny_pyIter_tuple hT ?_
  have W := Walks.tuple (prog := prog) (w := w) hh s.heap.objs.size t (Nat.ne_of_lt htlt) vs.toArray
  rw [List.size_toArray] at W
  have up : ∀ b o, s.heap.get? b = some o → (s.heap.push { cls := .type "tuple_iterator", data := .fields #[.ref t, .int 0 0] }).get? b = some o := fun b o e => Heap.get?_push_of_some _ e
  refine ⟨s.heap.objs.size, _, vs.length, _, _, (fun nw => (t, ({ cls := .type "tuple", data := .seq vs.toArray 0 } : Obj)) ∈ nw), news, rfl, W, hn, ?_, ?_, ⟨⟨_, Heap.get?_push_size _ rfl, rfl, rfl⟩, ⟨_, up _ _ ht0.1, rfl, 0, rfl⟩⟩, ?_, F.keeps up, N.grown up, Nat.ne_of_lt F.ns.lt, next_is_new F, fun p hp => Nat.ne_of_lt (Heap.lt_size (N p hp).1), hm, r _⟩
  · intro i h st
    obtain ⟨o, e, _⟩ := st.1
    exact ⟨o, e⟩
  · intro i h h' o nw st e e' _ N' hS
    refine ⟨?_, ⟨_, (N' _ hS).1, rfl, 0, rfl⟩⟩
    obtain ⟨o', q, z⟩ := st.1
    have q' : h.get? s.heap.objs.size = some o' := q
    rw [e] at q'; cases q'
    exact ⟨o, e', z⟩
  · intro b hb
    show b < (s.heap.push _).objs.size
    rw [Heap.size_push]
    rcases List.mem_cons.mp hb with rfl | hb
    · exact Nat.lt_succ_self _
    · rw [List.mem_singleton.mp hb]; exact Nat.lt_succ_of_lt htlt
end
end
-- part C5
section
open PySem PySem.W PySem.Spec PySem.Calls PyProof.Rows PySem.SeqAt
set_option linter.all false
set_option maxRecDepth 100000
set_option maxHeartbeats 8000000
section
variable {w : World} {A : Around} {E : Value → Shared → Prop} {s : Shared} {h₀ : Heap} {L : Addr} {news₀ news : List (Addr × Obj)} {ed : Addr} {g : Int} {t : Tok} {Q : Value → Shared → Prop}
theorem ends_some {kvs : List (Int × Value)} (hk : ∀ g, (endO g = none ∧ valueAt kvs g = none) ∨ ∃ r q e t u, endO g = some (r, q) ∧ valueAt kvs g = some (.ref e) ∧ (e, tupO [.int r t, .int q u]) ∈ news) (g : Int) : (valueAt kvs g).isSome = (endO g).isSome := by
  rcases hk g with ⟨a, b⟩ | ⟨r, q, e, t, u, a, b, c⟩
  · rw [a, b]; rfl
  · rw [a, b]; rfl
theorem ends_in (N : News h₀ L s.heap news) (hE : EndsOk w news₀ ed) (hs : ∀ q ∈ news₀, q ∈ news) (h : ∀ tk', Q (.bool (endO g).isSome) { s with toks := tk' }) :
    wpAny (model PySem.Challenge.rw_rh0207_01.row.prog w) A (compareOp .In (.int g t) (.ref ed)) Q E s := by
  obtain ⟨kvs, hI, hk⟩ := hE.mono hs
  exact in_I N hI (by rw [ends_some hk]; exact h _)
theorem ends_notin (N : News h₀ L s.heap news) (hE : EndsOk w news₀ ed) (hs : ∀ q ∈ news₀, q ∈ news) (h : ∀ tk', Q (.bool (!(endO g).isSome)) { s with toks := tk' }) :
    wpAny (model PySem.Challenge.rw_rh0207_01.row.prog w) A (compareOp .NotIn (.int g t) (.ref ed)) Q E s := by
  obtain ⟨kvs, hI, hk⟩ := hE.mono hs
  exact notin_I N hI (by rw [ends_some hk]; exact h _)
theorem ends_item {value slice : Expr} (N : News h₀ L s.heap news) (hE : EndsOk w news₀ ed) (hs : ∀ q ∈ news₀, q ∈ news) (hg : (endO g).isSome = true) (h : ∀ v tk', (∃ r q e t u, endO g = some (r, q) ∧ v = .ref e ∧ (e, tupO [.int r t, .int q u]) ∈ news) → Q v { s with toks := tk' })
    (hs' : subscripted slice false (.ref ed) (.int g t) = operate [.ref ed, .int g t] (getItem (.ref ed) (.int g t)) := by with_unfolding_all rfl) :
    wpAny (model PySem.Challenge.rw_rh0207_01.row.prog w) A (subscriptTail value slice (.ref ed) (.int g t)) Q E s := by
  obtain ⟨kvs, hI, hk⟩ := hE.mono hs
  rcases hk g with ⟨a, b⟩ | ⟨r, q, e, t', u, a, b, c⟩
  · rw [a] at hg; cases hg
  · exact item_I N hI b (h _ _ ⟨r, q, e, t', u, a, rfl, c⟩) hs'
end
theorem WorldAt.mono {news news' : List (Addr × Obj)} {wd n rd ed : Addr} (h : WorldAt news wd n rd ed) (hs : ∀ q ∈ news, q ∈ news') : WorldAt news' wd n rd ed := by
  obtain ⟨dw, k, h1, t1, h2, t2, h3, t3, h4, t4, h5, t5, t5', h6, t6, h7, t7, w3, w6, w7, mn, md⟩ := h
  exact ⟨dw, k, h1, t1, h2, t2, h3, t3, h4, t4, h5, t5, t5', h6, t6, h7, t7, w3, w6, w7, hs _ mn, hs _ md⟩
theorem TableOk.mono {w : World} {p : Program} {loose : List Str} {mean : ExcName → Option Value} {mg mb : Str → Option Value} {news news' : List (Addr × Obj)} {f hp : Addr} (h : TableOk w p loose mean mg mb news f hp) (hs : ∀ q ∈ news, q ∈ news') : TableOk w p loose mean mg mb news' f hp :=
  fun dp un gd cn cs a ccd cl outer A₀ base h₀ L m s Q E news'' B F X N hs' => h dp un gd cn cs a ccd cl outer A₀ base h₀ L m s Q E news'' B F X N fun q hq => hs' _ (hs _ hq)
theorem RouterAt.mono {w : World} {p : Program} {loose : List Str} {mean : ExcName → Option Value} {mg mb : Str → Option Value} {news news' : List (Addr × Obj)} {x hp : Addr} (h : RouterAt w p loose mean mg mb news x hp) (hs : ∀ q ∈ news, q ∈ news') : RouterAt w p loose mean mg mb news' x hp := by
  obtain ⟨dx, k', g1, s1, x1, g2, s2, x2, g3, s3, x3, g4, s4, x4, g5, s5, x5, g6, s6, x6, g7, s7, f, mx, mdx, ⟨fd, mf⟩, hT⟩ := h
  exact ⟨dx, k', g1, s1, x1, g2, s2, x2, g3, s3, x3, g4, s4, x4, g5, s5, x5, g6, s6, x6, g7, s7, f, hs _ mx, hs _ mdx, ⟨fd, hs _ mf⟩, hT.mono hs⟩
section
variable {w : World} {p : Program} {loose : List Str} {mean : ExcName → Option Value} {mg mb : Str → Option Value} {news₀ news : List (Addr × Obj)} {wd n rd ed x hp : Addr} {kvs : List (Int × Value)} {ps1 ps2 : List (Int × Int)} {cns : List Int} {name addr i g : Int} {tn ta ti tg : Tok}
  {dp un : Nat} {gd : Option (List Code)} {cn : Str} {cs : Scope} {a : Addr} {ccd : Value} {cl : List (Str × Addr)} {outer : List Env} {A₀ : Around} {base h₀ : Heap} {L : Addr} {m : Str → Option Value} {s : Shared} {Q E : Value → Shared → Prop}
theorem route_of_C (B : Below A₀ base outer h₀) (F : Fr h₀ L s.heap m) (X : (hd.heap_39 w.params).In h₀) (T : Top p loose mean mg mb h₀) (N : News h₀ L s.heap news) (hk : cs.kind = .function) (hs : ∀ q ∈ news₀, q ∈ news)
  (hW : WorldAt news₀ wd n rd ed) (hI : IDict PySem.Challenge.rw_rh0207_01.row.prog w news₀ rd kvs) (hv : valueAt kvs name = some (.ref x)) (hR : RouterAt w p loose mean mg mb news₀ x hp) (ha0 : 0 ≤ addr) (ha1 : addr < 256)
  (hdp : dp + 50 < recursionLimit) (hu : un + 500 < cLine)
  (hret : ∀ r z hs t1 t2 t3 t4 h' tk', Fr h₀ L h' m → News h₀ L h' ((r, tupO [.ref z, .str (Str.ofString "intra") t1, .int 1 t2, .int 0 t3, .int 0 t4, .ref hs]) :: (hs, tupO [.ref hp]) :: news) → (∀ q ∈ news, q.1 < hs) → (∀ q ∈ news, q.1 < r) → Q (.ref r) { s with heap := h', toks := tk' }) :
  wpAny (model PySem.Challenge.rw_rh0207_01.row.prog w) (ktrTop dp un gd cn cs L a ccd cl outer) (call (.ref 82) [.ref wd, .int name tn, .int addr ta]) Q E s :=
  route_of_ct B F T N hk (hW.mono hs) (hI.mono hs) hv (hR.mono hs) ha0 ha1 hdp hu hret X
theorem neighbours_C (B : Below A₀ base outer h₀) (F : Fr h₀ L s.heap m) (X : (hd.heap_39 w.params).In h₀) (T : Top p loose mean mg mb h₀) (N : News h₀ L s.heap news) (hk : cs.kind = .function) (hs : ∀ q ∈ news₀, q ∈ news)
  (hW : WorldAt news₀ wd n rd ed) (hN : NetOk w news₀ n ps1 ps2 cns) (hE : EndsOk w news₀ ed) (hh : (hp, tupO [.int i ti, .int g tg]) ∈ news₀)
  (hdp : dp + 30 < recursionLimit) (hu : un + 300 < cLine)
  (hret : ∀ D vs h' tk', ((nbO ps1 ps2 cns name i g addr = none ∧ vs = []) ∨ ∃ r t, nbO ps1 ps2 cns name i g addr = some r ∧ vs = [.int r t]) → Fr h₀ L h' m → News h₀ L h' ((D, tupO vs) :: news) → (∀ q ∈ news, q.1 < D) → Q (.ref D) { s with heap := h', toks := tk' }) :
  wpAny (model PySem.Challenge.rw_rh0207_01.row.prog w) (ktrTop dp un gd cn cs L a ccd cl outer) (call (.ref 89) [.ref wd, .int name tn, .ref hp, .int addr ta]) Q E s :=
  neighbours_ct B F T N hk (hW.mono hs) (hN.mono hs) (hE.mono hs) (hs _ hh) hdp hu (fun D t h' tk' F' N' l => hret D _ h' tk' (by
    cases nbO ps1 ps2 cns name i g addr with
    | none => exact .inl ⟨rfl, rfl⟩
    | some r => exact .inr ⟨r, t, rfl, rfl⟩) F' N' l) X
end

theorem notin_nil {prog : Program} {w : World} {A : Around} {E : Value → Shared → Prop} {s : Shared} {h₀ : Heap} {L : Addr} {news : List (Addr × Obj)} {l : Addr} {n : Nat} {k : Int} {t : Tok} {Q : Value → Shared → Prop} (N : News h₀ L s.heap news) (hl : (l, W.listOf #[] n) ∈ news) (h : Q (.bool true) s) : wpAny (model prog w) A (compareOp .NotIn (.int k t) (.ref l)) Q E s := notin_ints (vs := []) N hl IntsAre.nil h

theorem allLt_ne {I : Addr} {l : List (Addr × Obj)} (h : AllLt I l) : ∀ p ∈ l, p.1 ≠ I := fun p hp => Nat.ne_of_lt (allLt_back h p hp)
theorem unr_mid1 {h₀ : Heap} {L I : Addr} {it : Obj} {rest : (Str → Option Value) → List (Addr × Obj) → Prop} {s₁ : Shared} {h' : Heap} {tk : Nat} {m' : Str → Option Value} {a : Addr × Obj} {post : List (Addr × Obj)} (F : Fr h₀ L h' m') (N : News h₀ L h' (a :: (I, it) :: post))
    (ha : a.1 ≠ I) (hp : ∀ p ∈ post, p.1 ≠ I) (r : rest m' (a :: post)) : UnrEnd h₀ L s₁ I it rest { s₁ with heap := h', toks := tk } :=
  UnrEnd.intro F N (a :: post) (fun p h => by
    rcases List.mem_cons.mp h with rfl | h
    · exact .tail _ (.head _)
    · rcases List.mem_cons.mp h with rfl | h
      · exact .head _
      · exact .tail _ (.tail _ h)) (fun p h => by
    rcases List.mem_cons.mp h with rfl | h
    · exact ha
    · exact hp p h) r
section
variable {ps1 ps2 : List (Int × Int)} {cns : List Int} {name i g addr r q : Int} {n : List Int} {v : List Value}
noncomputable def HereIf (name addr g : Int) : Prop := (∃ q, endO addr = some (name, q)) ∨ (g = 0 ∧ (endO addr).isSome = false)
noncomputable def NbIs (ps1 ps2 : List (Int × Int)) (cns : List Int) (name i g addr : Int) (vs : List Value) : Prop := (nbO ps1 ps2 cns name i g addr = none ∧ vs = []) ∨ ∃ r t, nbO ps1 ps2 cns name i g addr = some r ∧ vs = [.int r t]
theorem at_1 (e : endO addr = some (r, q)) (h : r = name) : true = true ↔ ∃ q, endO addr = some (name, q) := ⟨fun _ => ⟨q, by rw [e, h]⟩, fun _ => rfl⟩
theorem at_2 (e : endO addr = some (r, q)) (h : r ≠ name) : false = true ↔ ∃ q, endO addr = some (name, q) := ⟨fun f => (nomatch f), fun ⟨q', e'⟩ => by rw [e] at e'; exact (h (Prod.mk.inj (Option.some.inj e')).1).elim⟩
theorem at_3 (e : (endO addr).isSome = false) : false = true ↔ ∃ q, endO addr = some (name, q) := ⟨fun f => (nomatch f), fun ⟨q', e'⟩ => by rw [e'] at e; cases e⟩
theorem link_1 (h : g = 0) : (!(endO addr).isSome) = true ↔ g = 0 ∧ (endO addr).isSome = false := ⟨fun e => ⟨h, by cases z : (endO addr).isSome with | true => rw [z] at e; cases e | false => rfl⟩, fun e => by rw [e.2]; rfl⟩
theorem link_2 {b : Bool} (h : g ≠ 0) : (g == 0) = true ↔ g = 0 ∧ b = false := ⟨fun e => (h (eq_of_beq e)).elim, fun e => (h e.1).elim⟩
theorem nothere {b9 bl : Bool} (h1 : b9 = true ↔ ∃ q, endO addr = some (name, q)) (e1 : b9 = false) (h2 : bl = true ↔ g = 0 ∧ (endO addr).isSome = false) (e2 : bl = false) : ¬ HereIf name addr g := by
  rintro (h | h)
  · rw [h1.mpr h] at e1; cases e1
  · rw [h2.mpr h] at e2; cases e2
theorem vs_nil (h : IntsAre v n) (p : n.Perm []) (e : nbO ps1 ps2 cns name i g addr = none) : NbIs ps1 ps2 cns name i g addr v := by
  have := p.eq_nil; subst this
  cases v with
  | nil => exact .inl ⟨e, rfl⟩
  | cons a b => cases h
theorem vs_one (h : IntsAre v n) (p : n.Perm [r]) (e : nbO ps1 ps2 cns name i g addr = some r) : NbIs ps1 ps2 cns name i g addr v := by
  have := List.perm_singleton.mp p; subst this
  cases h with
  | cons n t hr => cases hr; exact .inr ⟨_, t, e, rfl⟩
end
theorem next_of_ct {w : World} {p : Program} {loose : List Str} {mean : ExcName → Option Value} {mg mb : Str → Option Value} {news : List (Addr × Obj)} {wd n rd ed x hp : Addr} {kvs : List (Int × Value)} {ps1 ps2 : List (Int × Int)} {cns : List Int} {name addr i g : Int} {tn ta ti tg : Tok}
  {dp un : Nat} {gd : Option (List Code)} {cn : Str} {cs : Scope} {a : Addr} {ccd : Value} {cl : List (Str × Addr)} {outer : List Env} {A₀ : Around} {base h₀ : Heap} {L : Addr} {m : Str → Option Value} {s : Shared} {Q E : Value → Shared → Prop}
  (B : Below A₀ base outer h₀) (F : Fr h₀ L s.heap m) (T : Top p loose mean mg mb h₀) (N : News h₀ L s.heap news) (hk : cs.kind = .function)
  (hW : WorldAt news wd n rd ed) (hN : NetOk w news n ps1 ps2 cns) (hE : EndsOk w news ed) (hI : IDict PySem.Challenge.rw_rh0207_01.row.prog w news rd kvs) (hv : valueAt kvs name = some (.ref x)) (hR : RouterAt w p loose mean mg mb news x hp) (hh : (hp, tupO [.int i ti, .int g tg]) ∈ news)
  (ha0 : 0 ≤ addr) (ha1 : addr < 256)
  (hdp : dp + 100 < recursionLimit) (hu : un + 1000 < cLine)
  (hretH : ∀ h' tk', HereIf name addr g → Fr h₀ L h' m → News h₀ L h' news → Q (.str (Str.ofString "here") 196) { s with heap := h', toks := tk' })
  (hretT : ∀ D vs h' tk', NbIs ps1 ps2 cns name i g addr vs → ¬ HereIf name addr g → Fr h₀ L h' m → News h₀ L h' ((D, tupO vs) :: news) → Q (.ref D) { s with heap := h', toks := tk' }) :
  (hd.heap_39 w.params).In h₀ →
  wpAny (model PySem.Challenge.rw_rh0207_01.row.prog w) (ktrTop dp un gd cn cs L a ccd cl outer) (call (.ref 94) [.ref wd, .int name tn, .int addr ta]) Q E s := by
  w_top off
  k_with_none
  k_with "ne" => first | assumption | (refine neN ?_; (try dsimp only); first | assumption | exact Nat.ne_of_lt (lt_mem (by assumption) (by k_mem)) | exact Nat.ne_of_gt (lt_mem (by assumption) (by k_mem)) | exact Nat.ne_of_gt (lt_mem2 (by assumption) (by assumption) (by k_mem)) | exact And.left (by assumption) | exact Ne.symm (And.left (by assumption)) | exact And.left (And.right (by assumption)) | exact Ne.symm (And.left (And.right (by assumption))) | exact And.left (And.right (And.right (by assumption))) | exact Ne.symm (And.left (And.right (And.right (by assumption)))) | exact And.left (And.right (And.right (And.right (by assumption)))) | exact Ne.symm (And.left (And.right (And.right (And.right (by assumption))))) | exact And.left (And.right (And.right (And.right (And.right (by assumption))))) | exact Ne.symm (And.left (And.right (And.right (And.right (And.right (by assumption)))))) | exact Ne.symm (And.left (And.right (And.right (And.right (And.right (And.right (by assumption)))))))  | exact Ne.symm (And.left (And.right (And.right (And.right (And.right (And.right (And.right (by assumption)))))))) | omega)
  k_with "all" => first | assumption | exact List.forall_mem_nil _ | (refine' List.forall_mem_cons.mpr ⟨?a, ?b⟩; (case a => k_ne); (case b => k_all)) | exact lt_ne (by assumption) | exact lt_ne_succ (by assumption) | exact fun p hp => Nat.ne_of_lt (lt_at (by assumption) (by k_mem))
  k_with "mem" => first | assumption | exact List.Mem.head _ | (refine' List.Mem.tail _ ?_; k_mem)
  k_with "room" => first | exact lim2 (by assumption) (Nat.le_of_ble_eq_true rfl) | exact lim1 (by assumption) (Nat.le_of_ble_eq_true rfl) | exact lim0 (by assumption)
  k_with "compareOp In int ref" => (k_here; k_dflt (refine ends_in (by k_asm) (by assumption) (fun q hq => by k_mem) ?_); intro tk9')
  k_with "compareOp NotIn int ref" => (k_here; k_dflt (refine ends_notin (by k_asm) (by assumption) (fun q hq => by k_mem) ?_); intro tk9')
  k_with "subscriptTail" => (k_here; (with_reducible show wpAny _ _ (subscriptTail _ _ (Value.ref _) (Value.int _ _)) _ _ _); k_dflt (refine ends_item (by k_asm) (by assumption) (fun q hq => by k_mem) (by assumption) ?_); intro v9' tk9' h9'; (obtain ⟨r9', q9', a9', t9', u9', e9', f9', m9'⟩ := h9'); subst f9')
  k_with "call ref" => (k_here; (with_reducible show wpAny _ _ (call (Value.ref 82) [Value.ref _, Value.int _ _, Value.int _ _]) _ _ _); k_dflt (refine' route_of_C ?B ?F ?X ?T ?N ?hk ?hs ?hW ?hI ?hv ?hR ?a0 ?a1 ?hd ?hu ?_; (case B => k_asm); (case F => k_asm); (case X => k_asm); (case T => k_asm); (case N => k_asm); (case hk => exact rfl); (case hW => assumption); (case hs => exact fun q hq => by k_mem); (case hI => assumption); (case hv => assumption); (case hR => assumption); (case a0 => assumption); (case a1 => assumption); (case hd => ktr_room); (case hu => ktr_units); k_whole); intro r' z' hs' t1' t2' t3' t4' h' tk' F' N' o1' o2'; (try k_lt o1'); (try k_lt o2'); (try k_sweep))
  k_with "call ref" => (k_here; (with_reducible show wpAny _ _ (call (Value.ref 89) [Value.ref _, Value.int _ _, Value.ref _, Value.int _ _]) _ _ _); k_dflt (refine' neighbours_C ?B ?F ?X ?T ?N ?hk ?hs ?hW ?hN ?hE ?hh ?hd ?hu ?_; (case B => k_asm); (case F => k_asm); (case X => k_asm); (case T => k_asm); (case N => k_asm); (case hk => exact rfl); (case hW => assumption); (case hs => exact fun q hq => by k_mem); (case hN => assumption); (case hE => assumption); (case hh => assumption); (case hd => ktr_room); (case hu => ktr_units); k_whole); intro D' vs' h' tk' hv' F' N' l1; (try k_lt l1); (try k_sweep))
  k_with "exec For" => (k_here; (rename Fr _ _ _ _ => lF'); (with_unfolding_all refine' For_invVF lF' ?k1 ?k2 ?_; (case k1 => exact rfl); (case k2 => exact rfl); k_whole))
  k_with "pyIter ref" => (k_here; (with_reducible show wpAny _ _ (pyIter (Value.ref _)) (fun it s₂ => LoopAtV _ _ _ _ _ _ _ _ _ it s₂) _ _); k_dflt (refine iter_tup (by exact rfl) (by k_asm) (by k_asm) (by k_mem) ?_); intro I' lI'; have lA9 := allLt_of lI'; dsimp only [AllLt] at lA9)
  k_with "TRest" => (with_unfolding_all first | (refine TRest.turn (fun it' h' tk' F' N' => ?_)) | (refine TRest.done (fun h' tk' F' N' => ?_)))
  k_with "eval ListComp" => (k_here; k_dflt (refine comp_T (by k_asm) (by with_unfolding_all rfl) (by decide) (by rfl) (by decide) (by rfl) ?_))
  k_with "pyIter ref" => (k_here; (with_reducible show wpAny _ _ (pyIter (Value.ref _)) (SrcW _ _ _ _ _ _ _) _ _); k_dflt (refine src_tup (by exact rfl) (by k_asm) (by k_asm) (by k_mem) (Nat.le_of_ble_eq_true rfl) ?_); intro h9'; (try dsimp only))
  k_with "CompRestT" => (with_unfolding_all first
    | (refine LCt.CompRestT.succ ?_; intro v' I' oI' C' oC' D' m' h' tk' E' hv' hC' hx' F' N' off' ne'; lcg_open hv')
    | refine LCt.CompRestT.zero ?_)
  k_with "CompEnd" => (k_dflt (refine LCg.CompEnd.intro (by k_asm) (by k_asm) _ (fun _ h9 => h9) (by assumption) (by k_mem) ?_))
  k_with "compareOp NotIn int ref" => (k_here; k_dflt (refine notin_nil (by k_asm) (by k_mem) ?_))
  k_with "UnrEnd" => (k_dflt (refine unr_mid1 (by k_asm) (by k_asm) (by k_ne) (allLt_ne (by assumption)) ⟨by k_mem, ?_⟩))
  k_with "isTrue BoolOp" => (k_here; (fail_if_success (rename Mark => z9)); refine held ?_)
  k_with "eval BoolOp" => (k_here; (fail_if_success (rename Mark => z9)); refine held ?_)
  k_with "exec Expr" => (k_here; (fail_if_success (rename Mark => z9)); refine held ?_)
  k_fill
  intro X
  have hW2 := hW
  obtain ⟨dw, k, h1, t1, h2, t2, h3, t3, h4, t4, h5, t5, t5', h6, t6, h7, t7, w3, w6, w7, mn, md⟩ := hW2
  refine wpAny_call ?_
  k_dflt (refine' code_defC (binds := [(Str.ofString "self", .ref wd), (Str.ofString "name", .int name tn), (Str.ofString "address", .int addr ta)]) ?k1 ?k2 ?k3 ?k4 ?k5 ?kA ?kF ?kK ?k6 ?k7 ?k8 ?k9 ?kB ?kD ?_ ?c2 ?c3 ?c4; (case kA => exact rfl); (case kF => exact rfl); (case kK => assumption); (case k1 => k_asm); (case k2 => k_asm); (case k3 => k_asm); (case k4 => k_asm); (case k5 => k_asm); (case k6 => k_is); (case k7 => k_is); (case k8 => ktr_room); (case k9 => exact BindsTo.of_eq rfl); (case kB => exact rfl); (case kD => decide +kernel); (case c2 => exact rfl); (case c3 => exact rfl); (case c4 => exact rfl); k_whole; intro g' L' h' tk' cells' FG' F' N' Y' B' X' T' l1)
  replace F' := fr_eq F' (m' := fun y => if y = Str.ofString "address" then some (.int addr ta) else if y = Str.ofString "name" then some (.int name tn) else if y = Str.ofString "self" then some (.ref wd) else none) rfl
  obtain ⟨o', hE', d1'⟩ := CellsAre.one Y'
  subst hE'
  clear Y'
  have d2' : o'.data = .cell none := d1'
  clear d1'
  simp only [List.cons_append, List.nil_append] at N'
  dsimp only
  try k_lift B'
  show wpAny _ _ _ _ _ _
  k_fold
  k_steps
  unfold Held
  refine cutB (P := fun b => b = true ↔ ∃ q, endO addr = some (name, q)) ?h ?k
  case h =>
    intro Q9 E9 k9
    have mark9 := mark
    k_steps
    · exact k9 _ _ (at_1 (by assumption) (by assumption))
    · exact k9 _ _ (at_2 (by assumption) (by assumption))
    · exact k9 _ _ (at_3 (by assumption))
  case k =>
    intro b9 tk9 hb9
    dsimp only
    k_steps
    · exact hretH _ _ (.inl (hb9.mp (by assumption))) (by k_asm) (cb_drop (by k_asm) (fun q hq => .tail _ hq))
    · unfold Held
      refine cutL (P := fun o => ∃ k, o = W.listOf vs'.toArray k) (f := Flow.next) (pre := [_, _, _]) (by k_asm) (by k_asm) ?h ?k
      case h =>
        intro s9 Q9 E9 F9 N9 k9
        have mark9 := mark
        k_sweep
        dsimp only [List.cons_append, List.nil_append] at N9
        rcases hv' with ⟨e9', f9'⟩ | ⟨r9', t9', e9', f9'⟩ <;> subst f9'
        · k_steps
          exact k9 _ _ _ ⟨_, rfl⟩ (by k_asm) (cb_drop (by k_asm) (fun q hq => .tail _ hq))
        · k_steps
          exact k9 _ _ _ ⟨_, rfl⟩ (by k_asm) (cb_drop (by k_asm) (fun q hq => .tail _ hq))
      case k =>
        intro o9 h9 tk9 e9 F9 N9
        dsimp only
        dsimp only [List.cons_append, List.nil_append] at N9
        obtain ⟨kk9, f9⟩ := e9
        subst f9
        k_sweep
        k_steps
        unfold Held
        refine cutV (P := fun v => ∃ b, v = .bool b ∧ (b = true ↔ g = 0 ∧ (endO addr).isSome = false)) ?h ?k
        case h =>
          intro Q9 E9 k9
          have mark9 := mark
          k_steps
          · exact k9 _ _ ⟨_, rfl, link_1 (by assumption)⟩
          · exact k9 _ _ ⟨_, rfl, link_2 (by assumption)⟩
        case k =>
          intro v9 tk9 hv9
          obtain ⟨bl, f9, hbl⟩ := hv9
          subst f9
          dsimp only
          k_steps
          · exact hretH _ _ (.inr (hbl.mp (by assumption))) (by k_asm) (cb_drop (by k_asm) (fun q hq => by k_mem))
          · have hn := nothere hb9 (by assumption) hbl (by assumption)
            rcases hv' with ⟨e9', f9'⟩ | ⟨r9', t9', e9', f9'⟩ <;> subst f9'
            · k_steps
              refine hretT _ _ _ _ (vs_nil (by assumption) (by assumption) e9') hn (by k_asm) (cb_drop (by k_asm) (sub_mono (fun q hq => by k_mem)))
            · k_steps
              refine hretT _ _ _ _ (vs_one (by assumption) (by assumption) e9') hn (by k_asm) (cb_drop (by k_asm) (sub_mono (fun q hq => by k_mem)))
end
-- part D2
section
open PySem PySem.W PySem.Spec PySem.Calls PyProof.Rows PySem.SeqAt
set_option linter.all false
set_option maxRecDepth 100000
set_option maxHeartbeats 8000000
section
variable {prog : Program} {w : World} {A : Around} {E : Value → Shared → Prop} {s : Shared}
theorem list_no_keys : typeLookup (.type "list") "keys" = pure none := by rw [typeLookup_type, builtinLookup_eq_fast]; kernel_rfl
theorem miss_by {a : Addr} {o : Obj} {xs : Array Value} {k : Nat} {u : Tok} {Q : Value → Shared → Prop}
    (hx : s.heap.get? a = some o) (hc : o.cls = .type "list") (hdat : o.data = .seq xs k) (hd : o.dict = none) (hA : A.handled = none)
    (h : ∀ h' tk e, Heap.NewAttrErr s.heap h' e (.ref a) "keys" → E (.ref e) { s with heap := h', toks := tk }) :
    wpAny (model prog w) A (getAttrBy (.ref a) (.str "keys" u) false) Q E s := by
  obtain ⟨c, dct, dat, sl⟩ := o
  simp only at hc hdat hd
  subst hc hdat hd
  obtain ⟨hp, g, d, tk, os⟩ := s
  have hT : ∀ tk', (⟨hp, g, d, tk', os⟩ : Shared).TypeIs (.ref a) "list" := fun _ => ⟨_, hx, rfl⟩
  have f1 := sub_AttributeError
  have f3 := F.slot_list_getattribute.lookup
  have f4 := F.slot_list_getattribute.bind (.ref a)
  have f5 := am_list_getattr_none
  unfold getAttrBy
  repeat (any_goals (first | assumption | exact hT _ | ((with_reducible show wpAny _ _ (call (Value.builtin "list.__getattribute__") _ _) _ _ _); refine call_meets F.slot_list_getattribute (hT _) am_entry_list_getattribute (F.args_list_getattribute_2 _ _) (meets_getattribute_miss_list a xs k sl "keys" _ list_no_keys (by decide +kernel) (by decide +kernel)) ⟨hx, hA, fun h' tk' e hx' => ?_⟩) | wp_step))
  obtain ⟨t', u', he⟩ := hx'.there
  show wpAny _ _ (getattributeRaised _ _ _ _ _ _ _) _ _ _
  unfold getattributeRaised
  repeat (any_goals (first | assumption | wp_step))
  exact h _ _ _ hx'
theorem miss_keys {a : Addr} {o : Obj} {xs : Array Value} {k : Nat} {Q : Option Value → Shared → Prop}
    (hx : s.heap.get? a = some o) (hc : o.cls = .type "list") (hdat : o.data = .seq xs k) (hd : o.dict = none) (hA : A.handled = none)
    (h : ∀ h' tk, (∀ b ob, s.heap.get? b = some ob → h'.get? b = some ob) → Q none { s with heap := h', toks := tk }) :
    wpAny (model prog w) A (getAttr? (.ref a) "keys") Q E s := by
  obtain ⟨hp, g, d, tk, os⟩ := s
  have f1 := sub_AttributeError
  unfold getAttr? getAttrBy?
  repeat (any_goals (first | assumption | ((with_reducible show wpAny _ _ (getAttrBy _ _ _) _ _ _); refine miss_by hx hc hdat hd hA (fun h' tk' e hx' => ?_)) | wp_step))
  obtain ⟨t', u', he⟩ := hx'.there
  repeat (any_goals (first | assumption | wp_step))
  exact h _ _ hx'.keeps
theorem entry_upd : entryFor table "dict.update.loop" = some Builtin.«dict.update.loop» := entryFor_of_tree (by kernel_rfl)
theorem plain_upd : plainId "dict.update.loop" = true := by decide +kernel
noncomputable def Keeps2 (d I : Addr) (h h' : Heap) : Prop := ∀ b o, b ≠ d → b ≠ I → h.get? b = some o → h'.get? b = some o
theorem upd_loop {R : Result → Shared → Prop} {I d : Addr} {fp : List Addr} {n : Nat} {P : Nat → Value → Prop} {St : Nat → Heap → Prop} (W : Walks prog w A.in1 I fp [I] n P St) (hdf : d ∉ fp) (hIf : I ∈ fp) (base : Heap) (D : Nat → Heap → Prop)
    (hframe : ∀ i h h', D i h → (∀ b o, b ≠ I → h.get? b = some o → h'.get? b = some o) → D i h')
    (hpair : ∀ i v, P i v → ∃ t o k x, v = .ref t ∧ t ≠ d ∧ t ≠ I ∧ base.get? t = some o ∧ o.cls = .type "tuple" ∧ o.data = .seq #[k, x] 0 ∧
      ∀ (s : Shared) (Q : Unit → Shared → Prop) (E : Value → Shared → Prop), Keeps2 d I base s.heap → D i s.heap → (∀ h' tk, D (i + 1) h' → Heap.SameBut d s.heap h' → Q () { s with heap := h', toks := tk }) → wpAny (model prog w) A.in1 (dictSet d k x) Q E s) :
    ∀ (k i : Nat) (tq : Tok) (s : Shared), n - i = k → i ≤ n → St i s.heap → Keeps2 d I base s.heap → D i s.heap →
      (∀ h' tk, Keeps2 d I base h' → D n h' → R (.ok (.ret .none)) { s with heap := h', toks := tk }) →
      codeAny (model prog w) A (.builtin "dict.update.loop" ⟨[.ref d, .ref I, .int i tq, .none], []⟩) R s := by
  intro k
  induction k with
  | zero =>
    intro i tq s hk hi hst hK hD hR
    have hin : i = n := Nat.le_antisymm hi (Nat.le_of_sub_eq_zero hk)
    subst hin
    refine codeAny_builtin entry_upd ?_
    rw [Around.under_plainId plain_upd _]
    show wpAny _ A.in1 (pyNext (.ref I) >>= _) _ _ s
    refine wpAny_bind (W.done s _ _ hst fun h' tk hm => ?_)
    show wpAny _ A.in1 (Builtin.Dict.addKeywords d [] >>= fun _ => ret Value.none) _ _ _
    refine wpAny_bind ?_
    unfold Builtin.Dict.addKeywords
    refine wpAny_pure (wpAny_pure ?_)
    refine hR h' tk (fun b o hb1 hb2 e => hm b o (fun e' => hb2 (List.mem_singleton.mp e')) (hK b o hb1 hb2 e)) (hframe _ _ _ hD fun b o hb e => hm b o (fun e' => hb (List.mem_singleton.mp e')) e)
  | succ k ih =>
    intro i tq s hk hi hst hK hD hR
    have hlt : i < n := Nat.lt_of_sub_pos (by rw [hk]; exact Nat.succ_pos k)
    refine codeAny_builtin entry_upd ?_
    rw [Around.under_plainId plain_upd _]
    show wpAny _ A.in1 (pyNext (.ref I) >>= _) _ _ s
    refine wpAny_bind (W.item i s _ _ hlt hst fun v h' tk hP hst' hm => ?_)
    obtain ⟨t, o, kk, x, rfl, htd, htI, ht, hc, hd, hstep⟩ := hpair i v hP
    have hK' : Keeps2 d I base h' := fun b o hb1 hb2 e => hm b o (fun e' => hb2 (List.mem_singleton.mp e')) (hK b o hb1 hb2 e)
    have hD' : D i h' := hframe _ _ _ hD fun b o hb e => hm b o (fun e' => hb (List.mem_singleton.mp e')) e
    have ht' := hK' t o htd htI ht
    show wpAny _ A.in1 (holding [Value.ref t] _ >>= _) _ _ _
    refine wpAny_bind (wpAny_holding ?_)
    refine wpAny_bind (wpAny_tryCatch ?_)
    have hT : ({ s with heap := h', toks := tk } : Shared).TypeIs (.ref t) "tuple" := ⟨o, ht', hc⟩
    unfold Builtin.Dict.pairItems
    refine wpAny_bind (wpAny_typeOf hT ?_)
    rw [if_pos (by decide)]
    refine wpAny_bind (wpAny_seqItems ht' hd (wpAny_pure ?_))
    show wpAny _ A.in1 (holding [kk, x] (dictSet d kk x)) _ _ _
    refine wpAny_holding (hstep _ _ _ hK' hD' fun h'' tk'' hD'' hsb => ?_)
    refine wpAny_pure ⟨plainId_quiet plain_upd _, ?_⟩
    have hn : ((i : Int) + 1) = ((i + 1 : Nat) : Int) := rfl
    show codeAny _ A (.builtin "dict.update.loop" ⟨[.ref d, .ref I, .int ((i : Int) + 1) _, .none], []⟩) R _
    rw [hn]
    refine ih (i + 1) _ _ (by rw [Nat.sub_add_eq, hk]; rfl) hlt (W.frame _ h' _ hst' fun b hb o e => ?_) (fun b o hb1 hb2 e => ?_) hD'' fun h3 tk3 => hR h3 tk3
    · show h''.get? b = some o
      rw [hsb.2 b (fun e' => hdf (e' ▸ hb))]; exact e
    · show h''.get? b = some o
      rw [hsb.2 b hb1]; exact hK' b o hb1 hb2 e
variable {h₀ : Heap} {L : Addr} {m : Str → Option Value} {news : List (Addr × Obj)}
theorem get_other {h : Heap} {o : Obj} {b : Addr} {ob : Obj} (e : h.get? b = some ob) : (h.push o).get? b = some ob := Heap.get?_push_of_some _ e
theorem dict_pairs {l : Addr} {vs : List Value} {c : Nat} {Q : Value → Shared → Prop} (D : Nat → Obj → Prop) (hh : A.handled = none) (F : Fr h₀ L s.heap m) (N : News h₀ L s.heap news) (hm : (l, W.listOf vs.toArray c) ∈ news) (hbig : h₀.NoLimit)
    (h0 : D 0 { cls := .type "dict", data := .dict #[] })
    (hpair : ∀ i v, vs[i]? = some v → ∃ t k x, v = .ref t ∧ (t, tupO [k, x]) ∈ news ∧
      ∀ (d : Addr) (od : Obj) (s : Shared) (Q : Unit → Shared → Prop) (E : Value → Shared → Prop), News h₀ L s.heap news → s.heap.get? d = some od → D i od → (∀ h' tk od', h'.get? d = some od' → D (i + 1) od' → Heap.SameBut d s.heap h' → Q () { s with heap := h', toks := tk }) → wpAny (model prog w) A.in1.in1 (dictSet d k x) Q E s)
    (h : ∀ d od h' tk, Fr h₀ L h' m → News h₀ L h' ((d, od) :: news) → (∀ q ∈ news, q.1 < d) → (d == sysModules) = false → D vs.length od → Q (.ref d) { s with heap := h', toks := tk }) :
    wpAny (model prog w) A (call (.type "dict") [.ref l]) Q E s := by
  refine callType_codes (Q₁ := fun obj s₁ => obj = .ref s.heap.objs.size ∧ s₁ = { s with heap := s.heap.push { cls := .type "dict", data := .dict #[] } }) PySem.F.kt_called_dict (PySem.F.kt_typeCall_dict_1 _) PySem.F.entry_dict_init (kt_code_dict_new _ ⟨rfl, rfl⟩) ?_
  rintro obj s₁ ⟨rfl, rfl⟩
  have below : ∀ p ∈ news, p.1 < s.heap.objs.size := fun p hp => Heap.lt_size (N p hp).1
  have hTd : ({ s with heap := s.heap.push { cls := .type "dict", data := .dict #[] } } : Shared).TypeIs (.ref s.heap.objs.size) "dict" := ⟨_, Heap.get?_push_size _ rfl, rfl⟩
  have hl1 : (s.heap.push { cls := .type "dict", data := .dict #[] }).get? l = some (W.listOf vs.toArray c) := get_other (N _ hm).1
  refine ⟨hTd, PySem.F.args_dict_init_2 _ _, ?_⟩
  unfold Builtin.«dict.__init__»
  refine wpAny_bind ?_
  unfold Builtin.Dict.selfAndRest
  refine wpAny_bind (wpAny_notOrdered_dict hTd ?_)
  show wpAny _ _ (pure (s.heap.objs.size, [Value.ref l])) _ _ _
  refine wpAny_pure ?_
  show wpAny _ _ (Builtin.Dict.updateFrom "dict.__init__" s.heap.objs.size (.ref l) [] .none) _ _ _
  unfold Builtin.Dict.updateFrom
  have hTl : ({ s with heap := s.heap.push { cls := .type "dict", data := .dict #[] } } : Shared).TypeIs (.ref l) "list" := ⟨_, hl1, rfl⟩
  refine wpAny_bind (wpAny_typeOf hTl ?_)
  rw [if_pos (by decide)]
  refine wpAny_bind (miss_keys (A := A.in1.in1) hl1 rfl rfl rfl hh fun h1 tk1 hk1 => ?_)
  show wpAny _ _ (rule _ >>= _) _ _ _
  refine wpAny_bind (wpAny_rule ?_)
  have hL1 : ({ s with heap := h1, toks := tk1 } : Shared).heap.IsList l vs.toArray := ⟨_, hk1 _ _ hl1, rfl, c, rfl⟩
  refine wpAny_bind (wpAny_pyIter_list hL1 ?_)
  have up1 : ∀ b o, s.heap.get? b = some o → h1.get? b = some o := fun b o e => hk1 _ _ (get_other e)
  have hd1 : h1.get? s.heap.objs.size = some { cls := .type "dict", data := .dict #[] } := hk1 _ _ (Heap.get?_push_size _ rfl)
  have hdlt : s.heap.objs.size < h1.objs.size := Heap.lt_size hd1
  have hllt : l < s.heap.objs.size := below _ hm
  have hne : l ≠ h1.objs.size := Nat.ne_of_lt (Nat.lt_trans hllt hdlt)
  have W1 := Walks.list (prog := prog) (w := w) (A := A.in1.in1) hh h1.objs.size l hne vs.toArray
  rw [List.size_toArray] at W1
  refine wpAny_pure ⟨plainId_quiet plain_upd _, ?_⟩
  have up2 : ∀ b o, s.heap.get? b = some o → (h1.push { cls := .type "list_iterator", data := .fields #[.ref l, .int 0 0] }).get? b = some o := fun b o e => get_other (up1 b o e)
  refine upd_loop (A := A.in1) W1 (d := s.heap.objs.size) ?_ (List.mem_cons_self ..) (h1.push { cls := .type "list_iterator", data := .fields #[.ref l, .int 0 0] }) (fun i h => ∃ od, h.get? s.heap.objs.size = some od ∧ D i od) ?_ ?_ vs.length 0 0 _ (Nat.sub_zero _) (Nat.zero_le _) ?_ ?_ ?_ ?_
  · intro hb
    rcases List.mem_cons.mp hb with e | hb
    · exact absurd hdlt (Nat.not_lt.mpr (Nat.le_of_eq e.symm))
    · exact absurd hllt (Nat.not_lt.mpr (Nat.le_of_eq (List.mem_singleton.mp hb)))
  · rintro i h h' ⟨od, e, hD⟩ hk
    exact ⟨od, hk _ _ (Nat.ne_of_lt hdlt) e, hD⟩
  · intro i v hv
    have hv' : vs[i]? = some v := by simpa using hv
    obtain ⟨t, k, x, rfl, ht, hstep⟩ := hpair i v hv'
    refine ⟨t, _, k, x, rfl, Nat.ne_of_lt (below _ ht), Nat.ne_of_lt (Nat.lt_trans (below _ ht) hdlt), up2 _ _ (N _ ht).1, rfl, rfl, ?_⟩
    rintro s₂ Q₂ E₂ hK ⟨od, hod, hD⟩ hQ
    refine hstep s.heap.objs.size od s₂ Q₂ E₂ (fun p hp => ⟨hK _ _ (Nat.ne_of_lt (below p hp)) (Nat.ne_of_lt (Nat.lt_trans (below p hp) hdlt)) (up2 _ _ (N p hp).1), (N p hp).2⟩) hod hD fun h' tk od' e' hD' hs => hQ h' tk ⟨od', e', hD'⟩ hs
  · exact ⟨⟨_, Heap.get?_push_size _ rfl, rfl, rfl⟩, ⟨_, get_other (hk1 _ _ hl1), rfl, c, rfl⟩⟩
  · exact fun b o _ _ e => e
  · exact ⟨_, get_other hd1, h0⟩
  · rintro h' tk hK ⟨od, hod, hD⟩
    have hLn : L ≠ s.heap.objs.size := Nat.ne_of_lt F.ns.lt
    have hLn' : L ≠ h1.objs.size := Nat.ne_of_lt (Nat.lt_trans F.ns.lt hdlt)
    have keep : ∀ b o, s.heap.get? b = some o → h'.get? b = some o := fun b o e => hK b o (Nat.ne_of_lt (Heap.lt_size e)) (Nat.ne_of_lt (Nat.lt_trans (Heap.lt_size e) hdlt)) (up2 b o e)
    have N1 := News.push F N { cls := .type "dict", data := .dict #[] }
    refine ⟨rfl, h s.heap.objs.size od h' tk (F.keeps keep) ?_ below (F.notModules (modules_low hbig)) hD⟩
    intro p hp
    rcases List.mem_cons.mp hp with rfl | hp
    · exact ⟨hod, (N1 _ (List.mem_cons_self ..)).2⟩
    · exact ⟨keep _ _ (N p hp).1, (N p hp).2⟩
theorem dict_pairs_I {l : Addr} {vs : List Value} {c : Nat} {kvs : List (Int × Value)} {Q : Value → Shared → Prop} (hh : A.handled = none) (F : Fr h₀ L s.heap m) (N : News h₀ L s.heap news) (hm : (l, W.listOf vs.toArray c) ∈ news) (hbig : h₀.NoLimit)
    (hlen : vs.length = kvs.length) (hsz : kvs.length ≤ sizeLine) (hn : (kvs.map (·.1)).Nodup) (hpair : ∀ (i : Nat) kv, kvs[i]? = some kv → ∃ t u, vs[i]? = some (.ref t) ∧ (t, tupO [.int kv.1 u, kv.2]) ∈ news)
    (h : ∀ d od h' tk, Fr h₀ L h' m → News h₀ L h' ((d, od) :: news) → (∀ q ∈ news, q.1 < d) → (∀ nw, (d, od) ∈ nw → IDict prog w nw d kvs) → Q (.ref d) { s with heap := h', toks := tk }) :
    wpAny (model prog w) A (call (.type "dict") [.ref l]) Q E s := by
  refine dict_pairs (fun i o => o.IsDictOf (intKind prog w) (kvs.take i)) hh F N hm hbig ⟨_, _, ⟨rfl, rfl, rfl⟩, rfl, ?_, .nil, by simp⟩ ?_ ?_
  · intro e he; simp at he
  · intro i v hv
    have hi : i < kvs.length := by rw [← hlen]; exact (List.getElem?_eq_some_iff.mp hv).1
    obtain ⟨t, u, e1, e2⟩ := hpair i kvs[i] (List.getElem?_eq_getElem hi)
    rw [hv] at e1; cases e1
    refine ⟨t, _, _, rfl, e2, fun d od s₂ Q₂ E₂ N₂ hod hD hQ => ?_⟩
    have hst : stored (kvs.take i) kvs[i].1 kvs[i].2 = kvs.take (i + 1) := by
      have hfresh : ¬ ((kvs.take i).any fun x => decide (x.1 = kvs[i].1)) = true := by
        rw [List.any_eq_true]; rintro ⟨x, hx, he⟩
        have := of_decide_eq_true he
        obtain ⟨j, hj, e⟩ := List.getElem_of_mem hx
        rw [List.length_take] at hj
        have hj1 : j < i := Nat.lt_of_lt_of_le hj (Nat.min_le_left ..)
        have hj2 : j < kvs.length := Nat.lt_of_lt_of_le hj (Nat.min_le_right ..)
        rw [List.getElem_take] at e
        have h1 : (kvs.map (·.1))[j]'(by simpa using hj2) = (kvs.map (·.1))[i]'(by simpa using hi) := by simp [e, this]
        exact Nat.ne_of_lt hj1 ((List.getElem_inj hn).mp h1)
      unfold stored
      rw [if_neg hfresh, List.take_add_one, List.getElem?_eq_getElem hi]; rfl
    refine wpAny_dictSet_pairs (intKind_is ..) (Heap.dictOf_iff.mpr ⟨od, hod, hD⟩) (fun h' hd' hs => ?_) (Nat.le_trans (by rw [List.length_take]; exact Nat.min_le_right ..) hsz)
    rw [hst] at hd'
    obtain ⟨o', ho', hd''⟩ := Heap.dictOf_iff.mp hd'
    exact hQ h' _ o' ho' hd'' hs
  · intro d od h' tk F' N' l1 lo hD
    rw [hlen, List.take_length] at hD
    exact h d od h' tk F' N' l1 fun nw hm => ⟨lo, od, hm, hD⟩
theorem dict_pairs_T {l : Addr} {vs : List Value} {c : Nat} {xs : List (List Int × Addr × Value)} {Q : Value → Shared → Prop} (hh : A.handled = none) (hu : A.units + 10 < cLine) (F : Fr h₀ L s.heap m) (N : News h₀ L s.heap news) (hm : (l, W.listOf vs.toArray c) ∈ news) (hbig : h₀.NoLimit)
    (hlen : vs.length = xs.length) (hsz : xs.length ≤ sizeLine) (hn : (xs.map (·.1)).Nodup) (hkey : ∀ x ∈ xs, ∃ ok, (x.2.1, ok) ∈ news ∧ TupKeyObj (intKind prog w) x.1 ok) (hpair : ∀ (i : Nat) x, xs[i]? = some x → ∃ t, vs[i]? = some (.ref t) ∧ (t, tupO [.ref x.2.1, x.2.2]) ∈ news)
    (h : ∀ d od h' tk, Fr h₀ L h' m → News h₀ L h' ((d, od) :: news) → (∀ q ∈ news, q.1 < d) → (∀ nw, (d, od) ∈ nw → (∀ x ∈ xs, ∃ ok, (x.2.1, ok) ∈ nw ∧ TupKeyObj (intKind prog w) x.1 ok) → TDict prog w nw d xs) → Q (.ref d) { s with heap := h', toks := tk }) :
    wpAny (model prog w) A (call (.type "dict") [.ref l]) Q E s := by
  refine dict_pairs (fun i o => ∃ es ep, o.ExactDict ∧ o.data = .dict es ep ∧ es.toList = (xs.take i).map (entryOfKey (tupleKind (intKind prog w)))) hh F N hm hbig ⟨_, _, ⟨rfl, rfl, rfl⟩, rfl, rfl⟩ ?_ ?_
  · intro i v hv
    have hi : i < xs.length := by rw [← hlen]; exact (List.getElem?_eq_some_iff.mp hv).1
    obtain ⟨t, e1, e2⟩ := hpair i xs[i] (List.getElem?_eq_getElem hi)
    rw [hv] at e1; cases e1
    refine ⟨t, _, _, rfl, e2, fun d od s₂ Q₂ E₂ N₂ hod hD hQ => ?_⟩
    obtain ⟨es, ep, hx, hd, he⟩ := hD
    have key : ∀ x ∈ xs, IsTupleKey (intKind prog w) s₂.heap x.1 x.2.1 := fun x hx => let ⟨ok, hm', t'⟩ := hkey x hx; t'.key (N₂.get hm')
    have hno : atKey (xs.take i) xs[i].1 = none := atKey_none_of_get fun j p hj => by
      have hj1 : j < (xs.take i).length := (List.getElem?_eq_some_iff.mp hj).1
      rw [List.length_take] at hj1
      have hj2 : j < i := Nat.lt_of_lt_of_le hj1 (Nat.min_le_left ..)
      rw [List.getElem?_take_of_lt hj2] at hj
      have h1 := idxH_unique hn (k := xs[i].1) (q := xs[i].2) hj (List.getElem?_eq_getElem hi)
      exact Nat.ne_of_lt hj2 h1
    have hst : storedH (xs.take i) xs[i].1 xs[i].2.1 xs[i].2.2 = xs.take (i + 1) := by
      rw [storedH_new hno, List.take_add_one, List.getElem?_eq_getElem hi]; rfl
    refine wpAny_dictSet_heap (knd := tupleKind (intKind prog w)) (k := xs[i].1) (xs := xs.take i) ?_ (key _ (List.getElem_mem hi)) ⟨od, es, ep, hod, hx, hd, he, fun x hx' => key x (List.mem_of_mem_take hx'), ?_⟩ (fun h' hd' hs => ?_) (Nat.le_trans (by rw [List.length_take]; exact Nat.min_le_right ..) hsz)
    · show A.in1.in1.units < cLine
      ktr_units
    · rw [List.map_take]; exact hn.sublist (List.take_sublist ..)
    · rw [hst] at hd'
      obtain ⟨o', es', ep', ho', hx', hd'', he', _⟩ := hd'
      exact hQ h' _ o' ho' ⟨es', ep', hx', hd'', he'⟩ hs
  · intro d od h' tk F' N' l1 lo hD
    rw [hlen, List.take_length] at hD
    obtain ⟨es, ep, hx, hd, he⟩ := hD
    exact h d od h' tk F' N' l1 fun nw hm hk' => ⟨lo, od, es, ep, hm, hx, hd, he, hn, hk'⟩
end
end
-- part N1
section
open PySem PySem.W PySem.Spec PySem.Calls PyProof.Rows PySem.SeqAt
set_option linter.all false
set_option maxRecDepth 100000
set_option maxHeartbeats 8000000
section
variable {prog : Program} {w : World} {A : Around} {E : Value → Shared → Prop} {s : Shared}
noncomputable abbrev lc2 (elt t1 i1 t2 i2 : Expr) (scope : Scope) (pos : Pos) : Expr := .ListComp elt [⟨t1, i1, [], 0⟩, ⟨t2, i2, [], 0⟩] scope pos
theorem turn_out (elt t1 i1 t2 i2 : Expr) (scope : Scope) (pos : Pos) (it acc : Value) (env : Env) :
    compTurn (lc2 elt t1 i1 t2 i2 scope pos) 0 it acc env = (standAt i1.pos >>= fun _ => pyNext it >>= fun r => match r with
      | none => pure (.done .next)
      | some v => letOwnedTupleGo t1 it v >>= fun _ => assign t1 env v >>= fun _ =>
        eval i2 env >>= fun x => standAt i2.pos >>= fun _ => foldedSetIterable i2 env x >>= fun x => holding [x] (pyIter x) >>= fun it2 => runOwn (.compStart (lc2 elt t1 i1 t2 i2 scope pos) 1 it2 acc env) env >>= fun _ =>
          again (.compLoop (lc2 elt t1 i1 t2 i2 scope pos) 0 it acc env)) := by rfl
theorem turn_in (elt t1 i1 t2 i2 : Expr) (scope : Scope) (pos : Pos) (it acc : Value) (env : Env) :
    compTurn (lc2 elt t1 i1 t2 i2 scope pos) 1 it acc env = (standAt i2.pos >>= fun _ => pyNext it >>= fun r => match r with
      | none => pure (.done .next)
      | some v => letOwnedTupleGo t2 it v >>= fun _ => assign t2 env v >>= fun _ =>
        (eval elt env >>= fun x => call (.builtin "list.append") [acc, x] >>= fun _ => pure ()) >>= fun _ =>
          again (.compLoop (lc2 elt t1 i1 t2 i2 scope pos) 1 it acc env)) := by rfl
theorem step_out {elt t1 i1 t2 i2 : Expr} {scope : Scope} {pos : Pos} {it acc : Value} {env : Env} {R : Result → Shared → Prop}
    (h : wpAny (model prog w) A (pyNext it) (fun r s₁ => match r with
      | none => R (.ok .next) s₁
      | some v => wpAny (model prog w) A (letOwnedTupleGo t1 it v) (fun _ s₁ => wpAny (model prog w) A (assign t1 env v) (fun _ s₂ => wpAny (model prog w) A (eval i2 env) (fun x s₃ => wpAny (model prog w) A (pyIter x) (fun it2 s₄ =>
          codeAny (model prog w) (A.mark none) (.compStart (lc2 elt t1 i1 t2 i2 scope pos) 1 it2 acc env) (fun r s₅ => match r with | .ok _ => codeAny (model prog w) A (.compLoop (lc2 elt t1 i1 t2 i2 scope pos) 0 it acc env) R s₅ | .error _ => False) s₄)
          (fun _ _ => False) s₃) (fun _ _ => False) s₂) (fun _ _ => False) s₁) (fun _ _ => False) s₁) (fun _ _ => False) s)
    (hs : ∀ x, foldedSetIterable i2 env x = pure x := by intro _; rfl) :
    codeAny (model prog w) A (.compLoop (lc2 elt t1 i1 t2 i2 scope pos) 0 it acc env) R s := by
  refine codeAny_of_tree ?_
  show wpAny _ A ((compTurn (lc2 elt t1 i1 t2 i2 scope pos) 0 it acc env).onRaise (fun x => do noteFrame x env; theTreesLotGoes x)) _ _ s
  refine wpAny_noted ?_
  rw [turn_out]
  refine wpAny_bind (wpAny_standAt (wpAny_bind (wpAny_mono h (fun r s₁ h₁ => ?_) fun _ _ f => f.elim)))
  cases r with
  | none => exact wpAny_pure h₁
  | some v =>
    refine wpAny_bind (wpAny_mono h₁ (fun _ s₁ h₁ => ?_) fun _ _ f => f.elim)
    refine wpAny_bind (wpAny_mono h₁ (fun _ s₂ h₂ => ?_) fun _ _ f => f.elim)
    refine wpAny_bind (wpAny_mono h₂ (fun x s₃ h₃ => ?_) fun _ _ f => f.elim)
    refine wpAny_bind (wpAny_standAt (wpAny_bind (wpAny_of_eq (hs x) (wpAny_bind (wpAny_holding (wpAny_mono h₃ (fun it2 s₄ h₄ => ?_) fun _ _ f => f.elim))))))
    refine wpAny_bind (wpAny_runOwn (codeAny_mono h₄ fun r s₅ h₅ => ?_))
    cases r with
    | ok f => exact wpAny_pure ⟨rfl, h₅⟩
    | error e => exact h₅.elim
theorem step_in {elt t1 i1 t2 i2 : Expr} {scope : Scope} {pos : Pos} {it acc : Value} {env : Env} {R : Result → Shared → Prop}
    (h : wpAny (model prog w) A (pyNext it) (fun r s₁ => match r with
      | none => R (.ok .next) s₁
      | some v => wpAny (model prog w) A (letOwnedTupleGo t2 it v) (fun _ s₁ => wpAny (model prog w) A (assign t2 env v) (fun _ s₂ => wpAny (model prog w) A (eval elt env) (fun x s₃ => wpAny (model prog w) A (call (.builtin "list.append") [acc, x]) (fun _ s₄ =>
          codeAny (model prog w) A (.compLoop (lc2 elt t1 i1 t2 i2 scope pos) 1 it acc env) R s₄)
          (fun _ _ => False) s₃) (fun _ _ => False) s₂) (fun _ _ => False) s₁) (fun _ _ => False) s₁) (fun _ _ => False) s) :
    codeAny (model prog w) A (.compLoop (lc2 elt t1 i1 t2 i2 scope pos) 1 it acc env) R s := by
  refine codeAny_of_tree ?_
  show wpAny _ A ((compTurn (lc2 elt t1 i1 t2 i2 scope pos) 1 it acc env).onRaise (fun x => do noteFrame x env; theTreesLotGoes x)) _ _ s
  refine wpAny_noted ?_
  rw [turn_in]
  refine wpAny_bind (wpAny_standAt (wpAny_bind (wpAny_mono h (fun r s₁ h₁ => ?_) fun _ _ f => f.elim)))
  cases r with
  | none => exact wpAny_pure h₁
  | some v =>
    refine wpAny_bind (wpAny_mono h₁ (fun _ s₁ h₁ => ?_) fun _ _ f => f.elim)
    refine wpAny_bind (wpAny_mono h₁ (fun _ s₂ h₂ => ?_) fun _ _ f => f.elim)
    refine wpAny_bind (wpAny_bind (wpAny_mono h₂ (fun x s₃ h₃ => ?_) fun _ _ f => f.elim))
    exact wpAny_bind (wpAny_mono h₃ (fun _ s₄ h₄ => wpAny_pure (wpAny_pure ⟨rfl, h₄⟩)) fun _ _ f => f.elim)
theorem start_in {elt t1 i1 t2 i2 : Expr} {scope : Scope} {pos : Pos} {it acc : Value} {env : Env} {R : Result → Shared → Prop}
    (h0 : codeAny (model prog w) A (.compLoop (lc2 elt t1 i1 t2 i2 scope pos) 1 it acc env) R s)
    (h : wpAny (model prog w) A (pyIter it) (fun it' s' => codeAny (model prog w) A (.compLoop (lc2 elt t1 i1 t2 i2 scope pos) 1 it' acc env) R s') (fun _ _ => False) s) :
    codeAny (model prog w) A (.compStart (lc2 elt t1 i1 t2 i2 scope pos) 1 it acc env) R s := by
  refine codeAny_of_tree ?_
  show wpAny _ _ ((compStart (lc2 elt t1 i1 t2 i2 scope pos) 1 it acc env).onRaise (fun x => do noteFrame x env; standAt theWindowsPlace)) _ _ s
  refine wpAny_notedAt ?_
  unfold compStart
  show wpAny _ _ (ask >>= _) _ _ s
  refine wpAny_bind (wpAny_askSetting (wpAny_ite ?_))
  split
  · first
      | exact wpAny_bind (wpAny_pure (wpAny_pure (And.intro rfl h0)))
      | exact wpAny_pure (And.intro rfl h0)
  · first
      | exact wpAny_bind (wpAny_rule (wpAny_bind (wpAny_standAt (wpAny_bind (wpAny_mono h (fun it' s' h' => wpAny_pure (And.intro rfl h')) fun _ _ x => x.elim)))))
      | (refine wpAny_bind (wpAny_rule ?_); show wpAny _ _ (standAt i2.pos >>= _) _ _ s; exact wpAny_bind (wpAny_standAt (wpAny_bind (wpAny_mono h (fun it' s' h' => wpAny_pure (And.intro rfl h')) fun _ _ x => x.elim))))
end
end
-- part N2
section
open PySem PySem.W PySem.Spec PySem.Calls PyProof.Rows PySem.SeqAt
set_option linter.all false
set_option maxRecDepth 100000
set_option maxHeartbeats 8000000
open PyProof.Rows.LCg
section
variable {prog : Program} {w : World} {A : Around} {E : Value → Shared → Prop} {s : Shared}
theorem ev_pair {env : Env} {x y : Str} {px py pos : Pos} {k : Nat} {m' : Str → Option Value} {v u : Value} {Q : Value → Shared → Prop} (hk : env.scope.kind = .function) (hx : env.kindOf x = some .local) (hy : env.kindOf y = some .local) (hn : s.heap.Ns env.locals m')
    (hv : m' x = some v) (hu : m' y = some u) (dx : (x == ("__debug__" : Str)) = false) (dy : (y == ("__debug__" : Str)) = false) (h : Q (.ref s.heap.objs.size) { s with heap := s.heap.push (tupO [v, u]) }) :
    wpAny (model prog w) A (eval (.Tuple [.Name x px, .Name y py] k pos) env) Q E s := by
  refine wpAny_Tuple ?_
  refine spliced_cons (wpAny_Name (wpAny_loadName_local hk hx hn hv ?_) dx)
  refine spliced_cons (wpAny_Name (wpAny_loadName_local hk hy hn hu ?_) dy)
  exact spliced_nil ⟨Nat.le_of_ble_eq_true rfl, h⟩
theorem ev_int2 {env : Env} {a b : Int} {ka kb k : Nat} {pa pb pos : Pos} {Q : Value → Shared → Prop} (h : ∀ vs tk, IntsAre vs [a, b] → Q (.ref s.heap.objs.size) { s with heap := s.heap.push (tupO vs), toks := tk }) :
    wpAny (model prog w) A (eval (.Tuple [.Constant (.int a) ka pa, .Constant (.int b) kb pb] k pos) env) Q E s := by
  refine wpAny_Tuple ?_
  refine spliced_cons (wpAny_Constant_int (i := a) (k := ka) (pos := pa) (env := env) ?_)
  refine spliced_cons (wpAny_Constant_int (i := b) (k := kb) (pos := pb) (env := env) ?_)
  exact spliced_nil ⟨Nat.le_of_ble_eq_true rfl, h _ _ (.cons _ _ (.cons _ _ .nil))⟩
theorem ev_int3 {env : Env} {a b c : Int} {ka kb kc k : Nat} {pa pb pc pos : Pos} {Q : Value → Shared → Prop} (h : ∀ vs tk, IntsAre vs [a, b, c] → Q (.ref s.heap.objs.size) { s with heap := s.heap.push (tupO vs), toks := tk }) :
    wpAny (model prog w) A (eval (.Tuple [.Constant (.int a) ka pa, .Constant (.int b) kb pb, .Constant (.int c) kc pc] k pos) env) Q E s := by
  refine wpAny_Tuple ?_
  refine spliced_cons (wpAny_Constant_int (i := a) (k := ka) (pos := pa) (env := env) ?_)
  refine spliced_cons (wpAny_Constant_int (i := b) (k := kb) (pos := pb) (env := env) ?_)
  refine spliced_cons (wpAny_Constant_int (i := c) (k := kc) (pos := pc) (env := env) ?_)
  exact spliced_nil ⟨Nat.le_of_ble_eq_true rfl, h _ _ (.cons _ _ (.cons _ _ (.cons _ _ .nil)))⟩
set_option genSizeOf false in
set_option genInjectivity false in
structure Pd where
  a : Int
  b : Int
  e : Addr
  t : Tok
  u : Tok
noncomputable def Pd.v (r : Pd) : Value := .ref r.e
noncomputable def Pd.o (r : Pd) : Addr × Obj := (r.e, tupO [.int r.a r.t, .int r.b r.u])
noncomputable def Pd.ab (r : Pd) : Int × Int := (r.a, r.b)
noncomputable def J (h₀ : Heap) (L : Addr) (m : Str → Option Value) (news : List (Addr × Obj)) (D : Addr) (h : Heap) (rs : List Pd) : Prop := Fr h₀ L h m ∧ News h₀ L h ((D, lst (rs.map Pd.v)) :: (rs.map Pd.o ++ news)) ∧ ∀ r ∈ rs, D < r.e
variable {h₀ : Heap} {L : Addr} {m : Str → Option Value} {news : List (Addr × Obj)}
theorem J.but {D X : Addr} {h h' : Heap} {rs : List Pd} (j : J h₀ L m news D h rs) (hs : Heap.SameBut X h h') (hL : X ≠ L) (h0 : h₀.get? X = none) (hD : D ≠ X) (off : ∀ p ∈ rs.map Pd.o ++ news, p.1 ≠ X) : J h₀ L m news D h' rs :=
  ⟨j.1.change hs hL h0, fun p hp => ⟨by
    rw [hs.2 p.1 (by
      rcases List.mem_cons.mp hp with rfl | hp
      · exact hD
      · exact off p hp)]
    exact (j.2.1 p hp).1, (j.2.1 p hp).2⟩, j.2.2⟩
theorem inner_loop {px py k1 : Pos} {kk : Nat} {x y : Str} {i1 i2 : Expr} {p1 p2 pos tpos : Pos} {scope : Scope} {cl : List (Str × Addr)} {env : Env} {R : Result → Shared → Prop} {C D I T : Addr} {vs : List Value} {bs : List Int} {a : Int} {ta : Tok} (hh : A.handled = none)
    (hkind : scope.kind = .function) (hx : scope.names.lookup x = some .local) (hy : scope.names.lookup y = some .local) (hxy : x ≠ y) (dx : (x == ("__debug__" : Str)) = false) (dy : (y == ("__debug__" : Str)) = false) (hv : IntsAre vs bs) (hsz : ∀ rs : List Pd, J h₀ L m news D s.heap rs → True)
    (hCD : C ≠ D) (hCI : C ≠ I) (hDI : D ≠ I) (hTI : T ≠ I) (hTC : T ≠ C) (hTD : T ≠ D) (hCL : C ≠ L) (hIL : I ≠ L) (hC0 : h₀.get? C = none) (hI0 : h₀.get? I = none) :
    ∀ (k i : Nat) (rs : List Pd) (s : Shared) (mC : Str → Option Value), i + k = vs.length → s.heap.IsTupleIter I T i → s.heap.IsTuple T vs.toArray → s.heap.Ns C mC → mC x = some (.int a ta) → J h₀ L m news D s.heap rs → (∀ p ∈ rs.map Pd.o ++ news, p.1 ≠ C ∧ p.1 ≠ I ∧ p.1 ≠ D) → rs.length + k ≤ 100 →
      (∀ h' tk' mC' new, new.map Pd.ab = (bs.drop i).map (fun b => (a, b)) → (∀ r ∈ new, s.heap.objs.size ≤ r.e) → J h₀ L m news D h' (rs ++ new) → h'.Ns C mC' → (∀ b o, b ≠ C → b ≠ D → b ≠ I → s.heap.get? b = some o → h'.get? b = some o) → R (.ok .next) { s with heap := h', toks := tk' }) →
      codeAny (model prog w) A (.compLoop (lc2 (.Tuple [.Name x px, .Name y py] kk tpos) (.Name x p1) i1 (.Name y p2) i2 scope pos) 1 (.ref I) (.ref D) (compEnvC scope cl C env)) R s := by
  intro k
  induction k with
  | zero =>
    intro i rs s mC hik hit ht hn hmx j off hl hR
    refine step_in (wpAny_pyNext_tuple_end hh hit ht (ikz hik) fun h' hs => ?_)
    have keep : ∀ b o, b ≠ I → s.heap.get? b = some o → h'.get? b = some o := fun b o hb e => hs b o hb e
    refine hR h' _ mC [] ?_ (fun r hr => nomatch hr) ?_ (hn.extBut hs hCI) (fun b o _ _ hb e => keep b o hb e)
    · rw [List.drop_of_length_le (by rw [← hv.length]; exact Nat.le_of_eq (ik0 hik).symm)]; rfl
    · rw [List.append_nil]
      refine ⟨fr_but j.1 (fun b o hb e => keep b o (by simpa using hb) e) (Ne.symm hIL) hI0, fun p hp => ⟨keep _ _ ?_ (j.2.1 p hp).1, (j.2.1 p hp).2⟩, j.2.2⟩
      rcases List.mem_cons.mp hp with rfl | hp
      · exact hDI
      · exact (off p hp).2.1
  | succ k ih =>
    intro i rs s mC hik hit ht hn hmx j off hl hR
    have hi : i < vs.length := ikl hik
    obtain ⟨u, hu⟩ := IntsAre.int_at hv i vs[i] (List.getElem?_eq_getElem hi)
    have hib : i < bs.length := by rw [← hv.length]; exact hi
    refine step_in (wpAny_pyNext_tuple_item (x := vs[i]) hit ht (by simp [hi]) fun h1 hit1 hs1 => ?_)
    refine letGo_tupleiter hit1 ?_
    have hn1 : h1.Ns C mC := hn.sameBut hs1 hCI
    refine wpAny_assign_Name (wpAny_storeName_local (lookup_relabel_local hy) hn1 (fun h2 hn2 hs2 => ?_) (by simp [compEnvC, relabel, hkind]))
    have hs2' : Heap.SameBut C h1 h2 := hs2
    refine ev_pair (v := .int a ta) (u := vs[i]) (m' := fun z => if z = y then some vs[i] else mC z) (by simp [compEnvC, relabel, hkind]) (lookup_relabel_local hx) (lookup_relabel_local hy) hn2 (by simp [hxy, hmx]) (by simp) dx dy ?_
    have j1 : J h₀ L m news D h1 rs := j.but hs1 hIL hI0 hDI fun p hp => (off p hp).2.1
    have j2 : J h₀ L m news D h2 rs := j1.but hs2' hCL hC0 (Ne.symm hCD) fun p hp => (off p hp).1
    have hD2 := (j2.2.1 _ (List.mem_cons_self ..)).1
    have hD3 : (h2.push (tupO [.int a ta, vs[i]])).get? D = some (lst (rs.map Pd.v)) := get_other hD2
    refine append_at (hsz := by
      show (rs.map Pd.v).toArray.size ≤ sizeLine
      simp only [List.size_toArray, List.length_map]
      exact Nat.le_trans (by omega : rs.length ≤ 100) (Nat.le_of_ble_eq_true rfl)) hD3 fun h4 hs4 hD4 => ?_
    have hDL := (j.2.1 _ (List.mem_cons_self ..)).2
    have hClt : C < h2.objs.size := hn2.lt
    obtain ⟨oI, hoI, _⟩ := hit1
    have hIlt : I < h2.objs.size := by rw [hs2'.1]; exact Heap.lt_size hoI
    have hDlt : D < h2.objs.size := Heap.lt_size hD2
    have keep4 : ∀ b o, b ≠ D → h2.get? b = some o → h4.get? b = some o := fun b o hb e => by rw [hs4.2 b hb]; exact get_other e
    have keep : ∀ b o, b ≠ C → b ≠ D → b ≠ I → s.heap.get? b = some o → h4.get? b = some o := fun b o h1' h2' h3' e => keep4 b o h2' (by rw [hs2'.2 b h1', hs1.2 b h3']; exact e)
    have hnew : h4.get? h2.objs.size = some (tupO [.int a ta, vs[i]]) := by rw [hs4.2 _ (Nat.ne_of_gt hDlt)]; exact Heap.get?_push_size _ rfl
    have j4 : J h₀ L m news D h4 (rs ++ [⟨a, bs.getD i 0, h2.objs.size, ta, u⟩]) := by
      refine ⟨(j2.1.push _).change hs4 hDL.1 hDL.2, fun p hp => ?_, fun r hr => ?_⟩
      · rcases List.mem_cons.mp hp with rfl | hp
        · refine ⟨hD4.trans (congrArg some ((lst_snoc _ _).trans ?_)), hDL⟩
          rw [List.map_append]; rfl
        · rw [List.map_append, List.append_assoc] at hp
          rcases List.mem_append.mp hp with hp | hp
          · exact ⟨keep4 _ _ (off p (List.mem_append_left _ hp)).2.2 (j2.2.1 p (List.mem_cons_of_mem _ (List.mem_append_left _ hp))).1, (j2.2.1 p (List.mem_cons_of_mem _ (List.mem_append_left _ hp))).2⟩
          · rcases List.mem_cons.mp hp with rfl | hp
            · refine ⟨?_, Ne.symm (Nat.ne_of_lt j2.1.ns.lt), next_is_new j2.1⟩
              show h4.get? h2.objs.size = some (tupO [.int a ta, .int (bs.getD i 0) u])
              rw [← hu]; exact hnew
            · exact ⟨keep4 _ _ (off p (List.mem_append_right _ hp)).2.2 (j2.2.1 p (List.mem_cons_of_mem _ (List.mem_append_right _ hp))).1, (j2.2.1 p (List.mem_cons_of_mem _ (List.mem_append_right _ hp))).2⟩
      · rcases List.mem_append.mp hr with hr | hr
        · exact j2.2.2 r hr
        · rw [List.mem_singleton.mp hr]; exact hDlt
    refine ih (i + 1) _ _ (fun z => if z = y then some vs[i] else mC z) (iks hik) ((Heap.IsTupleIter.at ⟨oI, hoI, ‹_›⟩ fun o e => ?_) : h4.IsTupleIter I T (i + 1)) ?_ ?_ ?_ j4 ?_ (by simp; omega) ?_
    · exact keep4 _ _ (Ne.symm hDI) (by rw [hs2'.2 _ (Ne.symm hCI)]; exact e)
    · obtain ⟨oT, eT, rT⟩ := ht
      exact ⟨oT, keep _ _ hTC hTD hTI eT, rT⟩
    · exact hn2.at' fun o e => keep4 _ _ hCD e
    · simp [hxy, hmx]
    · intro p hp
      rw [List.map_append, List.append_assoc] at hp
      rcases List.mem_append.mp hp with hp | hp
      · exact off p (List.mem_append_left _ hp)
      · rcases List.mem_cons.mp hp with rfl | hp
        · exact ⟨Nat.ne_of_gt hClt, Nat.ne_of_gt hIlt, Nat.ne_of_gt hDlt⟩
        · exact off p (List.mem_append_right _ hp)
    · intro h' tk' mC' new hab hge j' hn' hk'
      refine hR h' tk' mC' (⟨a, bs.getD i 0, h2.objs.size, ta, u⟩ :: new) ?_ ?_ (by rw [List.append_assoc] at j'; exact j') hn' fun b o q1 q2 q3 e => hk' b o q1 q2 q3 (keep b o q1 q2 q3 e)
      · rw [List.drop_eq_getElem_cons hib, List.map_cons, List.map_cons, hab]
        simp [Pd.ab, hib]
      · intro r hr
        rcases List.mem_cons.mp hr with rfl | hr
        · show s.heap.objs.size ≤ h2.objs.size
          rw [hs2'.1, hs1.1]; exact Nat.le_refl _
        · refine Nat.le_trans ?_ (hge r hr)
          show s.heap.objs.size ≤ h4.objs.size
          rw [hs4.1, Heap.size_push, hs2'.1, hs1.1]; exact Nat.le_succ _
end
end
-- part N3
section
open PySem PySem.W PySem.Spec PySem.Calls PyProof.Rows PySem.SeqAt
set_option linter.all false
set_option maxRecDepth 100000
set_option maxHeartbeats 8000000
open PyProof.Rows.LCg
section
variable {prog : Program} {w : World} {A : Around} {E : Value → Shared → Prop} {s : Shared}
variable {h₀ : Heap} {L : Addr} {m : Str → Option Value} {news : List (Addr × Obj)}
theorem J.up {D : Addr} {h h' : Heap} {rs : List Pd} (j : J h₀ L m news D h rs) (k : ∀ b o, h.get? b = some o → h'.get? b = some o) : J h₀ L m news D h' rs :=
  ⟨j.1.keeps k, j.2.1.grown k, j.2.2⟩
theorem outer_loop {px py : Pos} {kk : Nat} {x y : Str} {i1 i2 : Expr} {p1 p2 pos tpos : Pos} {scope : Scope} {cl : List (Str × Addr)} {env : Env} {R : Result → Shared → Prop} {C D I T : Addr} {vs : List Value} {as bs : List Int} (hh : A.handled = none)
    (hkind : scope.kind = .function) (hx : scope.names.lookup x = some .local) (hy : scope.names.lookup y = some .local) (hxy : x ≠ y) (dx : (x == ("__debug__" : Str)) = false) (dy : (y == ("__debug__" : Str)) = false) (hv : IntsAre vs as)
    (hev : ∀ (s : Shared) (Q : Value → Shared → Prop), (∀ vs tk, IntsAre vs bs → Q (.ref s.heap.objs.size) { s with heap := s.heap.push (tupO vs), toks := tk }) → wpAny (model prog w) A (eval i2 (compEnvC scope cl C env)) Q (fun _ _ => False) s)
    (hfold : ∀ x, foldedSetIterable i2 (compEnvC scope cl C env) x = pure x)
    (hCD : C ≠ D) (hCI : C ≠ I) (hDI : D ≠ I) (hTI : T ≠ I) (hTC : T ≠ C) (hTD : T ≠ D) (hCL : C ≠ L) (hIL : I ≠ L) (hC0 : h₀.get? C = none) (hI0 : h₀.get? I = none) :
    ∀ (k i : Nat) (rs : List Pd) (s : Shared) (mC : Str → Option Value), i + k = vs.length → s.heap.IsTupleIter I T i → s.heap.IsTuple T vs.toArray → s.heap.Ns C mC → J h₀ L m news D s.heap rs → (∀ p ∈ rs.map Pd.o ++ news, p.1 ≠ C ∧ p.1 ≠ I ∧ p.1 ≠ D) → rs.length + k * bs.length + bs.length ≤ 100 →
      (∀ h' tk' mC' new, new.map Pd.ab = (as.drop i).flatMap (fun a => bs.map (fun b => (a, b))) → J h₀ L m news D h' (rs ++ new) → h'.Ns C mC' → (∀ p ∈ (rs ++ new).map Pd.o ++ news, p.1 ≠ C ∧ p.1 ≠ D) → R (.ok .next) { s with heap := h', toks := tk' }) →
      codeAny (model prog w) A (.compLoop (lc2 (.Tuple [.Name x px, .Name y py] kk tpos) (.Name x p1) i1 (.Name y p2) i2 scope pos) 0 (.ref I) (.ref D) (compEnvC scope cl C env)) R s := by
  intro k
  induction k with
  | zero =>
    intro i rs s mC hik hit ht hn j off hl hR
    refine step_out (wpAny_pyNext_tuple_end hh hit ht (ikz hik) fun h' hs => ?_) hfold
    have keep : ∀ b o, b ≠ I → s.heap.get? b = some o → h'.get? b = some o := fun b o hb e => hs b o hb e
    refine hR h' _ mC [] ?_ ?_ (hn.extBut hs hCI) (fun p hp => ?_)
    · rw [List.drop_of_length_le (by rw [← hv.length]; exact Nat.le_of_eq (ik0 hik).symm)]; rfl
    · rw [List.append_nil]
      refine ⟨fr_but j.1 (fun b o hb e => keep b o (by simpa using hb) e) (Ne.symm hIL) hI0, fun p hp => ⟨keep _ _ ?_ (j.2.1 p hp).1, (j.2.1 p hp).2⟩, j.2.2⟩
      rcases List.mem_cons.mp hp with rfl | hp
      · exact hDI
      · exact (off p hp).2.1
    · rw [List.append_nil] at hp
      exact ⟨(off p hp).1, (off p hp).2.2⟩
  | succ k ih =>
    intro i rs s mC hik hit ht hn j off hl hR
    have hi : i < vs.length := ikl hik
    obtain ⟨ta, hu⟩ := IntsAre.int_at hv i vs[i] (List.getElem?_eq_getElem hi)
    have hib : i < as.length := by rw [← hv.length]; exact hi
    refine step_out (wpAny_pyNext_tuple_item (x := vs[i]) hit ht (by simp [hi]) fun h1 hit1 hs1 => ?_) hfold
    refine letGo_tupleiter hit1 ?_
    have hn1 : h1.Ns C mC := hn.sameBut hs1 hCI
    refine wpAny_assign_Name (wpAny_storeName_local (lookup_relabel_local hx) hn1 (fun h2 hn2 hs2 => ?_) (by simp [compEnvC, relabel, hkind]))
    have hs2' : Heap.SameBut C h1 h2 := hs2
    have hn2' : h2.Ns C (fun z => if z = x then some vs[i] else mC z) := hn2
    refine hev _ _ fun vs2 tk2 hv2 => ?_
    have j1 : J h₀ L m news D h1 rs := j.but hs1 hIL hI0 hDI fun p hp => (off p hp).2.1
    have j2 : J h₀ L m news D h2 rs := j1.but hs2' hCL hC0 (Ne.symm hCD) fun p hp => (off p hp).1
    have hT2 : (h2.push (tupO vs2)).IsTuple h2.objs.size vs2.toArray := ⟨_, Heap.get?_push_size _ rfl, rfl, 0, rfl⟩
    refine wpAny_pyIter_tuple hT2 ?_
    have hsz3 : (h2.push (tupO vs2)).objs.size = h2.objs.size + 1 := Heap.size_push ..
    generalize hH3 : h2.push (tupO vs2) = H3 at hT2 hsz3 ⊢
    have up3 : ∀ b o, h2.get? b = some o → H3.get? b = some o := fun b o e => by rw [← hH3]; exact get_other e
    generalize hH4 : H3.push { cls := .type "tuple_iterator", data := .fields #[.ref h2.objs.size, .int 0 0] } = H4
    have up34 : ∀ b o, H3.get? b = some o → H4.get? b = some o := fun b o e => by rw [← hH4]; exact get_other e
    have up4 : ∀ b o, h2.get? b = some o → H4.get? b = some o := fun b o e => up34 b o (up3 b o e)
    have hit4 : H4.IsTupleIter H3.objs.size h2.objs.size 0 := by rw [← hH4]; exact ⟨_, Heap.get?_push_size _ rfl, rfl, rfl⟩
    have hT4 : H4.IsTuple h2.objs.size vs2.toArray := let ⟨o, e, r⟩ := hT2; ⟨o, up34 _ _ e, r⟩
    have j4 : J h₀ L m news D H4 rs := j2.up up4
    obtain ⟨oI, hoI, roI⟩ := hit1
    have hoI2 : h2.get? I = some oI := by rw [hs2'.2 _ (Ne.symm hCI)]; exact hoI
    have hClt : C < h2.objs.size := hn2'.lt
    have hIlt : I < h2.objs.size := Heap.lt_size hoI2
    have hDlt : D < h2.objs.size := Heap.lt_size (j2.2.1 _ (List.mem_cons_self ..)).1
    have hnn : ∀ b : Addr, b < h2.objs.size → b ≠ H3.objs.size := fun b hb => by rw [hsz3]; exact Nat.ne_of_lt (Nat.lt_succ_of_lt hb)
    have lt4 : ∀ p ∈ rs.map Pd.o ++ news, p.1 < h2.objs.size := fun p hp => Heap.lt_size (j2.2.1 p (List.mem_cons_of_mem _ hp)).1
    have hLlt : L < h2.objs.size := j2.1.ns.lt
    have hn4 : H4.Ns C (fun z => if z = x then some vs[i] else mC z) := hn2'.keeps up4
    rw [Around.mark_none]
    have F3 : Fr h₀ L H3 m := j2.1.keeps up3
    have loop := inner_loop (prog := prog) (w := w) (A := A) (px := px) (py := py) (k1 := px) (kk := kk) (x := x) (y := y) (i1 := i1) (i2 := i2) (p1 := p1) (p2 := p2) (pos := pos) (tpos := tpos) (scope := scope) (cl := cl) (env := env)
      (R := fun r s₅ => match r with | .ok _ => codeAny (model prog w) A (.compLoop (lc2 (.Tuple [.Name x px, .Name y py] kk tpos) (.Name x p1) i1 (.Name y p2) i2 scope pos) 0 (.ref I) (.ref D) (compEnvC scope cl C env)) R s₅ | .error _ => False)
      (C := C) (D := D) (I := H3.objs.size) (T := h2.objs.size) (vs := vs2) (bs := bs) (a := as.getD i 0) (ta := ta) (s := s) hh hkind hx hy hxy dx dy hv2 (fun _ _ => trivial) hCD (hnn _ hClt) (hnn _ hDlt) (by rw [hsz3]; exact Nat.ne_of_lt (Nat.lt_succ_self _)) (Nat.ne_of_gt hClt) (Nat.ne_of_gt hDlt) hCL
      (Ne.symm (hnn _ hLlt)) hC0 (next_is_new F3) vs2.length 0 rs { s with heap := H4, toks := tk2 } _ (Nat.zero_add _) hit4 hT4 hn4 (by simp [hu]) j4 (fun p hp => ⟨(off p hp).1, hnn _ (lt4 p hp), (off p hp).2.2⟩) (by rw [hv2.length]; rw [Nat.succ_mul] at hl; omega)
      (fun h' tk' mC' new hab hge j' hn' hk' => by
        have kp : ∀ b o, b ≠ C → b ≠ D → b < h2.objs.size → h2.get? b = some o → h'.get? b = some o := fun b o q1 q2 q3 e => hk' b o q1 q2 (hnn b q3) (up4 b o e)
        have off' : ∀ p ∈ (rs ++ new).map Pd.o ++ news, p.1 ≠ C ∧ p.1 ≠ I ∧ p.1 ≠ D := fun p hp => by
          rw [List.map_append, List.append_assoc] at hp
          rcases List.mem_append.mp hp with hp | hp
          · exact off p (List.mem_append_left _ hp)
          · rcases List.mem_append.mp hp with hp | hp
            · obtain ⟨r, hr, rfl⟩ := List.mem_map.mp hp
              have g : H4.objs.size ≤ r.e := hge r hr
              have g2 : h2.objs.size ≤ r.e := Nat.le_trans (by rw [← hH4, Heap.size_push, hsz3]; omega) g
              exact ⟨Nat.ne_of_gt (Nat.lt_of_lt_of_le hClt g2), Nat.ne_of_gt (Nat.lt_of_lt_of_le hIlt g2), Nat.ne_of_gt (Nat.lt_of_lt_of_le hDlt g2)⟩
            · exact off p (List.mem_append_right _ hp)
        have hnl : new.length = bs.length := by simpa using congrArg List.length hab
        refine ih (i + 1) (rs ++ new) _ mC' (iks hik) (Heap.IsTupleIter.at ⟨oI, hoI2, roI⟩ fun o e => kp _ _ (Ne.symm hCI) (Ne.symm hDI) hIlt e) ?_ hn' j' off' (by rw [List.length_append, hnl]; rw [Nat.succ_mul] at hl; omega) ?_
        · obtain ⟨oT, eT, rT⟩ := ht
          have e2 : h2.get? T = some oT := by rw [hs2'.2 _ hTC, hs1.2 _ hTI]; exact eT
          exact ⟨oT, kp _ _ hTC hTD (Heap.lt_size e2) e2, rT⟩
        · intro h9 tk9 mC9 new9 hab9 j9 hn9 off9
          refine hR h9 tk9 mC9 (new ++ new9) ?_ (by rw [List.append_assoc] at j9; exact j9) hn9 (by rw [List.append_assoc] at off9; exact off9)
          rw [List.map_append, hab, hab9, List.drop_eq_getElem_cons hib, List.flatMap_cons]
          simp [hib])
    exact start_in loop (wpAny_pyIter_tupleiter hit4 loop)
theorem comp_prod {px py : Pos} {kk : Nat} {x y : Str} {i1 i2 : Expr} {p1 p2 pos tpos : Pos} {scope : Scope} {cl : List (Str × Addr)} {env : Env} {as bs : List Int} {Q : Value → Shared → Prop} (hh : A.handled = none) (F : Fr h₀ L s.heap m) (N : News h₀ L s.heap news)
    (hclos : closureFor scope env = pure cl) (hcell : ∀ y ∈ scope.names, y.2 ≠ .cell) (hkind : scope.kind = .function) (hnames : ∀ y ∈ scope.names, y.2 = .local → scope.names.lookup y.1 = some .local)
    (hx : scope.names.lookup x = some .local) (hy : scope.names.lookup y = some .local) (hxy : x ≠ y) (dx : (x == ("__debug__" : Str)) = false) (dy : (y == ("__debug__" : Str)) = false)
    (hev1 : ∀ (s : Shared) (Q : Value → Shared → Prop), (∀ vs tk, IntsAre vs as → Q (.ref s.heap.objs.size) { s with heap := s.heap.push (tupO vs), toks := tk }) → wpAny (model prog w) A (eval i1 env) Q E s)
    (hev2 : ∀ (C : Addr) (s : Shared) (Q : Value → Shared → Prop), (∀ vs tk, IntsAre vs bs → Q (.ref s.heap.objs.size) { s with heap := s.heap.push (tupO vs), toks := tk }) → wpAny (model prog w) A (eval i2 (compEnvC scope cl C env)) Q (fun _ _ => False) s)
    (hf1 : ∀ x, foldedSetIterable i1 env x = pure x) (hf2 : ∀ C x, foldedSetIterable i2 (compEnvC scope cl C env) x = pure x) (hlen : as.length * bs.length + bs.length ≤ 100)
    (h : ∀ (D : Addr) (rs : List Pd) (h' : Heap) (tk' : Nat), rs.map Pd.ab = as.flatMap (fun a => bs.map (fun b => (a, b))) → Fr h₀ L h' m → News h₀ L h' ((D, lst (rs.map Pd.v)) :: (rs.map Pd.o ++ news)) → (∀ q ∈ news, q.1 < D) → (∀ r ∈ rs, D < r.e) → Q (.ref D) { s with heap := h', toks := tk' }) :
    wpAny (model prog w) A (eval (lc2 (.Tuple [.Name x px, .Name y py] kk tpos) (.Name x p1) i1 (.Name y p2) i2 scope pos) env) Q E s := by
  rw [eval_ListComp]
  refine wpAny_comprehension_free (use := none) rfl hf1 hclos hkind hnames (hev1 _ _ fun vs tk hv => ?_)
  have hT1 : (s.heap.push (tupO vs)).IsTuple s.heap.objs.size vs.toArray := ⟨_, Heap.get?_push_size _ rfl, rfl, 0, rfl⟩
  refine wpAny_pyIter_tuple hT1 ?_
  have F1 : Fr h₀ L (s.heap.push (tupO vs)) m := F.push _
  generalize hT : s.heap.objs.size = T at hT1 ⊢
  have up1 : ∀ b o, s.heap.get? b = some o → (s.heap.push (tupO vs)).get? b = some o := fun b o e => get_other e
  have hs1 : (s.heap.push (tupO vs)).objs.size = T + 1 := by rw [Heap.size_push, hT]
  generalize hH1 : s.heap.push (tupO vs) = H1 at hT1 F1 up1 hs1 ⊢
  have I0 := next_is_new F1
  have IL : L ≠ H1.objs.size := Nat.ne_of_lt F1.ns.lt
  have F2 : Fr h₀ L (H1.push { cls := .type "tuple_iterator", data := .fields #[.ref T, .int 0 0] }) m := F1.push _
  have hit2 : (H1.push { cls := .type "tuple_iterator", data := .fields #[.ref T, .int 0 0] }).IsTupleIter H1.objs.size T 0 := ⟨_, Heap.get?_push_size _ rfl, rfl, rfl⟩
  have hT2 : (H1.push { cls := .type "tuple_iterator", data := .fields #[.ref T, .int 0 0] }).IsTuple T vs.toArray := let ⟨o, e, r⟩ := hT1; ⟨o, get_other e, r⟩
  have up2 : ∀ b o, s.heap.get? b = some o → (H1.push { cls := .type "tuple_iterator", data := .fields #[.ref T, .int 0 0] }).get? b = some o := fun b o e => get_other (up1 b o e)
  have hs2 : (H1.push { cls := .type "tuple_iterator", data := .fields #[.ref T, .int 0 0] }).objs.size = T + 2 := by rw [Heap.size_push, hs1]
  generalize hH2 : H1.push { cls := .type "tuple_iterator", data := .fields #[.ref T, .int 0 0] } = H2 at F2 hit2 hT2 up2 hs2 ⊢
  generalize hI : H1.objs.size = I at I0 IL hit2 ⊢
  have hIT : I = T + 1 := by rw [← hI, hs1]
  refine wpAny_newObj_type (wpAny_newFunctionEnv hcell (by intro y hy; simp at hy) (fun h₁ hns₁ hsb₁ => ?_) hkind)
  dsimp only at hns₁ hsb₁ ⊢
  have D0 := next_is_new F2
  have DL : L ≠ H2.objs.size := Nat.ne_of_lt F2.ns.lt
  have F3 : Fr h₀ L (H2.push { cls := .type "list", dict := none, data := .seq ([] : List Value).toArray }) m := F2.push _
  have hD3 : (H2.push { cls := .type "list", dict := none, data := .seq ([] : List Value).toArray }).get? H2.objs.size = some (lst []) := Heap.get?_push_size _ rfl
  have up3 : ∀ b o, H2.get? b = some o → (H2.push { cls := .type "list", dict := none, data := .seq ([] : List Value).toArray }).get? b = some o := fun b o e => get_other e
  have hs3 : (H2.push { cls := .type "list", dict := none, data := .seq ([] : List Value).toArray }).objs.size = T + 3 := by rw [Heap.size_push, hs2]
  generalize hH3 : H2.push { cls := .type "list", dict := none, data := .seq ([] : List Value).toArray } = H3 at hns₁ hsb₁ F3 hD3 up3 hs3 ⊢
  generalize hDD : H2.objs.size = D at D0 DL hD3 ⊢
  have hDT : D = T + 2 := by rw [← hDD, hs2]
  have C0 := next_is_new F3
  have CL : L ≠ H3.objs.size := Nat.ne_of_lt F3.ns.lt
  generalize hC : H3.objs.size = C at hns₁ hsb₁ C0 CL ⊢
  have hCT : C = T + 3 := by rw [← hC, hs3]
  have below : ∀ p ∈ news, p.1 < T := fun p hp => by rw [← hT]; exact Heap.lt_size (N p hp).1
  have nT : ∀ n : Nat, ∀ b : Addr, b < T → b ≠ T + n := fun n b hb => Nat.ne_of_lt (Nat.lt_of_lt_of_le hb (Nat.le_add_right T n))
  have keep : ∀ b o, s.heap.get? b = some o → h₁.get? b = some o := fun b o e => by
    have hb : b < T := by rw [← hT]; exact Heap.lt_size e
    exact hsb₁.extBut b o (by rw [hCT]; exact nT 3 b hb) (get_other (up3 b o (up2 b o e)))
  have keepH : ∀ b o, b ≠ C → H3.get? b = some o → h₁.get? b = some o := fun b o hb e => hsb₁.extBut b o hb (get_other e)
  have hCD : C ≠ D := by rw [hCT, hDT]; exact Nat.ne_of_gt (Nat.lt_succ_self _)
  have hCI : C ≠ I := by rw [hCT, hIT]; exact Nat.ne_of_gt (Nat.lt_succ_of_lt (Nat.lt_succ_self _))
  have hDI : D ≠ I := by rw [hDT, hIT]; exact Nat.ne_of_gt (Nat.lt_succ_self _)
  have hTI : T ≠ I := by rw [hIT]; exact Nat.ne_of_lt (Nat.lt_succ_self _)
  have hTD : T ≠ D := by rw [hDT]; exact Nat.ne_of_lt (Nat.lt_succ_of_lt (Nat.lt_succ_self _))
  have hTC : T ≠ C := by rw [hCT]; exact Nat.ne_of_lt (Nat.lt_succ_of_lt (Nat.lt_succ_of_lt (Nat.lt_succ_self _)))
  have j : J h₀ L m news D h₁ [] := ⟨F.keeps keep, fun p hp => by
    rcases List.mem_cons.mp hp with rfl | hp
    · exact ⟨keepH _ _ (Ne.symm hCD) hD3, Ne.symm DL, D0⟩
    · exact ⟨keep _ _ (N p hp).1, (N p hp).2⟩, fun r hr => nomatch hr⟩
  have loop : ∀ s₃ : Shared, s₃ = { s with heap := h₁, toks := tk + ([] : List (Str × Value)).length } →
      codeAny (model prog w) A (.compLoop (lc2 (.Tuple [.Name x px, .Name y py] kk tpos) (.Name x p1) i1 (.Name y p2) i2 scope pos) 0 (.ref I) (.ref D) (compEnvC scope cl C env)) (compPost (model prog w) A E none Q (.ref D) C) s₃ := by
    rintro s₃ rfl
    refine outer_loop (C := C) (D := D) (I := I) (T := T) hh hkind hx hy hxy dx dy hv (hev2 C) (hf2 C) hCD hCI hDI hTI hTC hTD (Ne.symm CL) (Ne.symm IL) C0 I0 vs.length 0 [] _ _ (Nat.zero_add _) ?_ ?_ hns₁ j (fun p hp => ?_) (by rw [hv.length]; simpa using hlen) ?_
    · exact hit2.at fun o e => keepH _ _ (Ne.symm hCI) (up3 _ _ e)
    · obtain ⟨o, e, r⟩ := hT2
      exact ⟨o, keepH _ _ hTC (up3 _ _ e), r⟩
    · have hp' := below p (by simpa using hp)
      exact ⟨by rw [hCT]; exact nT 3 _ hp', by rw [hIT]; exact nT 1 _ hp', by rw [hDT]; exact nT 2 _ hp'⟩
    · intro h' tk' mC' new hab j' hn' off'
      refine ⟨mC', hn', fun h9 hs9 => ?_⟩
      have j9 := j'.but hs9 (Ne.symm CL) C0 (Ne.symm hCD) fun p hp => (off' p hp).1
      exact h D new h9 tk' (by simpa using hab) j9.1 (by simpa using j9.2.1) (fun q hq => by rw [hDT]; exact Nat.lt_of_lt_of_le (below q hq) (Nat.le_add_right ..)) fun r hr => j9.2.2 r (by simpa using hr)
  exact codeAny_compStart_list (loop _ rfl) (wpAny_pyIter_tupleiter (i := 0) (t := T) (hit2.at fun o e => keepH _ _ (Ne.symm hCI) (up3 _ _ e)) (loop _ rfl))
end
end
-- part N4
section
open PySem PySem.W PySem.Spec PySem.Calls PyProof.Rows PySem.SeqAt
set_option linter.all false
set_option maxRecDepth 100000
set_option maxHeartbeats 8000000
open PyProof.Rows.LCg PyProof.Rows.LCt
section
variable {prog : Program} {w : World} {A : Around} {E : Value → Shared → Prop} {s : Shared} {env : Env} {h₀ : Heap} {L : Addr} {m : Str → Option Value}
theorem CompEnd.imp {s₁ : Shared} {I C D : Addr} {oI oC oD : Obj} {S : List (Addr × Obj) → Prop} {r r' : Value → List (Addr × Obj) → Prop} {y : Value} {s₂ : Shared} (h : CompEnd h₀ L m s₁ I oI C oC D oD S r y s₂) (i : ∀ n, r y n → r' y n) :
    CompEnd h₀ L m s₁ I oI C oC D oD S r' y s₂ := by
  obtain ⟨h', tk, n, e, F, N, o, hS, x⟩ := h
  exact ⟨h', tk, n, e, F, N, o, hS, i n x⟩
theorem rest_ind {elt : Expr} {x : Str} {scope : Scope} {cl : List (Str × Addr)} {s : Shared} {S : List (Addr × Obj) → Prop} {P : Nat → Value → Prop} {Fin : List Value → List (Addr × Obj) → Prop} (Inv : Nat → List Value → List (Addr × Obj) → Prop) (n : Nat)
    (turn : ∀ i ys news, i < n → Inv i ys news → ∀ v I oI C oC D m₂ h tk (E' : Value → Shared → Prop), P i v → NsObj oC m₂ → m₂ x = some v → Fr h₀ L h m → News h₀ L h ((I, oI) :: (C, oC) :: (D, lst ys) :: news) → Off3 I C D news → ((@Ne Nat I C) ∧ (@Ne Nat I D) ∧ (@Ne Nat C D)) →
      wpAny (model prog w) A (eval elt (compEnvC scope cl C env)) (CompEnd h₀ L m { s with heap := h, toks := tk } I oI C oC D (lst ys) S (fun y news' => Inv (i + 1) (ys ++ [y]) news')) E' { s with heap := h, toks := tk })
    (fin : ∀ ys news, Inv n ys news → Fin ys news) : ∀ (k i : Nat) (ys : List Value) (news : List (Addr × Obj)), i + k = n → Inv i ys news → CompRest prog w A h₀ L m env elt x scope cl s S P Fin k i ys news
  | 0, i, ys, news, e, hI => CompRest.zero (fin _ _ (by have : i = n := ik0 e
                                                        rw [← this]; exact hI))
  | k + 1, i, ys, news, e, hI => CompRest.succ fun v I oI C oC D m₂ h tk E' hP hC hx F N off ne =>
      wpAny_mono (turn i ys news (ikl e) hI v I oI C oC D m₂ h tk E' hP hC hx F N off ne) (fun _ _ z => CompEnd.imp z fun n' hi => rest_ind Inv n turn fin k (i + 1) _ n' (iks e) hi) fun _ _ e => e
theorem restT_ind {ct elt : Expr} {x : Str} {scope : Scope} {cl : List (Str × Addr)} {s : Shared} {S : List (Addr × Obj) → Prop} {P : Nat → Value → Prop} {Fin : List Value → List (Addr × Obj) → Prop} (Inv : Nat → List Value → List (Addr × Obj) → Prop) (n : Nat)
    (turn : ∀ i ys news, i < n → Inv i ys news → ∀ v I oI C oC D m₂ h tk (E' : Value → Shared → Prop), P i v → NsObj oC m₂ → m₂ x = some v → Fr h₀ L h m → News h₀ L h ((I, oI) :: (C, oC) :: (D, lst ys) :: news) → Off3 I C D news → ((@Ne Nat I C) ∧ (@Ne Nat I D) ∧ (@Ne Nat C D)) →
      wpAny (model prog w) A (isTrue ct (compEnvC scope cl C env) (eval ct (compEnvC scope cl C env))) (fun ok s' => if ok = true then
        wpAny (model prog w) A (eval elt (compEnvC scope cl C env)) (CompEnd h₀ L m { s with heap := h, toks := tk } I oI C oC D (lst ys) S (fun y news' => Inv (i + 1) (ys ++ [y]) news')) E' s'
        else CompEnd h₀ L m { s with heap := h, toks := tk } I oI C oC D (lst ys) S (fun _ news' => Inv (i + 1) ys news') Value.none s') E' { s with heap := h, toks := tk })
    (fin : ∀ ys news, Inv n ys news → Fin ys news) : ∀ (k i : Nat) (ys : List Value) (news : List (Addr × Obj)), i + k = n → Inv i ys news → CompRestT prog w A h₀ L m env ct elt x scope cl s S P Fin k i ys news
  | 0, i, ys, news, e, hI => CompRestT.zero (fin _ _ (by have : i = n := ik0 e
                                                         rw [← this]; exact hI))
  | k + 1, i, ys, news, e, hI => CompRestT.succ fun v I oI C oC D m₂ h tk E' hP hC hx F N off ne =>
      wpAny_mono (turn i ys news (ikl e) hI v I oI C oC D m₂ h tk E' hP hC hx F N off ne) (fun ok s' z => by
        cases ok with
        | true =>
          simp only [if_true] at z ⊢
          exact wpAny_mono z (fun _ _ z => CompEnd.imp z fun n' hi => restT_ind Inv n turn fin k (i + 1) _ n' (iks e) hi) fun _ _ e => e
        | false =>
          simp only [Bool.false_eq_true, if_false] at z ⊢
          exact CompEnd.imp z fun n' hi => restT_ind Inv n turn fin k (i + 1) _ n' (iks e) hi) fun _ _ e => e
theorem src_lst {t : Addr} {vs : List Value} {c : Nat} {news : List (Addr × Obj)} {R : Shared → (List (Addr × Obj) → Prop) → (Nat → Value → Prop) → Nat → List (Addr × Obj) → Prop} (hh : A.handled = none) (F : Fr h₀ L s.heap m) (N : News h₀ L s.heap news)
    (hm : (t, W.listOf vs.toArray c) ∈ news) (hn : vs.length ≤ sizeLine)
    (r : ∀ h, R { s with heap := h } (fun nw => (t, W.listOf vs.toArray c) ∈ nw) (fun i v => vs.toArray[i]? = some v) vs.length news) :
    wpAny (model prog w) A (pyIter (.ref t)) (SrcW prog w A h₀ L m R) E s := by
  have ht0 := N _ hm
  have hT : s.heap.IsList t vs.toArray := ⟨_, ht0.1, rfl, c, rfl⟩
  have htlt : t < s.heap.objs.size := Heap.lt_size ht0.1
  refine wpAny_pyIter_list hT ?_
  have W1 := Walks.list (prog := prog) (w := w) hh s.heap.objs.size t (Nat.ne_of_lt htlt) vs.toArray
  rw [List.size_toArray] at W1
  have up : ∀ b o, s.heap.get? b = some o → (s.heap.push { cls := .type "list_iterator", data := .fields #[.ref t, .int 0 0] }).get? b = some o := fun b o e => Heap.get?_push_of_some _ e
  refine ⟨s.heap.objs.size, _, vs.length, _, _, (fun nw => (t, W.listOf vs.toArray c) ∈ nw), news, rfl, W1, hn, ?_, ?_, ⟨⟨_, Heap.get?_push_size _ rfl, rfl, rfl⟩, ⟨_, up _ _ ht0.1, rfl, c, rfl⟩⟩, ?_, F.keeps up, N.grown up, Nat.ne_of_lt F.ns.lt, next_is_new F, fun p hp => Nat.ne_of_lt (Heap.lt_size (N p hp).1), hm, r _⟩
  · intro i h st
    obtain ⟨o, e, _⟩ := st.1
    exact ⟨o, e⟩
  · intro i h h' o nw st e e' _ N' hS
    refine ⟨?_, ⟨_, (N' _ hS).1, rfl, c, rfl⟩⟩
    obtain ⟨o', q, z⟩ := st.1
    have q' : h.get? s.heap.objs.size = some o' := q
    rw [e] at q'; cases q'
    exact ⟨o, e', z⟩
  · intro b hb
    show b < (s.heap.push _).objs.size
    rw [Heap.size_push]
    rcases List.mem_cons.mp hb with rfl | hb
    · exact Nat.lt_succ_self _
    · rw [List.mem_singleton.mp hb]; exact Nat.lt_succ_of_lt htlt
end
end
-- part S2
section
open PySem PySem.W PySem.Spec PySem.Calls PyProof.Rows PySem.SeqAt
set_option linter.all false
set_option maxRecDepth 100000
set_option maxHeartbeats 8000000
theorem fn_lit {K : Frag} {f : Addr} {oc dV kV doc pm cdv ct oc' dV' kV' doc' pm' cdv' ct' : Value} {an od an' od' : Option Addr} {osl osl' : Array (Option Value)} {name qual name' qual' : Str} {params params' : Arguments} {body body' : List Stmt} {scope scope' : Scope}
  (h2 : K.lookup f = some ⟨oc', od', .func (fnOf name' qual' params' body' scope' dV' kV' doc' pm' an' cdv' ct'), osl'⟩)
  (ho : K.lookup f = some ⟨oc, od, .func (fnOf name qual params body scope dV kV doc pm an cdv ct), osl⟩) : body = body' ∧ qual = qual' ∧ scope = scope' := by
  have h3 := ho.symm.trans h2
  injection h3 with h3
  injection h3 with _ _ h4 _
  injection h4 with h4
  injection h4 with e1 e2 e3 e4 e5
  injection e4 with e4
  exact ⟨e4, e2, e5⟩
theorem mv4 {α : Type} {d c1 c2 c3 c4 : α} {o rest : List α} : ∀ q ∈ c1 :: c2 :: c3 :: c4 :: d :: (o ++ rest), q ∈ d :: (o ++ c1 :: c2 :: c3 :: c4 :: rest) :=
  have h : ∀ q ∈ [c1, c2, c3, c4] ++ d :: (o ++ rest), q ∈ d :: (o ++ ([c1, c2, c3, c4] ++ rest)) := sub_two (sub_sk (sub_r (sub_l sub_id))) (sub_cons (.head _) (sub_sk (sub_two (sub_l sub_id) (sub_r (sub_r sub_id)))))
  h
theorem offS {D X : Addr} {rest : List (Addr × Obj)} {rs : List Pd} (hr : ∀ q ∈ rest, q.1 ≠ X) (hX : @LT.lt Nat _ X D) (l2 : ∀ r ∈ rs, D < r.e) : ∀ q ∈ rs.map Pd.o ++ rest, q.1 ≠ X := by
  intro q hq
  rcases List.mem_append.mp hq with hq | hq
  · obtain ⟨r, hr', rfl⟩ := List.mem_map.mp hq
    exact Nat.ne_of_gt (Nat.lt_trans hX (l2 r hr'))
  · exact hr q hq
section
theorem st_ends {w : World} {oc dV kV doc pm cdv ct : Value} {an od : Option Addr} {osl : Array (Option Value)} {name qual : Str} {params : Arguments} {body : List Stmt} {scope : Scope} {st : Stmt}
  {p : Program} {loose : List Str} {mean : ExcName → Option Value} {mg mb : Str → Option Value} {base h₀ : Heap} {L : Addr} {m : Str → Option Value} {s : Shared} {cd : Value} {fa : Addr} {rest : List (Addr × Obj)}
  {o1 o2 o3 o4 : Obj} {Q : Flow → Shared → Prop} {E : Value → Shared → Prop}
  (B : Below callerA base [] h₀) (X : (hd.heap_39 w.params).In h₀) (T : Top p loose mean mg mb h₀)
  (F : Fr h₀ L s.heap m)
  (N : News h₀ L s.heap ((L + 1, o1) :: (L + 1 + 1, o2) :: (L + 1 + 1 + 1, o3) :: (L + 1 + 1 + 1 + 1, o4) :: rest))
  (hr : ∀ q ∈ rest, q.1 ≠ L + 1 + 1) (hst : body[1]? = some st)
  (d2 : o2.data = .cell none)
  (hret : ∀ (e0 : Addr) (rs : List Pd) (h' : Heap) (tk' : Nat) (o2' : Obj), rs.map Pd.ab = [(1, 1), (1, 2), (2, 1), (2, 2), (3, 1), (3, 2)] → Fr h₀ L h' m →
    News h₀ L h' ((L + 1, o1) :: (L + 1 + 1, o2') :: (L + 1 + 1 + 1, o3) :: (L + 1 + 1 + 1 + 1, o4) :: (e0, LCg.lst (rs.map Pd.v)) :: (rs.map Pd.o ++ rest)) → o2'.data = .cell (some (.ref e0)) →
    (∀ q ∈ (L + 1, o1) :: (L + 1 + 1, o2) :: (L + 1 + 1 + 1, o3) :: (L + 1 + 1 + 1 + 1, o4) :: rest, q.1 < e0) → (∀ r ∈ rs, e0 < r.e) → Q .next { s with heap := h', toks := tk' }) :
  (hd.heap_39 w.params).lookup 204 = some ⟨oc, od, .func (fnOf name qual params body scope dV kV doc pm an cdv ct), osl⟩ →
  wpAny (model PySem.Challenge.rw_rh0207_01.row.prog w) (callerA.deeper (envOfC qual scope L fa cd)) (exec st (envOfC qual scope L fa cd)) Q E s := by
  w_top off
  k_with_none
  k_with "ne" => first | assumption | (refine neN ?_; (try dsimp only); first | assumption | exact Nat.ne_of_lt (lt_mem (by assumption) (by k_mem)) | exact Nat.ne_of_gt (lt_mem (by assumption) (by k_mem)) | exact Nat.ne_of_gt (lt_mem2 (by assumption) (by assumption) (by k_mem)) | exact And.left (by assumption) | exact Ne.symm (And.left (by assumption)) | exact And.left (And.right (by assumption)) | exact Ne.symm (And.left (And.right (by assumption))) | exact And.left (And.right (And.right (by assumption))) | exact Ne.symm (And.left (And.right (And.right (by assumption)))) | exact And.left (And.right (And.right (And.right (by assumption)))) | exact Ne.symm (And.left (And.right (And.right (And.right (by assumption))))) | exact And.left (And.right (And.right (And.right (And.right (by assumption))))) | exact Ne.symm (And.left (And.right (And.right (And.right (And.right (by assumption)))))) | exact Ne.symm (And.left (And.right (And.right (And.right (And.right (And.right (by assumption)))))))  | exact Ne.symm (And.left (And.right (And.right (And.right (And.right (And.right (And.right (by assumption)))))))) | omega)
  k_with "all" => first | assumption | exact List.forall_mem_nil _ | (refine' List.forall_mem_cons.mpr ⟨?a, ?b⟩; (case a => k_ne); (case b => k_all)) | exact lt_ne (by assumption) | exact lt_ne_succ (by assumption) | exact fun p hp => Nat.ne_of_lt (lt_at (by assumption) (by k_mem))
  k_with "mem" => first | assumption | exact List.Mem.head _ | (refine' List.Mem.tail _ ?_; k_mem)
  k_with "room" => first | exact lim2 (by assumption) (Nat.le_of_ble_eq_true rfl) | exact lim1 (by assumption) (Nat.le_of_ble_eq_true rfl) | exact lim0 (by assumption)
  k_with "eval ListComp" => (k_here; k_dflt (refine comp_prod (as := [1, 2, 3]) (bs := [1, 2]) (by exact rfl) (by k_asm) (by k_asm) (by with_unfolding_all rfl) (by decide) (by rfl) (by decide) (by rfl) (by rfl) (by decide) (by decide) (by decide) (fun s Q h => ev_int3 h) (fun C s Q h => ev_int2 h) (by intro _; rfl) (by intro _ _; rfl) (by decide) ?_); intro D' rs' h' tk' hab' F' N' l1' l2'; replace N' := cb_drop N' mv4; have n1' : @LT.lt Nat _ (L + 1 + 1) D' := l1' _ (List.mem_cons_of_mem _ (List.mem_cons_self ..)); have off9 := offS hr n1' l2')
  k_fill
  intro ho
  have e9 := fn_is (by k_is) ho
  clear ho
  cases e9
  cases Option.some.inj hst
  clear hst
  k_steps
  exact hret _ _ _ _ _ (by assumption) (by k_asm) (by k_asm) (by assumption) (by assumption) (by assumption)
end
end
-- part S3
section
open PySem PySem.W PySem.Spec PySem.Calls PyProof.Rows PySem.SeqAt
set_option linter.all false
set_option maxRecDepth 100000
set_option maxHeartbeats 8000000
open PyProof.Rows.LCg PyProof.Rows.LCt
set_option genSizeOf false in
set_option genInjectivity false in
structure Pq where
  e : Addr
  k : Addr
  d : Int
  t : Tok
noncomputable def Pq.o (q : Pq) : Addr × Obj := (q.e, tupO [.ref q.k, .int q.d q.t])
noncomputable def Pq.v (q : Pq) : Value := .ref q.e
section
theorem off_app {rest : List (Addr × Obj)} {qs : List Pq} {l : Addr} (h : ∀ q ∈ rest, q.1 ≠ l) (hq : ∀ q ∈ qs, @LT.lt Nat _ l q.e) : ∀ q ∈ qs.map Pq.o ++ rest, q.1 ≠ l := by
  intro q hq'
  rcases List.mem_append.mp hq' with hq' | hq'
  · obtain ⟨r, hr', rfl⟩ := List.mem_map.mp hq'
    exact Nat.ne_of_gt (hq r hr')
  · exact h q hq'
theorem home_end {h₀ : Heap} {L I C Dn l D' k : Addr} {m : Str → Option Value} {s₁ : Shared} {oI oC oD op op' : Obj} {c1 c2 c3 c4 : Addr × Obj} {S : List (Addr × Obj) → Prop} {R : Value → List (Addr × Obj) → Prop} {h' : Heap} {tk : Nat} {qs : List Pq} {rest : List (Addr × Obj)} {d : Int} {t : Tok}
    (F : Fr h₀ L h' m) (N : News h₀ L h' ((D', tupO [.ref k, .int d t]) :: (I, oI) :: (C, oC) :: (Dn, oD) :: c1 :: c2 :: c3 :: c4 :: (l, op') :: (qs.map Pq.o ++ rest))) (off : Off3 I C Dn (c1 :: c2 :: c3 :: c4 :: (l, op) :: (qs.map Pq.o ++ rest)))
    (nI : I < D') (nC : C < D') (nD : Dn < D') (hS : S (c1 :: c2 :: c3 :: c4 :: (l, op') :: ((qs ++ [Pq.mk D' k d t]).map Pq.o ++ rest))) (r : R (.ref D') (c1 :: c2 :: c3 :: c4 :: (l, op') :: ((qs ++ [Pq.mk D' k d t]).map Pq.o ++ rest))) :
    CompEnd h₀ L m s₁ I oI C oC Dn oD S R (.ref D') { s₁ with heap := h', toks := tk } := by
  have om := off.mem
  have e1 : ∀ y, (qs ++ [Pq.mk D' k d t]).map Pq.o ++ y = qs.map Pq.o ++ ((D', tupO [.ref k, .int d t]) :: y) := fun y => cat_map y
  refine CompEnd.intro F N _ (fun q hq => ?_) (Off3.of fun q hq => ?_) hS r
  · rw [e1] at hq
    exact mem_in1 (A := [c1, c2, c3, c4, (l, op')]) (B := [(I, oI), (C, oC), (Dn, oD)]) hq
  · rw [e1] at hq
    rcases mem_or1 (A := [c1, c2, c3, c4, (l, op')]) hq with h | h
    · rcases mem_at (A := [c1, c2, c3, c4]) (f := (l, op)) h with h | h
      · exact om q h
      · rw [h]; exact om (l, op) (List.mem_of_getElem? (i := 4) rfl)
    · rw [h]; exact ⟨Nat.ne_of_gt nI, Nat.ne_of_gt nC, Nat.ne_of_gt nD⟩
noncomputable def homeXs (rs : List Pd) (qs : List Pq) : List (List Int × Addr × Value) := List.zipWith (fun r q => ([r.a, r.b], r.e, .int q.d q.t)) rs qs
theorem homeXs_get {rs : List Pd} {qs : List Pq} {i : Nat} {x : List Int × Addr × Value} (h : (homeXs rs qs)[i]? = some x) : ∃ r q, rs[i]? = some r ∧ qs[i]? = some q ∧ x = ([r.a, r.b], r.e, .int q.d q.t) := by
  unfold homeXs at h
  rw [List.getElem?_zipWith] at h
  cases hr : rs[i]? with
  | none => rw [hr] at h; cases h
  | some r => cases hq : qs[i]? with
    | none => rw [hr, hq] at h; cases h
    | some q => rw [hr, hq] at h; exact ⟨r, q, rfl, rfl, (Option.some.inj h).symm⟩
theorem homeXs_keys : ∀ {rs : List Pd} {qs : List Pq}, qs.length = rs.length → (homeXs rs qs).map (·.1) = (rs.map Pd.ab).map (fun p => [p.1, p.2])
  | [], [], _ => rfl
  | r :: rs, q :: qs, h => by
    have := homeXs_keys (rs := rs) (qs := qs) (by simpa using h)
    simp only [homeXs, List.zipWith_cons_cons, List.map_cons] at this ⊢
    rw [this]; rfl
  | [], _ :: _, h => by simp at h
  | _ :: _, [], h => by simp at h
theorem homeXs_len {rs : List Pd} {qs : List Pq} (h : qs.length = rs.length) : (homeXs rs qs).length = rs.length := by simp [homeXs, h]
theorem home_dict {prog : Program} {w : World} {A : Around} {E : Value → Shared → Prop} {s : Shared} {h₀ : Heap} {L : Addr} {m : Str → Option Value} {news : List (Addr × Obj)} {D2 : Addr} {rs : List Pd} {qs : List Pq} {ns : List Int} {Q : Value → Shared → Prop}
    (hh : A.handled = none) (hu : A.units + 10 < cLine) (F : Fr h₀ L s.heap m) (N : News h₀ L s.heap news) (hm : (D2, lst (qs.map Pq.v)) ∈ news) (hbig : h₀.NoLimit) (hab : rs.map Pd.ab = [(1, 1), (1, 2), (2, 1), (2, 2), (3, 1), (3, 2)]) (hlen : qs.length = rs.length)
    (hq : ∀ (j : Nat) (q : Pq), qs[j]? = some q → ∃ r : Pd, rs[j]? = some r ∧ q.k = r.e ∧ q.d = drawV ns j 3) (mr : ∀ r ∈ rs, r.o ∈ news) (mq : ∀ q ∈ qs, q.o ∈ news)
    (h : ∀ d od h' tk, Fr h₀ L h' m → News h₀ L h' ((d, od) :: news) → (∀ q ∈ news, q.1 < d) → (∀ nw, (d, od) ∈ nw → (∀ r ∈ rs, r.o ∈ nw) → TDict prog w nw d (homeXs rs qs)) → Q (.ref d) { s with heap := h', toks := tk }) :
    wpAny (model prog w) A (call (.type "dict") [.ref D2]) Q E s := by
  have h6 : rs.length = 6 := by simpa using congrArg List.length hab
  refine dict_pairs_T (vs := qs.map Pq.v) (xs := homeXs rs qs) hh hu F N hm hbig (by rw [List.length_map, homeXs_len hlen, hlen]) (by rw [homeXs_len hlen, h6]; exact Nat.le_of_ble_eq_true rfl) (by rw [homeXs_keys hlen, hab]; decide) ?_ ?_ fun d od h' tk F' N' l1 hT => h d od h' tk F' N' l1 fun nw hm hk => hT nw hm fun x hx => by
      obtain ⟨i, hi⟩ := List.getElem?_of_mem hx
      obtain ⟨r, q, e1, e2, rfl⟩ := homeXs_get hi
      exact ⟨_, hk r (List.mem_of_getElem? e1), pair_key⟩
  · intro x hx
    obtain ⟨i, hi⟩ := List.getElem?_of_mem hx
    obtain ⟨r, q, e1, e2, rfl⟩ := homeXs_get hi
    exact ⟨_, mr r (List.mem_of_getElem? e1), pair_key⟩
  · intro i x hx
    obtain ⟨r, q, e1, e2, rfl⟩ := homeXs_get hx
    obtain ⟨r', e3, e4, e5⟩ := hq i q e2
    rw [e1] at e3; cases e3
    refine ⟨q.e, by rw [List.getElem?_map, e2]; rfl, ?_⟩
    have := mq q (List.mem_of_getElem? e2)
    simpa only [Pq.o, e4] using this
theorem mv6 {α : Type} {x y c1 c2 c3 c4 p : α} {o rest : List α} : ∀ q ∈ c1 :: c2 :: c3 :: c4 :: p :: x :: (o ++ rest), q ∈ x :: y :: c1 :: c2 :: c3 :: c4 :: p :: (o ++ rest) := fun q hq => mem_swap1 (A := [c1, c2, c3, c4, p]) hq
theorem v_at {rs : List Pd} {i : Nat} {v : Value} (hi : i < rs.length) (h : (rs.map Pd.v).toArray[i]? = some v) : v = .ref (rs[i]).e := by
  rw [List.getElem?_toArray, List.getElem?_map, List.getElem?_eq_getElem hi] at h
  exact (Option.some.inj h).symm
inductive QInv (ns : List Int) (rs : List Pd) (D : Addr) (n0 : Nat) (rest : List (Addr × Obj)) (c1 c2 c3 c4 : Addr × Obj) (l : Addr) (i : Nat) : List Value → List (Addr × Obj) → Prop
  | mk (qs : List Pq) (tki : Tok) (hql : qs.length = i) (hq : ∀ (j : Nat) (q : Pq), qs[j]? = some q → ∃ r : Pd, rs[j]? = some r ∧ q.k = r.e ∧ q.d = drawV ns j 3) (hqe : ∀ q ∈ qs, @LT.lt Nat _ l q.e) : QInv ns rs D n0 rest c1 c2 c3 c4 l i (qs.map Pq.v) (c1 :: c2 :: c3 :: c4 :: (l, W.listOf #[.ref D, .int (i : Int) tki] n0) :: (qs.map Pq.o ++ rest))
theorem QInv.snoc {ns : List Int} {rs : List Pd} {D : Addr} {n0 : Nat} {rest : List (Addr × Obj)} {c1 c2 c3 c4 : Addr × Obj} {l e k : Addr} {i : Nat} {qs : List Pq} {tki t : Tok} {z d : Int} {r : Pd} (hql : qs.length = i) (hq : ∀ (j : Nat) (q : Pq), qs[j]? = some q → ∃ r : Pd, rs[j]? = some r ∧ q.k = r.e ∧ q.d = drawV ns j 3) (hqe : ∀ q ∈ qs, @LT.lt Nat _ l q.e)
    (hz : z = ((i + 1 : Nat) : Int)) (hr : rs[i]? = some r) (hk : k = r.e) (hd : d = drawV ns i 3) (he : @LT.lt Nat _ l e) : QInv ns rs D n0 rest c1 c2 c3 c4 l (i + 1) (qs.map Pq.v ++ [.ref e]) (c1 :: c2 :: c3 :: c4 :: (l, W.listOf #[.ref D, .int z tki] n0) :: ((qs ++ [Pq.mk e k d t]).map Pq.o ++ rest)) := by
  show QInv _ _ _ _ _ _ _ _ _ _ _ (qs.map Pq.v ++ [Pq.v (Pq.mk e k d t)]) _
  rw [map_snoc, hz]
  refine QInv.mk _ _ (len_snoc hql) (snoc_all hq ⟨r, hql ▸ hr, hk, hql ▸ hd⟩) fun q hq' => ?_
  rcases List.mem_append.mp hq' with hq' | hq'
  · exact hqe q hq'
  · rw [List.mem_singleton.mp hq']; exact he
theorem st_home {w : World} {oc dV kV doc pm cdv ct : Value} {an od : Option Addr} {osl : Array (Option Value)} {name qual : Str} {params : Arguments} {body : List Stmt} {scope : Scope} {st : Stmt}
  {p : Program} {loose : List Str} {mean : ExcName → Option Value} {mg mb : Str → Option Value} {base h₀ : Heap} {L : Addr} {m : Str → Option Value} {s : Shared} {cd : Value} {fa : Addr} {rest : List (Addr × Obj)}
  {l D e0 : Addr} {tk0 : Tok} {n0 : Nat} {ys : List Value} {ns : List Int} {rs : List Pd}
  {o1 o2 o3 o4 : Obj} {Q : Flow → Shared → Prop} {E : Value → Shared → Prop}
  (B : Below callerA base [] h₀) (X : (hd.heap_39 w.params).In h₀) (T : Top p loose mean mg mb h₀)
  (F : Fr h₀ L s.heap m)
  (N : News h₀ L s.heap ((L + 1, o1) :: (L + 1 + 1, o2) :: (L + 1 + 1 + 1, o3) :: (L + 1 + 1 + 1 + 1, o4) :: (l, W.listOf #[.ref D, .int 0 tk0] n0) :: rest))
  (hr3 : ∀ q ∈ rest, q.1 ≠ L + 1 + 1 + 1) (hrl : ∀ q ∈ rest, q.1 ≠ l) (hst : body[2]? = some st)
  (d1 : o1.data = .cell (some (.ref l))) (d2 : o2.data = .cell (some (.ref e0))) (d3 : o3.data = .cell none) (hys : IntsAre ys ns) (h14 : ns.length ≤ 14)
  (mD : (D, lst ys) ∈ rest) (me : (e0, W.listOf (rs.map Pd.v).toArray rs.length) ∈ rest) (mr : ∀ r ∈ rs, r.o ∈ rest) (hab : rs.map Pd.ab = [(1, 1), (1, 2), (2, 1), (2, 2), (3, 1), (3, 2)]) (hrs : rs.length = 6) (hl : @LT.lt Nat _ (L + 1 + 1 + 1 + 1) l) (hsz : (rs.map Pd.v).length ≤ sizeLine)
  (hret : ∀ (rest' : List (Addr × Obj)) (hD : Addr) (qs : List Pq) (o3' : Obj) (tki : Tok) (h' : Heap) (tk' : Nat), Fr h₀ L h' m →
    News h₀ L h' ((L + 1, o1) :: (L + 1 + 1, o2) :: (L + 1 + 1 + 1, o3') :: (L + 1 + 1 + 1 + 1, o4) :: (l, W.listOf #[.ref D, .int 6 tki] n0) :: rest') → (∀ q ∈ rest, q ∈ rest') → (∀ q ∈ rest', q ∈ rest ∨ @LT.lt Nat _ l q.1) →
    TDict PySem.Challenge.rw_rh0207_01.row.prog w rest' hD (homeXs rs qs) → qs.length = rs.length → (∀ (j : Nat) (q : Pq), qs[j]? = some q → q.d = drawV ns j 3) → o3'.data = .cell (some (.ref hD)) → Q .next { s with heap := h', toks := tk' }) :
  (hd.heap_39 w.params).lookup 204 = some ⟨oc, od, .func (fnOf name qual params body scope dV kV doc pm an cdv ct), osl⟩ →
  wpAny (model PySem.Challenge.rw_rh0207_01.row.prog w) (callerA.deeper (envOfC qual scope L fa cd)) (exec st (envOfC qual scope L fa cd)) Q E s := by
  w_top off
  k_with_none
  k_with "ne" => first | assumption | (refine neN ?_; (try dsimp only); first | assumption | exact Nat.ne_of_lt (lt_mem (by assumption) (by k_mem)) | exact Nat.ne_of_gt (lt_mem (by assumption) (by k_mem)) | exact Nat.ne_of_gt (lt_mem2 (by assumption) (by assumption) (by k_mem)) | exact And.left (by assumption) | exact Ne.symm (And.left (by assumption)) | exact And.left (And.right (by assumption)) | exact Ne.symm (And.left (And.right (by assumption))) | exact And.left (And.right (And.right (by assumption))) | exact Ne.symm (And.left (And.right (And.right (by assumption)))) | exact And.left (And.right (And.right (And.right (by assumption)))) | exact Ne.symm (And.left (And.right (And.right (And.right (by assumption))))) | exact And.left (And.right (And.right (And.right (And.right (by assumption))))) | exact Ne.symm (And.left (And.right (And.right (And.right (And.right (by assumption)))))) | exact Ne.symm (And.left (And.right (And.right (And.right (And.right (And.right (by assumption)))))))  | exact Ne.symm (And.left (And.right (And.right (And.right (And.right (And.right (And.right (by assumption)))))))) | omega)
  k_with "all" => first | assumption | exact List.forall_mem_nil _ | (refine' List.forall_mem_cons.mpr ⟨?a, ?b⟩; (case a => k_ne); (case b => k_all)) | exact lt_ne (by assumption) | exact lt_ne_succ (by assumption) | exact fun p hp => Nat.ne_of_lt (lt_at (by assumption) (by k_mem))
  k_with "mem" => first | assumption | exact List.Mem.head _ | (refine' List.Mem.tail _ ?_; k_mem)
  k_with "room" => first | exact lim2 (by assumption) (Nat.le_of_ble_eq_true rfl) | exact lim1 (by assumption) (Nat.le_of_ble_eq_true rfl) | exact lim0 (by assumption)
  k_with "eval ListComp" => (k_here; k_dflt (refine comp_U (by k_asm) (by with_unfolding_all rfl) (by decide) (by rfl) (by decide) (by rfl) ?_))
  k_with "pyIter ref" => (k_here; (with_reducible show wpAny _ _ (pyIter (Value.ref _)) (SrcW _ _ _ _ _ _ _) _ _); k_dflt (refine src_lst (by exact rfl) (by k_asm) (by k_asm) (by k_mem) (by assumption) ?_); intro h9')
  k_with "call ref" => (k_here; (with_reducible show wpAny _ _ (call (Value.ref 192) [Value.ref _, Value.int _ _]) _ _ _); k_dflt (refine' draw_ct ?B ?F ?X ?T ?N ?U ?hk ?mD ?nD ?hys ?h14 ?hi ?hi2 ?m1 ?m2 ?hd ?hu ?_; (case B => k_asm); (case F => k_asm); (case X => k_asm); (case T => k_asm); (case N => k_asm); (case U => k_updF); (case hk => exact rfl); (case mD => k_mem); (case nD => assumption); (case hys => assumption); (case h14 => assumption); (case hi => omega); (case hi2 => omega); (case m1 => decide); (case m2 => decide); (case hd => ktr_room); (case hu => ktr_units); k_whole); intro t1' t2' h' tk' F' N'; (try dsimp only at N'))
  k_fill
  intro ho
  have e9 := fn_is (by k_is) ho
  clear ho
  cases e9
  cases Option.some.inj hst
  clear hst
  k_steps
  refine rest_ind (Inv := QInv ns rs D n0 rest (L + 1, o1) (L + 1 + 1, o2) (L + 1 + 1 + 1, o3) (L + 1 + 1 + 1 + 1, o4) l) _ ?turn ?fin _ 0 _ _ (Nat.zero_add _) (QInv.mk [] tk0 rfl (fun j q h => nomatch h) (fun q h => nomatch h))
  case turn =>
    intro i ys' nw hi hInv
    cases hInv with | mk qs tki hql hq hqe => ?_
    intro v I oI C oC Dn m2 h1 tk1 E1 hP hC hx F1 N1 off ne
    rw [List.length_map, hrs] at hi
    have hi' : i < rs.length := by rw [hrs]; exact hi
    have hv := v_at hi' hP
    subst hv
    have om := off.mem
    have nl := om (l, _) (.tail _ (.tail _ (.tail _ (.tail _ (.head _)))))
    obtain ⟨nl1, nl2, nl3⟩ := nl
    have nl1' : @Ne Nat I l := Ne.symm nl1
    have nl2' : @Ne Nat C l := Ne.symm nl2
    have nl3' : @Ne Nat Dn l := Ne.symm nl3
    have hoff := off_app hrl hqe
    have nD : D ≠ l := hrl _ mD
    have mD' : (D, lst ys) ∈ qs.map Pq.o ++ rest := List.mem_append_right _ mD
    clear hr3 mr nl1 nl2 nl3 om hrl
    k_steps
    show CompEnd _ _ _ _ _ _ _ _ _ _ _ _ _ _
    refine home_end (by k_asm) (by k_asm) off (And.left (by assumption)) (And.left (And.right (by assumption))) (And.left (And.right (And.right (by assumption)))) ?_ ?_
    · exact .tail _ (.tail _ (.tail _ (.tail _ (.tail _ (List.mem_append_right _ me)))))
    · exact QInv.snoc hql hq hqe rfl (List.getElem?_eq_getElem hi') rfl rfl (And.left (And.right (And.right (And.right (And.right (And.right (And.right (And.right (by assumption)))))))))
  case fin =>
    intro ys' nw hInv
    cases hInv with | mk qs tki hql hq hqe => ?_
    intro D2 h2 tk2 F2 N2 off2
    rw [List.length_map] at hql
    k_steps
    k_dflt (refine home_dict (by exact rfl) (by first | ktr_units | decide) (by k_asm) N2 (.head _) (Top.nolimit T) hab hql hq (fun r hr => .tail _ (.tail _ (.tail _ (.tail _ (.tail _ (.tail _ (List.mem_append_right _ (mr r hr)))))))) (fun q hq' => .tail _ (.tail _ (.tail _ (.tail _ (.tail _ (.tail _ (List.mem_append_left _ (List.mem_map_of_mem hq')))))))) ?_)
    intro d od h3 tk3 F3 N3 l3 hT
    replace N3 := cb_drop N3 (mv6 (rest := rest))
    have n3 : @LT.lt Nat _ l d := l3 (l, _) (.tail _ (.tail _ (.tail _ (.tail _ (.tail _ (.head _))))))
    have hoff : ∀ q ∈ (d, od) :: (qs.map Pq.o ++ rest), q.1 ≠ L + 1 + 1 + 1 := by
      intro q hq'
      rcases List.mem_cons.mp hq' with rfl | hq'
      · exact Nat.ne_of_gt (Nat.lt_trans (Nat.lt_trans (Nat.lt_succ_self _) hl) n3)
      · exact off_app hr3 (fun q hq' => Nat.lt_trans (Nat.lt_trans (Nat.lt_succ_self _) hl) (hqe q hq')) q hq'
    have hT' := hT ((d, od) :: (qs.map Pq.o ++ rest))
    clear hT l3 off2 N2 N
    k_steps
    refine hret ((d, od) :: (qs.map Pq.o ++ rest)) d qs _ tki _ _ (by k_asm) (by rw [List.length_map, hrs] at *; k_asm) (fun q hq' => .tail _ (List.mem_append_right _ hq')) (fun q hq' => ?_) ?_ hql (fun j q e => (hq j q e).elim fun r x => x.2.2) (by assumption)
    · rcases List.mem_cons.mp hq' with rfl | hq'
      · exact .inr n3
      · rcases List.mem_append.mp hq' with hq' | hq'
        · obtain ⟨r, hr, rfl⟩ := List.mem_map.mp hq'
          exact .inr (hqe r hr)
        · exact .inl hq'
    · exact hT' (.head _) fun r hr => .tail _ (List.mem_append_right _ (mr r hr))
end
end
-- part N5
section
open PySem PySem.W PySem.Spec PySem.Calls PyProof.Rows PySem.SeqAt
set_option linter.all false
set_option maxRecDepth 100000
set_option maxHeartbeats 8000000
section
variable {M : Model} {A : Around} {E : Value → Shared → Prop} {s : Shared}
theorem newEnv_cells {scope : Scope} {globals : Addr} {cl : List (Str × Addr)} {qual : Str} {env : Env} {Q : Env → Shared → Prop}
    (hQ : Q (newEnv scope s.heap.objs.size globals (cellsFrom (s.heap.objs.size + 1) scope.names cl) qual none .none (some env) builtinsNs) { s with heap := pushCells (s.heap.push { cls := .type "dict", data := .dict #[] }) scope.names }) :
    wpAny M A (newFunctionEnv scope globals cl [] qual none .none (some env)) Q E s := by
  simp only [newFunctionEnv, Option.isSome_some, if_true]
  refine wpAny_bind (wpAny_alloc ?_)
  refine wpAny_bind (wpAny_layCells _ (fun name kind cells => by cases hkc : kind == NameKind.cell <;> simp [hkc]) _ _ _ _ ?_)
  rw [show ({ s with heap := s.heap.push { cls := .type "dict", data := .dict #[] } } : Shared).heap.objs.size = s.heap.objs.size + 1 from Heap.size_push ..]
  exact wpAny_bind (wpAny_pure (wpAny_pure hQ))
end
section
variable {prog : Program} {w : World} {A : Around} {E : Value → Shared → Prop} {s : Shared}
theorem step_one {elt t1 i1 : Expr} {scope : Scope} {pos : Pos} {it acc : Value} {env : Env} {R : Result → Shared → Prop}
    (h : wpAny (model prog w) A (pyNext it) (fun r s₁ => match r with
      | none => R (.ok .next) s₁
      | some v => wpAny (model prog w) A (letOwnedTupleGo t1 it v) (fun _ s₁ => wpAny (model prog w) A (assign t1 env v) (fun _ s₂ => wpAny (model prog w) A (eval elt env) (fun x s₃ => wpAny (model prog w) A (call (.builtin "list.append") [acc, x]) (fun _ s₄ =>
          codeAny (model prog w) A (.compLoop (.ListComp elt [⟨t1, i1, [], 0⟩] scope pos) 0 it acc env) R s₄)
          (fun _ _ => False) s₃) (fun _ _ => False) s₂) (fun _ _ => False) s₁) (fun _ _ => False) s₁) (fun _ _ => False) s) :
    codeAny (model prog w) A (.compLoop (.ListComp elt [⟨t1, i1, [], 0⟩] scope pos) 0 it acc env) R s := by
  refine codeAny_of_tree ?_
  show wpAny _ A ((compTurn (.ListComp elt [⟨t1, i1, [], 0⟩] scope pos) 0 it acc env).onRaise (fun x => do noteFrame x env; theTreesLotGoes x)) _ _ s
  refine wpAny_noted ?_
  rw [compTurn_list1]
  refine wpAny_bind (wpAny_standAt (wpAny_bind (wpAny_mono h (fun r s₁ h₁ => ?_) fun _ _ f => f.elim)))
  cases r with
  | none => exact wpAny_pure h₁
  | some v =>
    refine wpAny_bind (wpAny_mono h₁ (fun _ s₁ h₁ => ?_) fun _ _ f => f.elim)
    refine wpAny_bind (wpAny_mono h₁ (fun _ s₂ h₂ => ?_) fun _ _ f => f.elim)
    refine wpAny_bind (wpAny_bind (wpAny_mono h₂ (fun x s₃ h₃ => ?_) fun _ _ f => f.elim))
    exact wpAny_bind (wpAny_mono h₃ (fun _ s₄ h₄ => wpAny_pure (wpAny_pure ⟨rfl, h₄⟩)) fun _ _ f => f.elim)
end
end
-- part N6
section
open PySem PySem.W PySem.Spec PySem.Calls PyProof.Rows PySem.SeqAt
set_option linter.all false
set_option maxRecDepth 100000
set_option maxHeartbeats 8000000
open PyProof.Rows.LCg PyProof.Rows.LCt
section
variable {prog : Program} {w : World} {A : Around} {E : Value → Shared → Prop} {s : Shared} {h₀ : Heap} {L : Addr} {m : Str → Option Value}
noncomputable def CellEnd (h₀ : Heap) (L : Addr) (m : Str → Option Value) (s₁ : Shared) (fr : List (Addr × Obj)) (R : Value → List (Addr × Obj) → Prop) (y : Value) (s₂ : Shared) : Prop :=
  ∃ h' tk nw', s₂ = { s₁ with heap := h', toks := tk } ∧ Fr h₀ L h' m ∧ News h₀ L h' (fr ++ nw') ∧ (∀ p ∈ nw', ∀ q ∈ fr, p.1 ≠ q.1) ∧ R y nw'
theorem cell_loop {elt i1 : Expr} {x : Str} {p1 pos : Pos} {scope : Scope} {cl : List (Str × Addr)} {env : Env} {R : Result → Shared → Prop} {C D I T K : Addr} {vs : List Value} {as : List Int} {oC : Obj} {mC : Str → Option Value} (hh : A.handled = none)
    (hkind : scope.kind = .function) (hx : (compEnvC scope ((x, K) :: cl) C env).kindOf x = some .cell) (hv : IntsAre vs as) (hoC : NsObj oC mC) (Inv : Nat → List Value → List (Addr × Obj) → Prop)
    (hne : [I, T, C, K, D].Nodup) (hsz : vs.length ≤ sizeLine)
    (turn : ∀ (i : Nat) (ys : List Value) (nw : List (Addr × Obj)), i < as.length → Inv i ys nw → ∀ oI oK h tk t, oK.data = .cell (some (.int (as.getD i 0) t)) → Fr h₀ L h m → News h₀ L h ([(I, oI), (T, tupO vs), (C, oC), (K, oK), (D, lst ys)] ++ nw) → (∀ p ∈ nw, ∀ q ∈ [(I, oI), (T, tupO vs), (C, oC), (K, oK), (D, lst ys)], p.1 ≠ q.1) →
      wpAny (model prog w) A (eval elt (compEnvC scope ((x, K) :: cl) C env)) (CellEnd h₀ L m { s with heap := h, toks := tk } [(I, oI), (T, tupO vs), (C, oC), (K, oK), (D, lst ys)] (fun y nw' => Inv (i + 1) (ys ++ [y]) nw')) (fun _ _ => False) { s with heap := h, toks := tk })
    (hR : ∀ ys nw h tk oK, Inv vs.length ys nw → Fr h₀ L h m → News h₀ L h ([(T, tupO vs), (C, oC), (K, oK), (D, lst ys)] ++ nw) → (∀ p ∈ nw, ∀ q ∈ [(T, tupO vs), (C, oC), (K, oK), (D, lst ys)], p.1 ≠ q.1) → R (.ok .next) { s with heap := h, toks := tk }) :
    ∀ (k i : Nat) (ys : List Value) (nw : List (Addr × Obj)) (h : Heap) (tk : Nat) (oI oK : Obj) (vK : Option Value), i + k = vs.length → ys.length = i → h.IsTupleIter I T i → oK.data = .cell vK → Fr h₀ L h m → News h₀ L h ([(I, oI), (T, tupO vs), (C, oC), (K, oK), (D, lst ys)] ++ nw) → (∀ p ∈ nw, ∀ q ∈ [(I, oI), (T, tupO vs), (C, oC), (K, oK), (D, lst ys)], p.1 ≠ q.1) → Inv i ys nw →
      codeAny (model prog w) A (.compLoop (.ListComp elt [⟨.Name x p1, i1, [], 0⟩] scope pos) 0 (.ref I) (.ref D) (compEnvC scope ((x, K) :: cl) C env)) R { s with heap := h, toks := tk } := by
  simp only [List.nodup_cons, List.mem_cons, List.not_mem_nil, or_false, not_or] at hne
  obtain ⟨⟨nIT, nIC, nIK, nID⟩, ⟨nTC, nTK, nTD⟩, ⟨nCK, nCD⟩, nKD, _⟩ := hne
  intro k
  induction k with
  | zero =>
    intro i ys nw h tk oI oK vK hik hyl hit hK F N off hI
    have hT : h.IsTuple T vs.toArray := ⟨_, (N _ (.tail _ (.head _))).1, rfl, 0, rfl⟩
    refine step_one (wpAny_pyNext_tuple_end hh hit hT (ikz hik) fun h' hs => ?_)
    have e : i = vs.length := ik0 hik
    subst e
    have nI := (N _ (.head _)).2
    have keep : ∀ b o, b ∉ [I] → h.get? b = some o → h'.get? b = some o := fun b o hb e => hs b o (by simpa using hb) e
    refine hR ys nw h' _ oK hI (fr_but F keep (Ne.symm nI.1) nI.2) (news_but (fun p hp => N p (.tail _ hp)) keep ?_) (fun p hp q hq => off p hp q (.tail _ hq))
    exact al (Ne.symm nIT) (al (Ne.symm nIC) (al (Ne.symm nIK) (al (Ne.symm nID) fun p hp => off p hp _ (.head _))))
  | succ k ih =>
    intro i ys nw h tk oI oK vK hik hyl hit hK F N off hI
    have hi : i < vs.length := ikl hik
    have hib : i < as.length := by rw [← hv.length]; exact hi
    obtain ⟨u, hu⟩ := IntsAre.int_at hv i vs[i] (List.getElem?_eq_getElem hi)
    have hT : h.IsTuple T vs.toArray := ⟨_, (N _ (.tail _ (.head _))).1, rfl, 0, rfl⟩
    refine step_one (wpAny_pyNext_tuple_item (x := vs[i]) hit hT (by simp [hi]) fun h1 hit1 hs1 => ?_)
    refine letGo_tupleiter hit1 ?_
    have nI := (N _ (.head _)).2
    have nK := (N _ (.tail _ (.tail _ (.tail _ (.head _))))).2
    have eK1 : h1.get? K = some oK := by rw [hs1.2 _ (Ne.symm nIK)]; exact (N _ (.tail _ (.tail _ (.tail _ (.head _))))).1
    refine wpAny_assign_Name (wpAny_storeName_cell (c := K) (by simp [compEnvC, relabel, hkind]) hx (by simp [compEnvC]) ⟨oK, eK1, hK⟩ fun h2 hc2 hs2 => ?_)
    obtain ⟨oK2, eK2, dK2⟩ := hc2
    obtain ⟨oI2, eI1, rI⟩ := hit1
    have eI2 : h2.get? I = some oI2 := by rw [hs2.2 _ nIK]; exact eI1
    have keep : ∀ b o, b ≠ I → b ≠ K → h.get? b = some o → h2.get? b = some o := fun b o q1 q2 e => by rw [hs2.2 b q2, hs1.2 b q1]; exact e
    have F2 : Fr h₀ L h2 m := (F.change hs1 nI.1 nI.2).change hs2 nK.1 nK.2
    rw [hu] at dK2
    have N2 : News h₀ L h2 ([(I, oI2), (T, tupO vs), (C, oC), (K, oK2), (D, lst ys)] ++ nw) := al ⟨eI2, nI⟩
      (al ⟨keep _ _ (Ne.symm nIT) nTK (N _ (.tail _ (.head _))).1, (N _ (.tail _ (.head _))).2⟩
      (al ⟨keep _ _ (Ne.symm nIC) nCK (N _ (.tail _ (.tail _ (.head _)))).1, (N _ (.tail _ (.tail _ (.head _)))).2⟩
      (al ⟨eK2, nK⟩
      (al ⟨keep _ _ (Ne.symm nID) (Ne.symm nKD) (N _ (.tail _ (.tail _ (.tail _ (.tail _ (.head _)))))).1, (N _ (.tail _ (.tail _ (.tail _ (.tail _ (.head _)))))).2⟩
      fun p hp => ⟨keep _ _ (off p hp _ (.head _)) (off p hp _ (.tail _ (.tail _ (.tail _ (.head _))))) (N p (List.mem_append_right _ hp)).1, (N p (List.mem_append_right _ hp)).2⟩))))
    have off2 : ∀ p ∈ nw, ∀ q ∈ [(I, oI2), (T, tupO vs), (C, oC), (K, oK2), (D, lst ys)], p.1 ≠ q.1 := fun p hp =>
      al (off p hp (I, oI) (.head _)) (al (off p hp _ (.tail _ (.head _))) (al (off p hp _ (.tail _ (.tail _ (.head _)))) (al (off p hp (K, oK) (.tail _ (.tail _ (.tail _ (.head _))))) (al (off p hp _ (.tail _ (.tail _ (.tail _ (.tail _ (.head _)))))) (List.forall_mem_nil _)))))
    refine wpAny_mono (turn i ys nw hib hI oI2 oK2 h2 _ u dK2 F2 N2 off2) (fun y s₂ z => ?_) fun _ _ f => f
    obtain ⟨h3, tk3, nw3, rfl, F3, N3, off3, hI3⟩ := z
    have zD := (N3 _ (.tail _ (.tail _ (.tail _ (.tail _ (.head _)))))).1
    have nD := (N3 _ (.tail _ (.tail _ (.tail _ (.tail _ (.head _)))))).2
    refine append_at (hsz := by show ys.toArray.size ≤ sizeLine; rw [List.size_toArray, hyl]; exact Nat.le_trans (Nat.le_of_lt hi) hsz) zD fun h5 hs5 hD5 => ?_
    refine ih (i + 1) (ys ++ [y]) nw3 h5 tk3 oI2 oK2 _ (iks hik) (by rw [List.length_append, List.length_singleton, hyl]) ⟨oI2, by rw [hs5.2 _ nID]; exact (N3 _ (.head _)).1, rI⟩ dK2 (F3.change hs5 nD.1 nD.2) ?_ ?_ hI3
    · have k5 : ∀ b o, b ≠ D → h3.get? b = some o → h5.get? b = some o := fun b o q e => by rw [hs5.2 b q]; exact e
      exact al ⟨k5 _ _ nID (N3 _ (.head _)).1, (N3 _ (.head _)).2⟩
        (al ⟨k5 _ _ nTD (N3 _ (.tail _ (.head _))).1, (N3 _ (.tail _ (.head _))).2⟩
        (al ⟨k5 _ _ nCD (N3 _ (.tail _ (.tail _ (.head _)))).1, (N3 _ (.tail _ (.tail _ (.head _)))).2⟩
        (al ⟨k5 _ _ nKD (N3 _ (.tail _ (.tail _ (.tail _ (.head _))))).1, (N3 _ (.tail _ (.tail _ (.tail _ (.head _))))).2⟩
        (al ⟨hD5.trans (congrArg some (lst_snoc ys y)), nD⟩
        fun p hp => ⟨k5 _ _ (off3 p hp _ (.tail _ (.tail _ (.tail _ (.tail _ (.head _)))))) (N3 p (List.mem_append_right _ hp)).1, (N3 p (List.mem_append_right _ hp)).2⟩))))
    · exact fun p hp => al (off3 p hp _ (.head _)) (al (off3 p hp _ (.tail _ (.head _))) (al (off3 p hp _ (.tail _ (.tail _ (.head _)))) (al (off3 p hp _ (.tail _ (.tail _ (.tail _ (.head _))))) (al (off3 p hp (D, lst ys) (.tail _ (.tail _ (.tail _ (.tail _ (.head _)))))) (List.forall_mem_nil _)))))
end
end
-- part N7
section
open PySem PySem.W PySem.Spec PySem.Calls PyProof.Rows PySem.SeqAt
set_option linter.all false
set_option maxRecDepth 100000
set_option maxHeartbeats 8000000
open PyProof.Rows.LCg PyProof.Rows.LCt
theorem nodup5 (T : Nat) : [T + 1, T, T + 1 + 1 + 1, T + 1 + 1 + 1 + 1, T + 1 + 1].Nodup :=
  have h : ([1, 0, 3, 4, 2] : List Nat).Nodup := by decide
  (List.pairwise_map (f := fun k => T + k) (R := fun a b => a ≠ b)).mpr (h.imp fun h e => h (Nat.add_left_cancel e))
theorem perm5 {α : Type} {i t c k d : α} {l : List α} : ∀ q ∈ i :: t :: c :: k :: d :: l, q ∈ k :: c :: d :: i :: t :: l :=
  sub_cons (.tail _ (.tail _ (.tail _ (.head _)))) (sub_cons (.tail _ (.tail _ (.tail _ (.tail _ (.head _))))) (sub_cons (.tail _ (.head _)) (sub_cons (.head _) (sub_cons (.tail _ (.tail _ (.head _))) fun q hq => .tail _ (.tail _ (.tail _ (.tail _ (.tail _ hq))))))))
theorem far5 {T : Nat} {x : Addr} {a b c d e : Obj} (h : @LT.lt Nat _ x T) : ∀ q ∈ ([(T + 1, a), (T, b), (T + 1 + 1 + 1, c), (T + 1 + 1 + 1 + 1, d), (T + 1 + 1, e)] : List (Addr × Obj)), x ≠ q.1 :=
  have z (k : Nat) : @Ne Nat x (T + k) := Nat.ne_of_lt (Nat.lt_of_lt_of_le h (Nat.le_add_right T k))
  List.forall_mem_cons.mpr ⟨z 1, List.forall_mem_cons.mpr ⟨z 0, List.forall_mem_cons.mpr ⟨z 3, List.forall_mem_cons.mpr ⟨z 4, List.forall_mem_cons.mpr ⟨z 2, List.forall_mem_nil _⟩⟩⟩⟩⟩
section
variable {prog : Program} {w : World} {A : Around} {E : Value → Shared → Prop} {s : Shared} {h₀ : Heap} {L : Addr} {m : Str → Option Value} {news : List (Addr × Obj)}
theorem nsObj0 : NsObj { cls := .type "dict", data := .dict #[] } (fun _ => none) := ⟨_, _, rfl, fun e he => by simp at he, fun _ => rfl⟩
theorem comp_cell {elt i1 : Expr} {x : Str} {p1 pos : Pos} {scope : Scope} {cl : List (Str × Addr)} {env : Env} {as : List Int} {Q : Value → Shared → Prop} (hh : A.handled = none) (F : Fr h₀ L s.heap m) (N : News h₀ L s.heap news)
    (hclos : closureFor scope env = pure cl) (hkind : scope.kind = .function) (hnames : ∀ y ∈ scope.names, y.2 = .local → scope.names.lookup y.1 = some .local)
    (hcells : ∀ n, cellsFrom n scope.names cl = (x, n) :: cl) (hpush : ∀ h, pushCells h scope.names = h.push { cls := .type "cell", data := .cell none }) (hx : ∀ C K, (compEnvC scope ((x, K) :: cl) C env).kindOf x = some .cell)
    (hev1 : ∀ (s : Shared) (Q : Value → Shared → Prop), (∀ vs tk, IntsAre vs as → Q (.ref s.heap.objs.size) { s with heap := s.heap.push (tupO vs), toks := tk }) → wpAny (model prog w) A (eval i1 env) Q E s)
    (hf1 : ∀ x, foldedSetIterable i1 env x = pure x) (hlen : as.length ≤ 100) (Inv : Nat → List Value → List (Addr × Obj) → Prop) (h0 : Inv 0 [] news)
    (turn : ∀ (i : Nat) (ys : List Value) (nw : List (Addr × Obj)), i < as.length → Inv i ys nw → ∀ I T C K D vs oI oC oK mC h tk t, NsObj oC mC → oK.data = .cell (some (.int (as.getD i 0) t)) → [I, T, C, K, D].Nodup → Fr h₀ L h m → News h₀ L h ([(I, oI), (T, tupO vs), (C, oC), (K, oK), (D, lst ys)] ++ nw) → (∀ p ∈ nw, ∀ q ∈ [(I, oI), (T, tupO vs), (C, oC), (K, oK), (D, lst ys)], p.1 ≠ q.1) →
      wpAny (model prog w) A (eval elt (compEnvC scope ((x, K) :: cl) C env)) (CellEnd h₀ L m { s with heap := h, toks := tk } [(I, oI), (T, tupO vs), (C, oC), (K, oK), (D, lst ys)] (fun y nw' => Inv (i + 1) (ys ++ [y]) nw')) (fun _ _ => False) { s with heap := h, toks := tk })
    (hret : ∀ ys nw D h tk, Inv as.length ys nw → Fr h₀ L h m → News h₀ L h ((D, lst ys) :: nw) → (∀ p ∈ nw, p.1 ≠ D) → Q (.ref D) { s with heap := h, toks := tk }) :
    wpAny (model prog w) A (eval (.ListComp elt [⟨.Name x p1, i1, [], 0⟩] scope pos) env) Q E s := by
  rw [eval_ListComp]
  refine wpAny_comprehension_free (use := none) rfl hf1 hclos hkind hnames (hev1 _ _ fun vs tk hv => ?_)
  have hT1 : (s.heap.push (tupO vs)).IsTuple s.heap.objs.size vs.toArray := ⟨_, Heap.get?_push_size _ rfl, rfl, 0, rfl⟩
  refine wpAny_pyIter_tuple hT1 ?_
  have F1 := F.push (tupO vs)
  have N1 := News.push F N (tupO vs)
  have s1 : (s.heap.push (tupO vs)).objs.size = s.heap.objs.size + 1 := Heap.size_push ..
  have below : ∀ p ∈ news, p.1 < s.heap.objs.size := fun p hp => Heap.lt_size (N p hp).1
  generalize hT : s.heap.objs.size = T at hT1 N1 s1 below ⊢
  generalize hH1 : s.heap.push (tupO vs) = H1 at hT1 F1 N1 s1 ⊢
  have F2 := F1.push { cls := .type "tuple_iterator", data := .fields #[.ref T, .int 0 0] }
  have N2 := News.push F1 N1 { cls := .type "tuple_iterator", data := .fields #[.ref T, .int 0 0] }
  have s2 : (H1.push { cls := .type "tuple_iterator", data := .fields #[.ref T, .int 0 0] }).objs.size = H1.objs.size + 1 := Heap.size_push ..
  generalize hH2 : H1.push { cls := .type "tuple_iterator", data := .fields #[.ref T, .int 0 0] } = H2 at F2 N2 s2 ⊢
  rw [s1] at s2 N2 ⊢
  refine wpAny_newObj_type (newEnv_cells ?_)
  have F3 := F2.push (lst [])
  have N3 := News.push F2 N2 (lst [])
  have s3 : (H2.push (lst [])).objs.size = H2.objs.size + 1 := Heap.size_push ..
  have F4 := F3.push { cls := .type "dict", data := .dict #[] }
  have N4 := News.push F3 N3 { cls := .type "dict", data := .dict #[] }
  have s4 : ((H2.push (lst [])).push { cls := .type "dict", data := .dict #[] }).objs.size = (H2.push (lst [])).objs.size + 1 := Heap.size_push ..
  have F5 := F4.push { cls := .type "cell", data := .cell none }
  have N5 := News.push F4 N4 { cls := .type "cell", data := .cell none }
  rw [s4, s3, s2] at N5
  rw [hcells, hpush]
  change codeAny _ _ (.compStart _ _ _ (.ref H2.objs.size) (compEnvC scope ((x, (H2.push (lst [])).objs.size + 1) :: cl) (H2.push (lst [])).objs.size env)) (compPost _ _ _ _ _ _ (H2.push (lst [])).objs.size) ({ s with heap := ((H2.push (lst [])).push { cls := .type "dict", data := .dict #[] }).push { cls := .type "cell", data := .cell none }, toks := _ })
  rw [s3, s2]
  generalize ((H2.push (lst [])).push { cls := .type "dict", data := .dict #[] }).push { cls := .type "cell", data := .cell none } = H5 at F5 N5 ⊢
  have hit5 : H5.IsTupleIter (T + 1) T 0 := ⟨_, (N5 _ (.tail _ (.tail _ (.tail _ (.head _))))).1, rfl, rfl⟩
  have loop : codeAny (model prog w) A (.compLoop (.ListComp elt [⟨.Name x p1, i1, [], 0⟩] scope pos) 0 (.ref (T + 1)) (.ref (T + 1 + 1)) (compEnvC scope ((x, T + 1 + 1 + 1 + 1) :: cl) (T + 1 + 1 + 1) env)) (compPost (model prog w) A E none Q (.ref (T + 1 + 1)) (T + 1 + 1 + 1)) { s with heap := H5, toks := tk } := by
    refine cell_loop (C := T + 1 + 1 + 1) (D := T + 1 + 1) (I := T + 1) (T := T) (K := T + 1 + 1 + 1 + 1) (oC := { cls := .type "dict", data := .dict #[] }) (mC := fun _ => none) hh hkind (hx _ _) hv nsObj0 Inv ?_ ?_ ?_ ?_ vs.length 0 [] news H5 tk { cls := .type "tuple_iterator", data := .fields #[.ref T, .int 0 0] } { cls := .type "cell", data := .cell none } none (Nat.zero_add _) rfl hit5 rfl F5 ?_ ?_ h0
    · exact nodup5 T
    · rw [hv.length]; exact Nat.le_trans hlen (Nat.le_of_ble_eq_true rfl)
    · intro i ys nw hi hI oI oK h tk t dK F' N' off'
      refine turn i ys nw hi hI _ _ _ _ _ vs oI _ oK _ h tk t nsObj0 dK ?_ F' N' off'
      exact nodup5 T
    · intro ys nw h tk' oK hI F' N' off'
      refine ⟨_, NsObj.ns nsObj0 (N' _ (.tail _ (.head _))).1, fun h9 hs9 => ?_⟩
      have nC := (N' _ (.tail _ (.head _))).2
      rw [hv.length] at hI
      refine hret ys nw _ h9 tk' hI (F'.change hs9 nC.1 nC.2) ?_ (fun p hp => off' p hp _ (.tail _ (.tail _ (.tail _ (.head _)))))
      intro p hp
      rcases List.mem_cons.mp hp with rfl | hp
      · have z := N' _ (.tail _ (.tail _ (.tail _ (.head _))))
        refine ⟨?_, z.2⟩
        rw [hs9.2 _ (by show ¬ (@Eq Nat _ _); dsimp only; omega)]; exact z.1
      · have z := N' p (List.mem_append_right _ hp)
        exact ⟨by rw [hs9.2 _ (off' p hp _ (.tail _ (.head _)))]; exact z.1, z.2⟩
    · exact fun p hp => N5 p (perm5 p hp)
    · exact fun p hp => far5 (below p hp)
  exact codeAny_compStart_list loop (wpAny_pyIter_tupleiter (i := 0) (t := T) hit5 loop)
noncomputable def CellGo (prog : Program) (w : World) (A : Around) (h₀ : Heap) (L : Addr) (m : Str → Option Value) (s : Shared) (elt : Expr) (x : Str) (scope : Scope) (cl : List (Str × Addr)) (env : Env) (as : List Int) (news : List (Addr × Obj)) (Q : Value → Shared → Prop) : Prop :=
  ∃ Inv : Nat → List Value → List (Addr × Obj) → Prop, Inv 0 [] news ∧
    (∀ (i : Nat) (ys : List Value) (nw : List (Addr × Obj)), i < as.length → Inv i ys nw → ∀ I T C K D vs oI oC oK mC h tk t, NsObj oC mC → oK.data = .cell (some (.int (as.getD i 0) t)) → [I, T, C, K, D].Nodup → Fr h₀ L h m → News h₀ L h ([(I, oI), (T, tupO vs), (C, oC), (K, oK), (D, lst ys)] ++ nw) → (∀ p ∈ nw, ∀ q ∈ [(I, oI), (T, tupO vs), (C, oC), (K, oK), (D, lst ys)], p.1 ≠ q.1) →
      wpAny (model prog w) A (eval elt (compEnvC scope ((x, K) :: cl) C env)) (CellEnd h₀ L m { s with heap := h, toks := tk } [(I, oI), (T, tupO vs), (C, oC), (K, oK), (D, lst ys)] (fun y nw' => Inv (i + 1) (ys ++ [y]) nw')) (fun _ _ => False) { s with heap := h, toks := tk }) ∧
    (∀ ys nw D h tk, Inv as.length ys nw → Fr h₀ L h m → News h₀ L h ((D, lst ys) :: nw) → (∀ p ∈ nw, p.1 ≠ D) → Q (.ref D) { s with heap := h, toks := tk })
theorem comp_K {elt i1 : Expr} {x : Str} {p1 pos : Pos} {scope : Scope} {cl : List (Str × Addr)} {env : Env} {as : List Int} {Q : Value → Shared → Prop} (hh : A.handled = none) (F : Fr h₀ L s.heap m) (N : News h₀ L s.heap news)
    (hclos : closureFor scope env = pure cl) (hkind : scope.kind = .function) (hnames : ∀ y ∈ scope.names, y.2 = .local → scope.names.lookup y.1 = some .local)
    (hcells : ∀ n, cellsFrom n scope.names cl = (x, n) :: cl) (hpush : ∀ h, pushCells h scope.names = h.push { cls := .type "cell", data := .cell none }) (hx : ∀ C K, (compEnvC scope ((x, K) :: cl) C env).kindOf x = some .cell)
    (hev1 : ∀ (s : Shared) (Q : Value → Shared → Prop), (∀ vs tk, IntsAre vs as → Q (.ref s.heap.objs.size) { s with heap := s.heap.push (tupO vs), toks := tk }) → wpAny (model prog w) A (eval i1 env) Q E s)
    (hf1 : ∀ x, foldedSetIterable i1 env x = pure x) (hlen : as.length ≤ 100) (h : CellGo prog w A h₀ L m s elt x scope cl env as news Q) :
    wpAny (model prog w) A (eval (.ListComp elt [⟨.Name x p1, i1, [], 0⟩] scope pos) env) Q E s := by
  obtain ⟨Inv, a, b, c⟩ := h
  exact comp_cell hh F N hclos hkind hnames hcells hpush hx hev1 hf1 hlen Inv a b c
end
end
-- part S4
section
open PySem PySem.W PySem.Spec PySem.Calls PyProof.Rows PySem.SeqAt
set_option linter.all false
set_option maxRecDepth 100000
set_option maxHeartbeats 8000000
open PyProof.Rows.LCg PyProof.Rows.LCt
noncomputable def ab6 : List (Int × Int) := [(1, 1), (1, 2), (2, 1), (2, 2), (3, 1), (3, 2)]
noncomputable def selP (d : Nat → Int) (n : Int) : Nat → List (Int × Int)
  | 0 => []
  | i + 1 => selP d n i ++ (if d i = n then [ab6.getD i (0, 0)] else [])
set_option genSizeOf false in
set_option genInjectivity false in
structure Lk where
  e : Addr
  n : Int
  k : Tok
  t : Addr
  vs : List Value
noncomputable def Lk.v (q : Lk) : Value := .ref q.e
noncomputable def Lk.os (q : Lk) : List (Addr × Obj) := [(q.e, tupO [.int q.n q.k, .ref q.t]), (q.t, tupO q.vs)]
section
theorem Pairs2.snoc {news : List (Addr × Obj)} {vs : List Value} {ps : List (Int × Int)} {e : Addr} {r n : Int} {t u : Tok} (h : Pairs2 news vs ps) (hm : (e, tupO [.int r t, .int n u]) ∈ news) : Pairs2 news (vs ++ [.ref e]) (ps ++ [(r, n)]) := by
  induction h with
  | nil => exact .cons hm .nil
  | cons hm' _ ih => exact .cons hm' ih
theorem TDict.nodup {prog : Program} {w : World} {news : List (Addr × Obj)} {d : Addr} {xs : List (List Int × Addr × Value)} (h : TDict prog w news d xs) : (xs.map (·.1)).Nodup := by
  obtain ⟨_, _, _, _, _, _, _, _, hn, _⟩ := h
  exact hn
theorem item_T' {prog : Program} {w : World} {A : Around} {E : Value → Shared → Prop} {s : Shared} {h₀ : Heap} {L : Addr} {news R : List (Addr × Obj)} {value slice : Expr} {d a : Addr} {xs : List (List Int × Addr × Value)} {ks : List Int} {ok : Obj} {b : Addr} {v : Value} {Q : Value → Shared → Prop} (N : News h₀ L s.heap news) (hT : TDict prog w R d xs) (hs : ∀ q ∈ R, q ∈ news) (hka : (a, ok) ∈ R) (hu : A.units + 1 < cLine) (tk : TupKeyObj (intKind prog w) ks ok)
    (hp : atKey xs ks = some (b, v)) (h : ∀ tk', Q v { s with toks := tk' })
    (hs1 : subscripted slice false (.ref d) (.ref a) = operate [.ref d, .ref a] (getItem (.ref d) (.ref a)) := by with_unfolding_all rfl) (hg : ∀ r, letTemporaryGo value (.ref d) r = pure () := by intro _; with_unfolding_all rfl) :
    wpAny (model prog w) A (subscriptTail value slice (.ref d) (.ref a)) Q E s := item_T hu N (hT.mono hs) (hs _ hka) tk hp h hs1 hg
inductive LInv (d : Nat → Int) (rest : List (Addr × Obj)) (c1 c2 c3 c4 : Addr × Obj) (l : Addr) (op : Obj) (i : Nat) : List Value → List (Addr × Obj) → Prop
  | mk (ls : List Lk) (hls : ls.length = i) (hq1 : ∀ (j : Nat) (q : Lk), ls[j]? = some q → q.n = (j : Int) + 1 ∧ Pairs2 rest q.vs (selP d q.n 6)) (hl1 : ∀ q ∈ ls, @LT.lt Nat _ l q.e ∧ @LT.lt Nat _ l q.t) :
    LInv d rest c1 c2 c3 c4 l op i (ls.map Lk.v) (c1 :: c2 :: c3 :: c4 :: (l, op) :: (ls.flatMap Lk.os ++ rest))
inductive LParts (d : Nat → Int) (rest : List (Addr × Obj)) (l : Addr) (ls : List Lk) : Prop
  | mk (ae ta be tb : Addr) (ak bk : Tok) (avs bvs : List Value) (hv : ls.map Lk.v = [.ref ae, .ref be]) (ma : (ae, tupO [.int 1 ak, .ref ta]) ∈ ls.flatMap Lk.os) (mta : (ta, tupO avs) ∈ ls.flatMap Lk.os) (mb : (be, tupO [.int 2 bk, .ref tb]) ∈ ls.flatMap Lk.os) (mtb : (tb, tupO bvs) ∈ ls.flatMap Lk.os)
    (pa : Pairs2 rest avs (selP d 1 6)) (pb : Pairs2 rest bvs (selP d 2 6)) (lr : ∀ q ∈ ls.flatMap Lk.os, @LT.lt Nat _ l q.1) : LParts d rest l ls
theorem lparts_of {d : Nat → Int} {rest : List (Addr × Obj)} {l : Addr} {ls : List Lk} (hls : ls.length = 2) (hq1 : ∀ (j : Nat) (q : Lk), ls[j]? = some q → q.n = (j : Int) + 1 ∧ Pairs2 rest q.vs (selP d q.n 6)) (hl1 : ∀ q ∈ ls, @LT.lt Nat _ l q.e ∧ @LT.lt Nat _ l q.t) : LParts d rest l ls := by
  match ls, hls with
  | [a, b], _ =>
    obtain ⟨ea, pa⟩ := hq1 0 a rfl
    obtain ⟨eb, pb⟩ := hq1 1 b rfl
    have ea' : a.n = 1 := ea
    have eb' : b.n = 2 := eb
    rw [ea'] at pa
    rw [eb'] at pb
    have ma : (a.e, tupO [.int a.n a.k, .ref a.t]) ∈ [a, b].flatMap Lk.os := .head _
    have mb : (b.e, tupO [.int b.n b.k, .ref b.t]) ∈ [a, b].flatMap Lk.os := .tail _ (.tail _ (.head _))
    rw [ea'] at ma
    rw [eb'] at mb
    refine ⟨a.e, a.t, b.e, b.t, a.k, b.k, a.vs, b.vs, rfl, ma, .tail _ (.head _), mb, .tail _ (.tail _ (.tail _ (.head _))), pa, pb, ?_⟩
    obtain ⟨x1, x2⟩ := hl1 a (.head _)
    obtain ⟨y1, y2⟩ := hl1 b (.tail _ (.head _))
    exact List.forall_mem_cons.mpr ⟨x1, List.forall_mem_cons.mpr ⟨x2, List.forall_mem_cons.mpr ⟨y1, List.forall_mem_cons.mpr ⟨y2, List.forall_mem_nil _⟩⟩⟩⟩
theorem getD12 {i : Nat} (h : i < 2) : [(1 : Int), 2].getD i 0 = (i : Int) + 1 := (by decide : ∀ i : Fin 2, [(1 : Int), 2].getD i.1 0 = ((i.1 : Nat) : Int) + 1) ⟨i, h⟩
theorem prs2 {news : List (Addr × Obj)} {e1 e2 : Addr} {k1 k2 : Int} {u1 u2 : Tok} {x1 x2 : Value} (m1 : (e1, tupO [.int k1 u1, x1]) ∈ news) (m2 : (e2, tupO [.int k2 u2, x2]) ∈ news) :
    ∀ (i : Nat) (kv : Int × Value), [(k1, x1), (k2, x2)][i]? = some kv → ∃ t u, [Value.ref e1, .ref e2][i]? = some (.ref t) ∧ (t, tupO [.int kv.1 u, kv.2]) ∈ news := by
  intro i kv hi
  match i, hi with
  | 0, hi => cases hi; exact ⟨e1, u1, rfl, m1⟩
  | 1, hi => cases hi; exact ⟨e2, u2, rfl, m2⟩
theorem link_end {h₀ : Heap} {L l D2 e t I T C K D : Addr} {m : Str → Option Value} {s₁ : Shared} {oI oC oK oD oT op o2 : Obj} {c1 c2 c3 c4 : Addr × Obj} {h' : Heap} {tk : Nat} {ls : List Lk} {rest R : List (Addr × Obj)} {i : Nat} {kt : Tok} {zs : List Value} {d : Nat → Int}
    (F : Fr h₀ L h' m) (N : News h₀ L h' ((e, tupO [.int ([1, 2].getD i 0) kt, .ref t]) :: (t, tupO zs) :: (D2, o2) :: (I, oI) :: (T, oT) :: (C, oC) :: (K, oK) :: (D, oD) :: c1 :: c2 :: c3 :: c4 :: (l, op) :: R)) (hR : R = ls.flatMap Lk.os ++ rest) (hls : ls.length = i)
    (off1 : ∀ p ∈ c1 :: c2 :: c3 :: c4 :: (l, op) :: R, ∀ q ∈ [(I, oI), (T, oT), (C, oC), (K, oK), (D, oD)], p.1 ≠ q.1)
    (a1 : ∀ p ∈ (D2, o2) :: (I, oI) :: (T, oT) :: (C, oC) :: (K, oK) :: (D, oD) :: c1 :: c2 :: c3 :: c4 :: (l, op) :: R, p.1 < t)
    (a2 : ∀ p ∈ (t, tupO zs) :: (D2, o2) :: (I, oI) :: (T, oT) :: (C, oC) :: (K, oK) :: (D, oD) :: c1 :: c2 :: c3 :: c4 :: (l, op) :: R, p.1 < e)
    (hq1 : ∀ (j : Nat) (q : Lk), ls[j]? = some q → q.n = (j : Int) + 1 ∧ Pairs2 rest q.vs (selP d q.n 6)) (hl1 : ∀ q ∈ ls, @LT.lt Nat _ l q.e ∧ @LT.lt Nat _ l q.t) (hz : Pairs2 rest zs (selP d ([1, 2].getD i 0) 6)) (hi : i < [1, 2].length) :
    CellEnd h₀ L m s₁ [(I, oI), (T, oT), (C, oC), (K, oK), (D, oD)] (fun y nw => LInv d rest c1 c2 c3 c4 l op (i + 1) (ls.map Lk.v ++ [y]) nw) (.ref e) { s₁ with heap := h', toks := tk } := by
  subst hR
  have e1 : ∀ x, (ls ++ [Lk.mk e ([1, 2].getD i 0) kt t zs]).flatMap Lk.os ++ x = ls.flatMap Lk.os ++ ((e, tupO [.int ([1, 2].getD i 0) kt, .ref t]) :: (t, tupO zs) :: x) := fun x => cat_flat x
  refine ⟨h', tk, c1 :: c2 :: c3 :: c4 :: (l, op) :: ((ls ++ [Lk.mk e ([1, 2].getD i 0) kt t zs]).flatMap Lk.os ++ rest), rfl, F, fun p hp => ?_, fun p hp q hq => ?_, ?_⟩
  · rw [e1] at hp
    exact N p (mem_in2 (A := [c1, c2, c3, c4, (l, op)]) (B := [(I, oI), (T, oT), (C, oC), (K, oK), (D, oD)]) (Z := [(D2, o2)]) hp)
  · rw [e1] at hp
    rcases mem_or2 (A := [c1, c2, c3, c4, (l, op)]) hp with h | h | h
    · exact off1 p h q hq
    · rw [h]; exact Nat.ne_of_gt (a2 q (.tail _ (.tail _ (List.mem_append_left _ hq))))
    · rw [h]; exact Nat.ne_of_gt (a1 q (.tail _ (List.mem_append_left _ hq)))
  · show LInv _ _ _ _ _ _ _ _ _ (ls.map Lk.v ++ [Lk.v (Lk.mk e ([1, 2].getD i 0) kt t zs)]) _
    rw [map_snoc]
    refine LInv.mk _ (len_snoc hls) (snoc_all hq1 ⟨?_, hz⟩) fun q hq => ?_
    · rw [hls]; exact getD12 hi
    · rcases List.mem_append.mp hq with hq | hq
      · exact hl1 q hq
      · rw [List.mem_singleton.mp hq]
        exact ⟨a2 (l, op) (List.mem_of_getElem? (i := 11) rfl), a1 (l, op) (List.mem_of_getElem? (i := 10) rfl)⟩
theorem st_links {w : World} {oc dV kV doc pm cdv ct : Value} {an od : Option Addr} {osl : Array (Option Value)} {name qual : Str} {params : Arguments} {body : List Stmt} {scope : Scope} {st : Stmt}
  {p : Program} {loose : List Str} {mean : ExcName → Option Value} {mg mb : Str → Option Value} {base h₀ : Heap} {L : Addr} {m : Str → Option Value} {s : Shared} {cd : Value} {fa : Addr} {rest : List (Addr × Obj)}
  {l hD e0 : Addr} {ns : List Int} {rs : List Pd} {qs : List Pq}
  {o1 o2 o3 o4 op : Obj} {Q : Flow → Shared → Prop} {E : Value → Shared → Prop}
  (B : Below callerA base [] h₀) (X : (hd.heap_39 w.params).In h₀) (T : Top p loose mean mg mb h₀)
  (F : Fr h₀ L s.heap m)
  (N : News h₀ L s.heap ((L + 1, o1) :: (L + 1 + 1, o2) :: (L + 1 + 1 + 1, o3) :: (L + 1 + 1 + 1 + 1, o4) :: (l, op) :: rest))
  (hst : body[3]? = some st)
  (d2 : o2.data = .cell (some (.ref e0))) (d3 : o3.data = .cell (some (.ref hD)))
  (me : (e0, W.listOf (rs.map Pd.v).toArray rs.length) ∈ rest) (mr : ∀ r ∈ rs, r.o ∈ rest) (hab : rs.map Pd.ab = ab6) (hrs : rs.length = 6) (hsz : (rs.map Pd.v).length ≤ sizeLine)
  (hT : TDict PySem.Challenge.rw_rh0207_01.row.prog w rest hD (homeXs rs qs)) (hql : qs.length = rs.length) (hq : ∀ (j : Nat) (q : Pq), qs[j]? = some q → q.d = drawV ns j 3)
  (hret : ∀ (rest' : List (Addr × Obj)) (lD T1 T2 : Addr) (v1 v2 : List Value) (h' : Heap) (tk' : Nat), Fr h₀ L h' (fun z => if z = (Str.ofString "links") then some (.ref lD) else m z) →
    News h₀ L h' ((L + 1, o1) :: (L + 1 + 1, o2) :: (L + 1 + 1 + 1, o3) :: (L + 1 + 1 + 1 + 1, o4) :: (l, op) :: rest') → (∀ q ∈ rest, q ∈ rest') → (∀ q ∈ rest', q ∈ rest ∨ @LT.lt Nat _ l q.1) →
    IDict PySem.Challenge.rw_rh0207_01.row.prog w rest' lD [(1, .ref T1), (2, .ref T2)] → (T1, tupO v1) ∈ rest' → (T2, tupO v2) ∈ rest' → Pairs2 rest' v1 (selP (fun j => drawV ns j 3) 1 6) → Pairs2 rest' v2 (selP (fun j => drawV ns j 3) 2 6) → Q .next { s with heap := h', toks := tk' }) :
  (hd.heap_39 w.params).lookup 204 = some ⟨oc, od, .func (fnOf name qual params body scope dV kV doc pm an cdv ct), osl⟩ →
  wpAny (model PySem.Challenge.rw_rh0207_01.row.prog w) (callerA.deeper (envOfC qual scope L fa cd)) (exec st (envOfC qual scope L fa cd)) Q E s := by
  w_top off
  k_with_none
  k_with "ne" => first | assumption | (refine neN ?_; (try dsimp only); first | assumption | exact Nat.ne_of_lt (lt_mem (by assumption) (by k_mem)) | exact Nat.ne_of_gt (lt_mem (by assumption) (by k_mem)) | exact Nat.ne_of_gt (lt_mem2 (by assumption) (by assumption) (by k_mem)) | exact And.left (by assumption) | exact Ne.symm (And.left (by assumption)) | exact And.left (And.right (by assumption)) | exact Ne.symm (And.left (And.right (by assumption))) | exact And.left (And.right (And.right (by assumption))) | exact Ne.symm (And.left (And.right (And.right (by assumption)))) | exact And.left (And.right (And.right (And.right (by assumption)))) | exact Ne.symm (And.left (And.right (And.right (And.right (by assumption))))) | exact And.left (And.right (And.right (And.right (And.right (by assumption))))) | exact Ne.symm (And.left (And.right (And.right (And.right (And.right (by assumption)))))) | exact Ne.symm (And.left (And.right (And.right (And.right (And.right (And.right (by assumption)))))))  | exact Ne.symm (And.left (And.right (And.right (And.right (And.right (And.right (And.right (by assumption)))))))) | omega)
  k_with "all" => first | assumption | exact List.forall_mem_nil _ | (refine' List.forall_mem_cons.mpr ⟨?a, ?b⟩; (case a => k_ne); (case b => k_all)) | exact lt_ne (by assumption) | exact lt_ne_succ (by assumption) | exact fun p hp => Nat.ne_of_lt (lt_at (by assumption) (by k_mem))
  k_with "mem" => first | assumption | exact List.Mem.head _ | (refine' List.Mem.tail _ ?_; k_mem)
  k_with "room" => first | exact lim2 (by assumption) (Nat.le_of_ble_eq_true rfl) | exact lim1 (by assumption) (Nat.le_of_ble_eq_true rfl) | exact lim0 (by assumption)
  k_with "eval ListComp" => (k_here; (with_reducible show wpAny _ _ (eval (Expr.ListComp _ [⟨_, _, [], _⟩] _ _) _) _ _ _); k_dflt (refine comp_K (as := [1, 2]) (by exact rfl) (by k_asm) (by k_asm) (by with_unfolding_all rfl) (by rfl) (by decide) (by intro _; rfl) (by intro _; rfl) (by intro _ _; rfl) (fun s Q h => ev_int2 h) (by intro _; rfl) (by decide) ?_))
  k_with "eval ListComp" => (k_here; (with_reducible show wpAny _ _ (eval (Expr.ListComp _ [⟨_, _, [_], _⟩] _ _) _) _ _ _); k_dflt (refine comp_T (by k_asm) (by with_unfolding_all rfl) (by decide) (by rfl) (by decide) (by rfl) ?_))
  k_with "pyIter ref" => (k_here; (with_reducible show wpAny _ _ (pyIter (Value.ref _)) (SrcW _ _ _ _ _ _ _) _ _); k_dflt (refine src_lst (by exact rfl) (by k_asm) (by k_asm) (by k_mem) (by assumption) ?_); intro h9')
  k_with "subscriptTail Name Name ref ref" => (k_here; k_dflt (refine item_T' (by k_asm) (by with_reducible assumption) (by intro q9' hq9'; repeat (first | with_reducible exact hq9' | refine List.mem_cons_of_mem _ ?_)) (by with_reducible assumption) (by first | ktr_units | decide) pair_key (by assumption) ?_); intro tk9')
  k_with "call type:tuple" => (k_here; k_dflt (refine' PySem.W.kde_tupleOf ?k1 ?k2 ?k3 ?k4 ?k5 ?_; (case k1 => k_asm); (case k2 => k_asm); (case k3 => exact News.isList (by k_asm) (by k_mem)); (case k4 => (rw [List.size_toArray]; omega)); (case k5 => exact rfl); k_whole); intro D' h' F' N' l1; (try k_lt l1))
  k_fill
  intro ho
  have e9 := fn_is (by k_is) ho
  clear ho
  cases e9
  cases Option.some.inj hst
  clear hst
  k_steps
  refine ⟨LInv (fun j => drawV ns j 3) rest (L + 1, o1) (L + 1 + 1, o2) (L + 1 + 1 + 1, o3) (L + 1 + 1 + 1 + 1, o4) l op, LInv.mk [] rfl (fun j q h => nomatch h) (fun q h => nomatch h), ?turn, ?fin⟩
  case turn =>
    intro i ys' nw hi hInv
    cases hInv with | mk ls hls hq1 hl1 => ?_
    intro I T C K D vs oI oC oK mC h1 tk1 t hC hK nd F1 N1 off1
    dsimp only [List.cons_append, List.nil_append] at N1
    have meR : (e0, W.listOf (rs.map Pd.v).toArray rs.length) ∈ ls.flatMap Lk.os ++ rest := List.mem_append_right _ me
    have mrR : ∀ r ∈ rs, r.o ∈ ls.flatMap Lk.os ++ rest := fun r hr => List.mem_append_right _ (mr r hr)
    have hTR := hT.mono (news' := ls.flatMap Lk.os ++ rest) fun q hq => List.mem_append_right _ hq
    have hR : ∃ R, R = ls.flatMap Lk.os ++ rest := ⟨_, rfl⟩
    obtain ⟨R, hR⟩ := hR
    rw [← hR] at N1 off1 meR mrR hTR
    clear me hT N
    k_steps
    have hLt : ∀ q ∈ rs.map Pd.v, True := fun _ _ => trivial
    refine restT_ind (Inv := fun j zs nw => nw = (I, oI) :: (T, tupO vs) :: (C, oC) :: (K, oK) :: (D, lst (ls.map Lk.v)) :: (L + 1, o1) :: (L + 1 + 1, o2) :: (L + 1 + 1 + 1, o3) :: (L + 1 + 1 + 1 + 1, o4) :: (l, op) :: R ∧ Pairs2 rest zs (selP (fun j => drawV ns j 3) ([1, 2].getD i 0) j) ∧ zs.length ≤ j) _ ?turn2 ?fin2 _ 0 _ _ (Nat.zero_add _) ⟨rfl, .nil, Nat.le_refl _⟩
    case turn2 =>
      intro j zs nw hj hInv v I' oI' C' oC' D' m2 h2 tk2 E2 hP hC' hx F2 N2 off ne
      obtain ⟨rfl, hz, hzl⟩ := hInv
      rw [List.length_map] at hj
      have hj' : j < qs.length := by rw [hql]; exact hj
      have hv := v_at hj hP
      subst hv
      have hat : atKey (homeXs rs qs) [(rs[j]).a, (rs[j]).b] = some ((rs[j]).e, .int (qs[j]).d (qs[j]).t) := atKey_of_get hTR.nodup (i := j) (by
        unfold homeXs
        rw [List.getElem?_zipWith, List.getElem?_eq_getElem hj, List.getElem?_eq_getElem hj'])
      have hdq := hq j (qs[j]) (List.getElem?_eq_getElem hj')
      have mk : ((rs[j]).e, tupO [.int (rs[j]).a (rs[j]).t, .int (rs[j]).b (rs[j]).u]) ∈ R := mrR _ (List.getElem_mem hj)
      generalize hrj : rs[j] = rj at hat mk hx ⊢
      generalize hqj : qs[j] = qj at hat hdq ⊢
      have hgab : ab6.getD j (0, 0) = (rj.a, rj.b) := by
        rw [← hab, List.getD_eq_getElem?_getD, List.getElem?_map, List.getElem?_eq_getElem hj, hrj]; rfl
      have mkr : (rj.e, tupO [.int rj.a rj.t, .int rj.b rj.u]) ∈ rest := by rw [← hrj]; exact mr _ (List.getElem_mem hj)
      k_steps
      · refine CompEnd.intro F2 N2 _ (fun q hq => hq) off (by simp [meR]) ⟨rfl, ?_, by rw [List.length_append]; exact Nat.succ_le_succ hzl⟩
        have e9 : selP (fun j => drawV ns j 3) ([1, 2].getD i 0) (j + 1) = selP (fun j => drawV ns j 3) ([1, 2].getD i 0) j ++ [(rj.a, rj.b)] := by
          rw [selP, if_pos (by rw [← hdq]; assumption), hgab]
        rw [e9]
        exact hz.snoc mkr
      · refine CompEnd.intro F2 N2 _ (fun q hq => hq) off (by simp [meR]) ⟨rfl, ?_, Nat.le_succ_of_le hzl⟩
        have e9 : selP (fun j => drawV ns j 3) ([1, 2].getD i 0) (j + 1) = selP (fun j => drawV ns j 3) ([1, 2].getD i 0) j := by
          rw [selP, if_neg (by rw [← hdq]; assumption), List.append_nil]
        rw [e9]
        exact hz
    case fin2 =>
      intro zs nw hInv D2 h2 tk2 F2 N2 off2
      obtain ⟨rfl, hz, hzl⟩ := hInv
      rw [List.length_map, hrs] at hz hzl
      k_steps
      show CellEnd _ _ _ _ _ _ _ _
      exact link_end (by k_asm) (by k_asm) hR hls off1 (by assumption) (by assumption) hq1 hl1 hz hi
  case fin =>
    intro ys' nw D2 h2 tk2 hInv
    cases hInv with | mk ls hls hq1 hl1 => ?_
    intro F2 N2 off2
    obtain ⟨ae, ta, be, tb, ak, bk, avs, bvs, hv, ma, mta, mb, mtb, pa, pb, lr⟩ := lparts_of hls hq1 hl1
    rw [hv] at N2
    clear hq1 hl1 hls N F hv
    generalize ls.flatMap Lk.os = X9 at N2 off2 ma mta mb mtb lr
    k_steps
    k_dflt (refine dict_pairs_I (kvs := [(1, .ref ta), (2, .ref tb)]) (by exact rfl) (by k_asm) N2 (.head _) (Top.nolimit T) rfl (Nat.le_of_ble_eq_true rfl) (by show ([1, 2] : List Int).Nodup; decide) ?pr ?_)
    case pr => exact prs2 (.tail _ (.tail _ (.tail _ (.tail _ (.tail _ (.tail _ (List.mem_append_left _ ma))))))) (.tail _ (.tail _ (.tail _ (.tail _ (.tail _ (.tail _ (List.mem_append_left _ mb)))))))
    intro d od h3 tk3 F3 N3 l3 hI
    have n3 : @LT.lt Nat _ l d := l3 (l, _) (.tail _ (.tail _ (.tail _ (.tail _ (.tail _ (.head _))))))
    replace N3 : News h₀ L h3 ((L + 1, o1) :: (L + 1 + 1, o2) :: (L + 1 + 1 + 1, o3) :: (L + 1 + 1 + 1 + 1, o4) :: (l, op) :: ((d, od) :: (X9 ++ rest))) := cb_drop N3 (fun q hq => mem_swap1 (A := [(L + 1, o1), (L + 1 + 1, o2), (L + 1 + 1 + 1, o3), (L + 1 + 1 + 1 + 1, o4), (l, op)]) hq)
    have hI' := hI ((d, od) :: (X9 ++ rest)) (.head _)
    clear hI l3 off2 N2 me mr
    k_steps
    have sub : ∀ q ∈ rest, q ∈ (d, od) :: (X9 ++ rest) := fun q hq => .tail _ (List.mem_append_right _ hq)
    refine hret ((d, od) :: (X9 ++ rest)) d ta tb avs bvs _ _ (by k_asm) (by k_asm) sub (fun q hq => ?_) hI' (.tail _ (List.mem_append_left _ mta)) (.tail _ (List.mem_append_left _ mtb)) (pa.mono sub) (pb.mono sub)
    rcases List.mem_cons.mp hq with rfl | hq
    · exact .inr n3
    · rcases List.mem_append.mp hq with hq | hq
      · exact .inr (lr q hq)
      · exact .inl hq
end
end
-- part S5
section
open PySem PySem.W PySem.Spec PySem.Calls PyProof.Rows PySem.SeqAt
set_option linter.all false
set_option maxRecDepth 100000
set_option maxHeartbeats 2000000
open PyProof.Rows.LCg PyProof.Rows.LCt
theorem tup2_at {j : Nat} {t1 t2 : Tok} {v : Value} (hj : j < 2) (h : #[Value.int 1 t1, .int 2 t2][j]? = some v) : ∃ t, v = .int ((j : Int) + 1) t := by
  match j, hj, h with
  | 0, _, h => exact ⟨_, (Option.some.inj h).symm⟩
  | 1, _, h => exact ⟨_, (Option.some.inj h).symm⟩

noncomputable def selC (d : Nat → Int) : Nat → List Int
  | 0 => []
  | i + 1 => selC d i ++ (if d (6 + i) = 2 then [(i : Int) + 1] else [])
section
variable {prog : Program} {w : World} {A : Around} {E : Value → Shared → Prop} {s : Shared} {env : Env} {h₀ : Heap} {L : Addr} {m : Str → Option Value}
theorem assign_T {ct elt iter : Expr} {x y : Str} {px py : Pos} {scope : Scope} {cl : List (Str × Addr)} {pos spos : Pos} {Q : Flow → Shared → Prop} (_F₀ : Fr h₀ L s.heap m) (hL : L = env.locals)
    (hsw : swapsWith (.ListComp elt [⟨.Name x px, iter, [ct], 0⟩] scope pos) (some (.Name y py)) spos.line env = pure true)
    (hclos : closureFor scope env = pure cl) (hcell : ∀ z ∈ scope.names, z.2 ≠ .cell) (hkind : scope.kind = .function)
    (hnames : ∀ z ∈ scope.names, z.2 = .local → scope.names.lookup z.1 = some .local) (hx : scope.names.lookup x = some .local)
    (hy : env.kindOf y = some .local) (hp : (env.scope.kind == .class || (env.scope.kind == .module && env.locals != env.globals)) = false)
    (h : wpAny (model prog w) A (eval iter env) (fun xv s₁ => wpAny (model prog w) A (pyIter xv) (SrcW prog w A h₀ L m (fun s₂ S P n news => CompRestT prog w A h₀ L m env ct elt x scope cl s₂ S P (FinA h₀ L m s₂ y Q) n 0 [] news)) E s₁) E s)
    (hs : ∀ x, foldedSetIterable iter env x = pure x := by intro _; rfl) :
    wpAny (model prog w) A (exec (.Assign [.Name y py] (.ListComp elt [⟨.Name x px, iter, [ct], 0⟩] scope pos) spos) env) Q E s := by
  rw [exec_Assign_Name_used _ _ _ _ hsw]
  have st : ∀ (D : Addr) (s' : Shared) (Q' : Unit → Shared → Prop) (E' : Value → Shared → Prop), Fr h₀ L s'.heap m → (∀ h₂, Fr h₀ L h₂ (fun z => if z = y then some (.ref D) else m z) → Heap.ExtBut L s'.heap h₂ → (∀ C m', C ≠ L → s'.heap.Ns C m' → h₂.Ns C m') → ∀ tk, Q' () { s' with heap := h₂, toks := tk }) → wpAny (model prog w) A (assign (.Name y py) env (.ref D)) Q' E' s' := by
    intro D s' Q' E' F' hQ
    have FL := F'
    rw [hL] at FL
    refine wpAny_assign_Name (wpAny_storeName_local hy FL.ns (fun h₂ hn₂ hs₂ => hQ h₂ ?_ ?_ ?_ _) hp)
    · have hL₀ : h₀.get? L = none := Heap.get?_none_of_le F'.above
      rw [← hL] at hn₂ hs₂
      exact ⟨hn₂, fun b o e => hs₂.extBut b o (fun q => by rw [q, hL₀] at e; cases e) (F'.keep b o e), F'.above⟩
    · rw [hL]; exact hs₂.extBut
    · intro C m' hC hn
      exact hn.sameBut hs₂ (by rw [← hL]; exact hC)
  refine wpAny_bind (wpAny_standAt (wpAny_bind (wpAny_bind ?_)))
  refine wpAny_mono (wpAny_comprehension_free (use := some (assign (.Name y py) env)) (Q := fun _ s' => Q .next s') rfl hs hclos hkind hnames (wpAny_mono h (fun xv s₁ h₁ => wpAny_mono h₁ (fun it s₂ h₂ => ?_) fun _ _ e => e) fun _ _ e => e)) (fun _ s' hq => wpAny_pure (wpAny_pure hq)) fun _ _ e => e
  obtain ⟨I, fp, n, P, St, S, news, rfl, W, hn, hIo, hSt, st', hfp, F, N, hLI, hI0, off, hS, R⟩ := h₂
  refine block_T W hn hIo hSt hcell hkind hx st' hfp F N hLI hI0 off hS R ?_
  intro D C h' tk m' ys n' F' N' o1 hns hC0 hD0 hCL hDL hCD offC fin
  refine st D _ _ _ F' fun h₂ F₂ x₂ k₂ tk₂ => ⟨m', k₂ C m' hCL hns, fun h'' hs'' => fin D h'' _ (F₂.change hs'' hCL hC0) (fun p hp => ?_) o1⟩
  have z : h₂.get? p.1 = some p.2 := x₂ _ _ (N' p hp).2.1 (N' p hp).1
  refine ⟨hs''.extBut _ _ ?_ z, (N' p hp).2⟩
  rcases List.mem_cons.mp hp with rfl | hp
  · exact Ne.symm hCD
  · exact offC p hp
end
section
theorem off1_mem {D : Addr} {l : List (Addr × Obj)} (h : Off1 D l) : ∀ p ∈ l, p.1 ≠ D := by
  induction l with
  | nil => intro p hp; cases hp
  | cons a l ih =>
    intro p hp
    rcases List.mem_cons.mp hp with e | hp
    · rw [e]; exact And.left h
    · exact ih (And.right h) p hp
theorem off3_map {I C D : Addr} {l l' : List (Addr × Obj)} (h : Off3 I C D l) (e : l'.map (·.1) = l.map (·.1)) : Off3 I C D l' := Off3.of fun q hq => by
  have h1 : q.1 ∈ l'.map (·.1) := List.mem_map_of_mem hq
  rw [e] at h1
  obtain ⟨r, hr, h2⟩ := List.mem_map.mp h1
  rw [← h2]
  exact h.mem r hr
theorem ints_snoc {vs : List Value} {ns : List Int} (h : IntsAre vs ns) {n : Int} {t : Tok} : IntsAre (vs ++ [.int n t]) (ns ++ [n]) := by
  induction h with
  | nil => exact .cons _ _ .nil
  | cons _ _ _ ih => exact .cons _ _ ih
inductive KInv (ns : List Int) (D : Addr) (n0 : Nat) (rest : List (Addr × Obj)) (p9 c1 c2 c3 c4 : Addr × Obj) (l : Addr) (i : Nat) : List Value → List (Addr × Obj) → Prop
  | mk (tki : Tok) (z : Int) (cv : List Value) (hz0 : z = 6 + (i : Int)) (hz : IntsAre cv (selC (fun j => drawV ns j 3) i)) : KInv ns D n0 rest p9 c1 c2 c3 c4 l i cv (p9 :: c1 :: c2 :: c3 :: c4 :: (l, W.listOf #[.ref D, .int z tki] n0) :: rest)
theorem KInv.yes {ns : List Int} {D : Addr} {n0 : Nat} {rest : List (Addr × Obj)} {p9 c1 c2 c3 c4 : Addr × Obj} {l : Addr} {i : Nat} {z : Int} {cv : List Value} {tki t : Tok} (hz0 : z = 6 + (i : Int)) (hz : IntsAre cv (selC (fun j => drawV ns j 3) i)) (h : drawV ns z 3 = 2) : KInv ns D n0 rest p9 c1 c2 c3 c4 l (i + 1) (cv ++ [.int ((i : Int) + 1) t]) (p9 :: c1 :: c2 :: c3 :: c4 :: (l, W.listOf #[.ref D, .int (z + 1) tki] n0) :: rest) := by
  refine KInv.mk _ _ _ (by omega) ?_
  have h6 : drawV ns ((6 + i : Nat) : Int) 3 = 2 := by
    have : ((6 + i : Nat) : Int) = z := by omega
    rw [this]; exact h
  rw [selC, if_pos h6]
  exact ints_snoc hz
theorem KInv.no {ns : List Int} {D : Addr} {n0 : Nat} {rest : List (Addr × Obj)} {p9 c1 c2 c3 c4 : Addr × Obj} {l : Addr} {i : Nat} {z : Int} {cv : List Value} {tki : Tok} (hz0 : z = 6 + (i : Int)) (hz : IntsAre cv (selC (fun j => drawV ns j 3) i)) (h : drawV ns z 3 ≠ 2) : KInv ns D n0 rest p9 c1 c2 c3 c4 l (i + 1) cv (p9 :: c1 :: c2 :: c3 :: c4 :: (l, W.listOf #[.ref D, .int (z + 1) tki] n0) :: rest) := by
  refine KInv.mk _ _ _ (by omega) ?_
  have h6 : drawV ns ((6 + i : Nat) : Int) 3 ≠ 2 := by
    have : ((6 + i : Nat) : Int) = z := by omega
    rw [this]; exact h
  rw [selC, if_neg h6, List.append_nil]
  exact hz
theorem st_cuts {w : World} {oc dV kV doc pm cdv ct : Value} {an od : Option Addr} {osl : Array (Option Value)} {name qual : Str} {params : Arguments} {body : List Stmt} {scope : Scope} {st : Stmt}
  {p : Program} {loose : List Str} {mean : ExcName → Option Value} {mg mb : Str → Option Value} {base h₀ : Heap} {L : Addr} {m : Str → Option Value} {s : Shared} {cd : Value} {fa : Addr} {rest : List (Addr × Obj)}
  {l D : Addr} {tk0 : Tok} {n0 : Nat} {ys : List Value} {ns : List Int}
  {o1 o2 o3 o4 : Obj} {Q : Flow → Shared → Prop} {E : Value → Shared → Prop}
  (B : Below callerA base [] h₀) (X : (hd.heap_39 w.params).In h₀) (T : Top p loose mean mg mb h₀)
  (F : Fr h₀ L s.heap m)
  (N : News h₀ L s.heap ((L + 1, o1) :: (L + 1 + 1, o2) :: (L + 1 + 1 + 1, o3) :: (L + 1 + 1 + 1 + 1, o4) :: (l, W.listOf #[.ref D, .int 6 tk0] n0) :: rest))
  (hrl : ∀ q ∈ rest, q.1 ≠ l) (hst : body[4]? = some st)
  (d1 : o1.data = .cell (some (.ref l))) (hys : IntsAre ys ns) (h14 : ns.length ≤ 14)
  (mD : (D, lst ys) ∈ rest) (hl : @LT.lt Nat _ (L + 1 + 1 + 1 + 1) l)
  (hret : ∀ (cD : Addr) (cv : List Value) (tki : Tok) (h' : Heap) (tk' : Nat), Fr h₀ L h' (fun z => if z = (Str.ofString "cuts") then some (.ref cD) else m z) →
    News h₀ L h' ((L + 1, o1) :: (L + 1 + 1, o2) :: (L + 1 + 1 + 1, o3) :: (L + 1 + 1 + 1 + 1, o4) :: (l, W.listOf #[.ref D, .int 8 tki] n0) :: (cD, lst cv) :: rest) → cD ≠ l → cD ≠ L + 1 + 1 + 1 + 1 →
    IntsAre cv (selC (fun j => drawV ns j 3) 2) → Q .next { s with heap := h', toks := tk' }) :
  (hd.heap_39 w.params).lookup 204 = some ⟨oc, od, .func (fnOf name qual params body scope dV kV doc pm an cdv ct), osl⟩ →
  wpAny (model PySem.Challenge.rw_rh0207_01.row.prog w) (callerA.deeper (envOfC qual scope L fa cd)) (exec st (envOfC qual scope L fa cd)) Q E s := by
  w_top off
  k_with_none
  k_with "ne" => first | assumption | (refine neN ?_; (try dsimp only); first | assumption | exact Nat.ne_of_lt (lt_mem (by assumption) (by k_mem)) | exact Nat.ne_of_gt (lt_mem (by assumption) (by k_mem)) | exact Nat.ne_of_gt (lt_mem2 (by assumption) (by assumption) (by k_mem)) | exact And.left (by assumption) | exact Ne.symm (And.left (by assumption)) | exact And.left (And.right (by assumption)) | exact Ne.symm (And.left (And.right (by assumption))) | exact And.left (And.right (And.right (by assumption))) | exact Ne.symm (And.left (And.right (And.right (by assumption)))) | exact And.left (And.right (And.right (And.right (by assumption)))) | exact Ne.symm (And.left (And.right (And.right (And.right (by assumption))))) | exact And.left (And.right (And.right (And.right (And.right (by assumption))))) | exact Ne.symm (And.left (And.right (And.right (And.right (And.right (by assumption)))))) | exact Ne.symm (And.left (And.right (And.right (And.right (And.right (And.right (by assumption)))))))  | exact Ne.symm (And.left (And.right (And.right (And.right (And.right (And.right (And.right (by assumption)))))))) | omega)
  k_with "all" => first | assumption | exact List.forall_mem_nil _ | (refine' List.forall_mem_cons.mpr ⟨?a, ?b⟩; (case a => k_ne); (case b => k_all)) | exact lt_ne (by assumption) | exact lt_ne_succ (by assumption) | exact fun p hp => Nat.ne_of_lt (lt_at (by assumption) (by k_mem))
  k_with "mem" => first | assumption | exact List.Mem.head _ | (refine' List.Mem.tail _ ?_; k_mem)
  k_with "room" => first | exact lim2 (by assumption) (Nat.le_of_ble_eq_true rfl) | exact lim1 (by assumption) (Nat.le_of_ble_eq_true rfl) | exact lim0 (by assumption)
  k_with "exec Assign cons ListComp" => (k_here; k_dflt (refine assign_T (by k_asm) (by exact rfl) (by rfl) (by with_unfolding_all rfl) (by decide) (by rfl) (by decide) (by rfl) (by rfl) (by rfl) ?_))
  k_with "pyIter ref" => (k_here; (with_reducible show wpAny _ _ (pyIter (Value.ref _)) (SrcW _ _ _ _ _ _ _) _ _); k_dflt (refine src_tup (by exact rfl) (by k_asm) (by k_asm) (by k_mem) (Nat.le_of_ble_eq_true rfl) (fun h9' => held ?_)))
  k_with "call ref" => (k_here; (with_reducible show wpAny _ _ (call (Value.ref 192) [Value.ref _, Value.int _ _]) _ _ _); k_dflt (refine' draw_ct ?B ?F ?X ?T ?N ?U ?hk ?mD ?nD ?hys ?h14 ?hi ?hi2 ?m1 ?m2 ?hd ?hu ?_; (case B => k_asm); (case F => k_asm); (case X => k_asm); (case T => k_asm); (case N => k_asm); (case U => k_updF); (case hk => exact rfl); (case mD => k_mem); (case nD => assumption); (case hys => assumption); (case h14 => assumption); (case hi => omega); (case hi2 => omega); (case m1 => decide); (case m2 => decide); (case hd => ktr_room); (case hu => ktr_units); k_whole); intro t1' t2' h' tk' F' N'; (try dsimp only at N'))
  k_fill
  intro ho
  have e9 := fn_is (by k_is) ho
  clear ho
  cases e9
  cases Option.some.inj hst
  clear hst
  have nD : D ≠ l := hrl _ mD
  k_steps
  unfold Held
  rename_i t9 h8 F8 N8 hA8 l8
  obtain ⟨_, _, _, _, lt9, _⟩ := id l8
  clear N8 F8 hA8
  refine restT_ind (Inv := KInv ns D n0 rest (t9, tupO [.int 1 s.toks, .int 2 (s.toks + 1)]) (L + 1, o1) (L + 1 + 1, o2) (L + 1 + 1 + 1, o3) (L + 1 + 1 + 1 + 1, o4) l) _ ?turn2 ?fin2 _ 0 _ _ (Nat.zero_add _) (KInv.mk tk0 6 [] rfl .nil)
  case turn2 =>
    intro j zs nw hj hInv
    cases hInv with | mk tki z _ hz0 hz => ?_
    intro v I' oI' C' oC' D' m2 h2 tk2 E2 hP hC' hx F2 N2 off ne
    have hv := tup2_at hj hP
    obtain ⟨t, rfl⟩ := hv
    have om := off.mem
    obtain ⟨nl1, nl2, nl3⟩ := om (l, _) (.tail _ (.tail _ (.tail _ (.tail _ (.tail _ (.head _))))))
    have nl1' : @Ne Nat I' l := Ne.symm nl1
    have nl2' : @Ne Nat C' l := Ne.symm nl2
    have nl3' : @Ne Nat D' l := Ne.symm nl3
    clear om nl1 nl2 nl3
    have hj2 : j < 2 := hj
    clear hj
    k_steps
    · refine CompEnd.intro (by k_asm) (by k_asm) ((t9, tupO [.int 1 s.toks, .int 2 (s.toks + 1)]) :: (L + 1, o1) :: (L + 1 + 1, o2) :: (L + 1 + 1 + 1, o3) :: (L + 1 + 1 + 1 + 1, o4) :: (l, W.listOf #[.ref D, .int (z + 1) _] n0) :: rest) (fun q hq => hq) (off3_map off rfl) (.head _) (KInv.yes hz0 hz (by assumption))
    · refine CompEnd.intro (by k_asm) (by k_asm) ((t9, tupO [.int 1 s.toks, .int 2 (s.toks + 1)]) :: (L + 1, o1) :: (L + 1 + 1, o2) :: (L + 1 + 1 + 1, o3) :: (L + 1 + 1 + 1 + 1, o4) :: (l, W.listOf #[.ref D, .int (z + 1) _] n0) :: rest) (fun q hq => hq) (off3_map off rfl) (.head _) (KInv.no hz0 hz (by assumption))
  case fin2 =>
    intro cv nw hInv
    cases hInv with | mk tki z _ hz0 hz => ?_
    intro D2 h2 tk2 F2 N2 off2
    have hz8 : z = 8 := by rw [hz0]; rfl
    subst hz8
    have om2 := off1_mem off2
    have n1 := om2 (l, W.listOf #[.ref D, .int 8 tki] n0) (List.mem_of_getElem? (i := 5) rfl)
    have n2 := om2 (L + 1 + 1 + 1 + 1, o4) (List.mem_of_getElem? (i := 4) rfl)
    have N3 := cb_drop N2 (fun q (hq : q ∈ (L + 1, o1) :: (L + 1 + 1, o2) :: (L + 1 + 1 + 1, o3) :: (L + 1 + 1 + 1 + 1, o4) :: (l, W.listOf #[.ref D, .int 8 tki] n0) :: (D2, lst cv) :: rest) => mem_swap1 (A := [(L + 1, o1), (L + 1 + 1, o2), (L + 1 + 1 + 1, o3), (L + 1 + 1 + 1 + 1, o4), (l, W.listOf #[.ref D, .int 8 tki] n0)]) hq)
    exact hret D2 cv tki h2 tk2 F2 N3 (Ne.symm n1) (Ne.symm n2) hz
end
end
-- part S6
section
open PySem PySem.W PySem.Spec PySem.Calls PyProof.Rows PySem.SeqAt
set_option linter.all false
set_option maxRecDepth 100000
set_option maxHeartbeats 2000000
open PyProof.Rows.LCg PyProof.Rows.LCt
theorem tup3_at {j : Nat} {t1 t2 t3 : Tok} {v : Value} (hj : j < 3) (h : #[Value.int 1 t1, .int 2 t2, .int 3 t3][j]? = some v) : ∃ t, v = .int ((j : Int) + 1) t := by
  match j, hj, h with
  | 0, _, h => exact ⟨_, (Option.some.inj h).symm⟩
  | 1, _, h => exact ⟨_, (Option.some.inj h).symm⟩
  | 2, _, h => exact ⟨_, (Option.some.inj h).symm⟩
theorem three {α : Type} {l : List α} (h : l.length = 3) : ∃ a b c, l = [a, b, c] := by
  match l, h with
  | [a, b, c], _ => exact ⟨a, b, c, rfl⟩
theorem prs3 {news : List (Addr × Obj)} {e1 e2 e3 : Addr} {k1 k2 k3 : Int} {u1 u2 u3 : Tok} {x1 x2 x3 : Value} (m1 : (e1, tupO [.int k1 u1, x1]) ∈ news) (m2 : (e2, tupO [.int k2 u2, x2]) ∈ news) (m3 : (e3, tupO [.int k3 u3, x3]) ∈ news) :
    ∀ (i : Nat) (kv : Int × Value), [(k1, x1), (k2, x2), (k3, x3)][i]? = some kv → ∃ t u, [Value.ref e1, .ref e2, .ref e3][i]? = some (.ref t) ∧ (t, tupO [.int kv.1 u, kv.2]) ∈ news := by
  intro i kv hi
  match i, hi with
  | 0, hi => cases hi; exact ⟨e1, u1, rfl, m1⟩
  | 1, hi => cases hi; exact ⟨e2, u2, rfl, m2⟩
  | 2, hi => cases hi; exact ⟨e3, u3, rfl, m3⟩
set_option genSizeOf false in
set_option genInjectivity false in
structure Hp where
  e : Addr
  n : Int
  kn : Tok
  hp : Addr
  i : Int
  ti : Tok
  g : Int
  tg : Tok
noncomputable def Hp.v (q : Hp) : Value := .ref q.e
noncomputable def Hp.h (q : Hp) : Addr × Obj := (q.hp, tupO [.int q.i q.ti, .int q.g q.tg])
noncomputable def Hp.os (q : Hp) : List (Addr × Obj) := [(q.e, tupO [.int q.n q.kn, .ref q.hp]), q.h]
noncomputable def gOf (k : Int) : Int := [0, 11, 12, 21, 22, 31, 32].getD k.toNat 0
theorem item_g {prog : Program} {w : World} {A : Around} {E : Value → Shared → Prop} {s : Shared} {h₀ : Heap} {L : Addr} {news : List (Addr × Obj)} {value slice : Expr} {a : Addr} {c : Nat} {k : Int} {u t0 t1 t2 t3 t4 t5 t6 : Tok} {Q : Value → Shared → Prop} (N : News h₀ L s.heap news)
    (hm : (a, W.listOf #[.int 0 t0, .int 11 t1, .int 12 t2, .int 21 t3, .int 22 t4, .int 31 t5, .int 32 t6] c) ∈ news) (h0 : 0 ≤ k) (h7 : k < 7) (h : ∀ t', Q (.int (gOf k) t') s)
    (hs : subscripted slice false (.ref a) (.int k u) = operate [.ref a, .int k u] (getItem (.ref a) (.int k u)) := by with_unfolding_all rfl) :
    wpAny (model prog w) A (subscriptTail value slice (.ref a) (.int k u)) Q E s := by
  refine kba_turn (value' := .Name (Str.ofString "x") ⟨0, 0, 0, 0⟩) (fun _ => rfl) ?_
  have hx : ∃ t', [Value.int 0 t0, .int 11 t1, .int 12 t2, .int 21 t3, .int 22 t4, .int 31 t5, .int 32 t6][k.toNat]? = some (.int (gOf k) t') := by
    rcases (lt7 h0 h7) with rfl | rfl | rfl | rfl | rfl | rfl | rfl <;> exact ⟨_, rfl⟩
  obtain ⟨t', hx⟩ := hx
  exact item_listL (l := [Value.int 0 t0, .int 11 t1, .int 12 t2, .int 21 t3, .int 22 t4, .int 31 t5, .int 32 t6]) ⟨_, (N _ hm).1, rfl, _, rfl⟩ h0 (by omega) hx (h t') hs
section
theorem z8 {z : Int} {j : Nat} (hz : z = 8 + 2 * (j : Int)) (hj : j < 3) : (0 ≤ z ∧ z ≤ 14) ∧ 0 ≤ z + 1 ∧ z + 1 ≤ 14 := by omega
theorem hop_end {h₀ : Heap} {L l e hp I C Dn : Addr} {m : Str → Option Value} {s₁ : Shared} {oI oC oD op op' : Obj} {x p9 c1 c2 c3 c4 : Addr × Obj} {S : List (Addr × Obj) → Prop} {Rr : Value → List (Addr × Obj) → Prop} {h' : Heap} {tk : Nat} {hs : List Hp} {rest R : List (Addr × Obj)} {n i g : Int} {kn ti tg : Tok}
    (F : Fr h₀ L h' m) (N : News h₀ L h' ((e, tupO [.int n kn, .ref hp]) :: (hp, tupO [.int i ti, .int g tg]) :: x :: (I, oI) :: (C, oC) :: (Dn, oD) :: p9 :: c1 :: c2 :: c3 :: c4 :: (l, op') :: R)) (hR : R = hs.flatMap Hp.os ++ rest) (off : Off3 I C Dn (p9 :: c1 :: c2 :: c3 :: c4 :: (l, op) :: R))
    (a1 : ∀ p ∈ x :: (I, oI) :: (C, oC) :: (Dn, oD) :: p9 :: c1 :: c2 :: c3 :: c4 :: (l, op') :: R, p.1 < hp) (a2 : ∀ p ∈ (hp, tupO [.int i ti, .int g tg]) :: x :: (I, oI) :: (C, oC) :: (Dn, oD) :: p9 :: c1 :: c2 :: c3 :: c4 :: (l, op') :: R, p.1 < e)
    (hS : S (p9 :: c1 :: c2 :: c3 :: c4 :: (l, op') :: ((hs ++ [Hp.mk e n kn hp i ti g tg]).flatMap Hp.os ++ rest))) (r : Rr (.ref e) (p9 :: c1 :: c2 :: c3 :: c4 :: (l, op') :: ((hs ++ [Hp.mk e n kn hp i ti g tg]).flatMap Hp.os ++ rest))) :
    CompEnd h₀ L m s₁ I oI C oC Dn oD S Rr (.ref e) { s₁ with heap := h', toks := tk } := by
  subst hR
  have e1 : ∀ y, (hs ++ [Hp.mk e n kn hp i ti g tg]).flatMap Hp.os ++ y = hs.flatMap Hp.os ++ ((e, tupO [.int n kn, .ref hp]) :: (hp, tupO [.int i ti, .int g tg]) :: y) := fun y => cat_flat y
  have om := off.mem
  refine CompEnd.intro F N _ (fun q hq => ?_) (Off3.of fun q hq => ?_) hS r
  · rw [e1] at hq
    exact mem_in2 (A := [p9, c1, c2, c3, c4, (l, op')]) (B := [(I, oI), (C, oC), (Dn, oD)]) (Z := [x]) hq
  · rw [e1] at hq
    rcases mem_or2 (A := [p9, c1, c2, c3, c4, (l, op')]) hq with h | h | h
    · rcases mem_at (A := [p9, c1, c2, c3, c4]) (f := (l, op)) h with h | h
      · exact om q h
      · rw [h]; exact om (l, op) (List.mem_of_getElem? (i := 5) rfl)
    · rw [h]; exact ⟨Nat.ne_of_gt (a2 (I, oI) (List.mem_of_getElem? (i := 2) rfl)), Nat.ne_of_gt (a2 (C, oC) (List.mem_of_getElem? (i := 3) rfl)), Nat.ne_of_gt (a2 (Dn, oD) (List.mem_of_getElem? (i := 4) rfl))⟩
    · rw [h]; exact ⟨Nat.ne_of_gt (a1 (I, oI) (List.mem_of_getElem? (i := 1) rfl)), Nat.ne_of_gt (a1 (C, oC) (List.mem_of_getElem? (i := 2) rfl)), Nat.ne_of_gt (a1 (Dn, oD) (List.mem_of_getElem? (i := 3) rfl))⟩
inductive HInv (ns : List Int) (D : Addr) (n0 : Nat) (rest : List (Addr × Obj)) (p9 c1 c2 c3 c4 : Addr × Obj) (l : Addr) (i : Nat) : List Value → List (Addr × Obj) → Prop
  | mk (hs : List Hp) (tki : Tok) (z : Int) (hz0 : z = 8 + 2 * (i : Int)) (hsl : hs.length = i) (hq : ∀ (j : Nat) (q : Hp), hs[j]? = some q → q.n = (j : Int) + 1 ∧ q.i = 1 + drawV ns (8 + 2 * (j : Int)) 2 ∧ q.g = gOf (drawV ns (9 + 2 * (j : Int)) 7)) (hql : ∀ q ∈ hs, @LT.lt Nat _ l q.e ∧ @LT.lt Nat _ l q.hp) :
    HInv ns D n0 rest p9 c1 c2 c3 c4 l i (hs.map Hp.v) (p9 :: c1 :: c2 :: c3 :: c4 :: (l, W.listOf #[.ref D, .int z tki] n0) :: (hs.flatMap Hp.os ++ rest))
theorem HInv.snoc {ns : List Int} {D : Addr} {n0 : Nat} {rest : List (Addr × Obj)} {p9 c1 c2 c3 c4 : Addr × Obj} {l : Addr} {i : Nat} {hs : List Hp} {tki' : Tok} {z z' n ii g : Int} {e hp : Addr} {kn ti tg : Tok} (hz0 : z = 8 + 2 * (i : Int)) (hsl : hs.length = i) (hq : ∀ (j : Nat) (q : Hp), hs[j]? = some q → q.n = (j : Int) + 1 ∧ q.i = 1 + drawV ns (8 + 2 * (j : Int)) 2 ∧ q.g = gOf (drawV ns (9 + 2 * (j : Int)) 7)) (hql : ∀ q ∈ hs, @LT.lt Nat _ l q.e ∧ @LT.lt Nat _ l q.hp)
    (hz' : z' = z + 1 + 1) (hn : n = (i : Int) + 1) (hi : ii = 1 + drawV ns z 2) (hg : g = gOf (drawV ns (z + 1) 7)) (he : @LT.lt Nat _ l e) (hp' : @LT.lt Nat _ l hp) :
    HInv ns D n0 rest p9 c1 c2 c3 c4 l (i + 1) (hs.map Hp.v ++ [.ref e]) (p9 :: c1 :: c2 :: c3 :: c4 :: (l, W.listOf #[.ref D, .int z' tki'] n0) :: ((hs ++ [Hp.mk e n kn hp ii ti g tg]).flatMap Hp.os ++ rest)) := by
  show HInv _ _ _ _ _ _ _ _ _ _ _ (hs.map Hp.v ++ [Hp.v (Hp.mk e n kn hp ii ti g tg)]) _
  rw [map_snoc]
  refine HInv.mk _ _ _ ?_ (len_snoc hsl) (snoc_all hq ⟨by rw [hsl]; exact hn, by rw [hsl, ← hz0]; exact hi, ?_⟩) fun q hq' => ?_
  · rw [hz', hz0]; push_cast; omega
  · have e9 : (9 : Int) + 2 * ((hs.length : Nat) : Int) = z + 1 := by rw [hsl, hz0]; omega
    rw [e9]; exact hg
  · rcases List.mem_append.mp hq' with hq' | hq'
    · exact hql q hq'
    · rw [List.mem_singleton.mp hq']; exact ⟨he, hp'⟩
theorem hop_off {l : Addr} {hs : List Hp} {rest : List (Addr × Obj)} (hql : ∀ q ∈ hs, @LT.lt Nat _ l q.e ∧ @LT.lt Nat _ l q.hp) (hrl : ∀ q ∈ rest, q.1 ≠ l) : ∀ q ∈ hs.flatMap Hp.os ++ rest, q.1 ≠ l := fun q hq' => by
  rcases List.mem_append.mp hq' with hq' | hq'
  · obtain ⟨r, hr, hq'⟩ := List.mem_flatMap.mp hq'
    exact (List.forall_mem_cons.mpr ⟨Nat.ne_of_gt (hql r hr).1, List.forall_mem_cons.mpr ⟨Nat.ne_of_gt (hql r hr).2, List.forall_mem_nil _⟩⟩ : ∀ q ∈ Hp.os r, q.1 ≠ l) q hq'
  · exact hrl q hq'
inductive HParts (ns : List Int) (l : Addr) (hs : List Hp) : Prop
  | mk (a b c : Hp) (hv : hs.map Hp.v = [.ref a.e, .ref b.e, .ref c.e]) (ma : (a.e, tupO [.int 1 a.kn, .ref a.hp]) ∈ hs.flatMap Hp.os) (mb : (b.e, tupO [.int 2 b.kn, .ref b.hp]) ∈ hs.flatMap Hp.os) (mc : (c.e, tupO [.int 3 c.kn, .ref c.hp]) ∈ hs.flatMap Hp.os) (ma2 : a.h ∈ hs.flatMap Hp.os) (mb2 : b.h ∈ hs.flatMap Hp.os) (mc2 : c.h ∈ hs.flatMap Hp.os)
    (ia : a.i = 1 + drawV ns 8 2) (ga : a.g = gOf (drawV ns 9 7)) (ib : b.i = 1 + drawV ns 10 2) (gb : b.g = gOf (drawV ns 11 7)) (ic : c.i = 1 + drawV ns 12 2) (gc : c.g = gOf (drawV ns 13 7)) (lr : ∀ q ∈ hs.flatMap Hp.os, @LT.lt Nat _ l q.1) : HParts ns l hs
theorem hparts_of {ns : List Int} {l : Addr} {hs : List Hp} (hsl : hs.length = 3) (hq : ∀ (j : Nat) (q : Hp), hs[j]? = some q → q.n = (j : Int) + 1 ∧ q.i = 1 + drawV ns (8 + 2 * (j : Int)) 2 ∧ q.g = gOf (drawV ns (9 + 2 * (j : Int)) 7)) (hql : ∀ q ∈ hs, @LT.lt Nat _ l q.e ∧ @LT.lt Nat _ l q.hp) : HParts ns l hs := by
  obtain ⟨a, b, c, rfl⟩ := three hsl
  obtain ⟨na, ia, ga⟩ := hq 0 a rfl
  obtain ⟨nb, ib, gb⟩ := hq 1 b rfl
  obtain ⟨nc, ic, gc⟩ := hq 2 c rfl
  have ma : (a.e, tupO [.int a.n a.kn, .ref a.hp]) ∈ [a, b, c].flatMap Hp.os := .head _
  have mb : (b.e, tupO [.int b.n b.kn, .ref b.hp]) ∈ [a, b, c].flatMap Hp.os := List.mem_of_getElem? (i := 2) rfl
  have mc : (c.e, tupO [.int c.n c.kn, .ref c.hp]) ∈ [a, b, c].flatMap Hp.os := List.mem_of_getElem? (i := 4) rfl
  rw [na] at ma
  rw [nb] at mb
  rw [nc] at mc
  refine ⟨a, b, c, rfl, ma, mb, mc, List.mem_of_getElem? (i := 1) rfl, List.mem_of_getElem? (i := 3) rfl, List.mem_of_getElem? (i := 5) rfl, ia, ga, ib, gb, ic, gc, fun q hq' => ?_⟩
  obtain ⟨r, hr, hq'⟩ := List.mem_flatMap.mp hq'
  exact (List.forall_mem_cons.mpr ⟨(hql r hr).1, List.forall_mem_cons.mpr ⟨(hql r hr).2, List.forall_mem_nil _⟩⟩ : ∀ q ∈ Hp.os r, @LT.lt Nat _ l q.1) q hq'
theorem hop_lt {l e hp : Addr} {o2 op : Obj} {x i c d p9 c1 c2 c3 c4 : Addr × Obj} {R : List (Addr × Obj)} (a2 : ∀ p ∈ (hp, o2) :: x :: i :: c :: d :: p9 :: c1 :: c2 :: c3 :: c4 :: (l, op) :: R, p.1 < e) : @LT.lt Nat _ l e := a2 (l, op) (List.mem_of_getElem? (i := 10) rfl)
theorem hop_lt2 {l hp : Addr} {op : Obj} {x i c d p9 c1 c2 c3 c4 : Addr × Obj} {R : List (Addr × Obj)} (a2 : ∀ p ∈ x :: i :: c :: d :: p9 :: c1 :: c2 :: c3 :: c4 :: (l, op) :: R, p.1 < hp) : @LT.lt Nat _ l hp := a2 (l, op) (List.mem_of_getElem? (i := 9) rfl)
theorem st_hops {w : World} {oc dV kV doc pm cdv ct : Value} {an od : Option Addr} {osl : Array (Option Value)} {name qual : Str} {params : Arguments} {body : List Stmt} {scope : Scope} {st : Stmt}
  {p : Program} {loose : List Str} {mean : ExcName → Option Value} {mg mb : Str → Option Value} {base h₀ : Heap} {L : Addr} {m : Str → Option Value} {s : Shared} {cd : Value} {fa : Addr} {rest : List (Addr × Obj)}
  {l D : Addr} {tk0 : Tok} {n0 : Nat} {ys : List Value} {ns : List Int}
  {o1 o2 o3 o4 : Obj} {Q : Flow → Shared → Prop} {E : Value → Shared → Prop}
  (B : Below callerA base [] h₀) (X : (hd.heap_39 w.params).In h₀) (T : Top p loose mean mg mb h₀)
  (F : Fr h₀ L s.heap m)
  (N : News h₀ L s.heap ((L + 1, o1) :: (L + 1 + 1, o2) :: (L + 1 + 1 + 1, o3) :: (L + 1 + 1 + 1 + 1, o4) :: (l, W.listOf #[.ref D, .int 8 tk0] n0) :: rest))
  (hrl : ∀ q ∈ rest, q.1 ≠ l) (hr4 : ∀ q ∈ rest, q.1 ≠ L + 1 + 1 + 1 + 1) (hst : body[5]? = some st)
  (d1 : o1.data = .cell (some (.ref l))) (d4 : o4.data = .cell none) (hys : IntsAre ys ns) (h14 : ns.length ≤ 14)
  (mD : (D, lst ys) ∈ rest) (hl : @LT.lt Nat _ (L + 1 + 1 + 1 + 1) l)
  (hret : ∀ (rest' : List (Addr × Obj)) (hD : Addr) (a b c : Hp) (o4' : Obj) (tki : Tok) (h' : Heap) (tk' : Nat), Fr h₀ L h' m →
    News h₀ L h' ((L + 1, o1) :: (L + 1 + 1, o2) :: (L + 1 + 1 + 1, o3) :: (L + 1 + 1 + 1 + 1, o4') :: (l, W.listOf #[.ref D, .int 14 tki] n0) :: rest') → (∀ q ∈ rest, q ∈ rest') → (∀ q ∈ rest', q ∈ rest ∨ @LT.lt Nat _ l q.1) →
    IDict PySem.Challenge.rw_rh0207_01.row.prog w rest' hD [(1, .ref a.hp), (2, .ref b.hp), (3, .ref c.hp)] → a.h ∈ rest' → b.h ∈ rest' → c.h ∈ rest' → o4'.data = .cell (some (.ref hD)) →
    a.i = 1 + drawV ns 8 2 → a.g = gOf (drawV ns 9 7) → b.i = 1 + drawV ns 10 2 → b.g = gOf (drawV ns 11 7) → c.i = 1 + drawV ns 12 2 → c.g = gOf (drawV ns 13 7) → Q .next { s with heap := h', toks := tk' }) :
  (hd.heap_39 w.params).lookup 204 = some ⟨oc, od, .func (fnOf name qual params body scope dV kV doc pm an cdv ct), osl⟩ →
  wpAny (model PySem.Challenge.rw_rh0207_01.row.prog w) (callerA.deeper (envOfC qual scope L fa cd)) (exec st (envOfC qual scope L fa cd)) Q E s := by
  w_top off
  k_with_none
  k_with "ne" => first | assumption | (refine neN ?_; (try dsimp only); first | assumption | exact Nat.ne_of_lt (lt_mem (by assumption) (by k_mem)) | exact Nat.ne_of_gt (lt_mem (by assumption) (by k_mem)) | exact Nat.ne_of_gt (lt_mem2 (by assumption) (by assumption) (by k_mem)) | exact And.left (by assumption) | exact Ne.symm (And.left (by assumption)) | exact And.left (And.right (by assumption)) | exact Ne.symm (And.left (And.right (by assumption))) | exact And.left (And.right (And.right (by assumption))) | exact Ne.symm (And.left (And.right (And.right (by assumption)))) | exact And.left (And.right (And.right (And.right (by assumption)))) | exact Ne.symm (And.left (And.right (And.right (And.right (by assumption))))) | exact And.left (And.right (And.right (And.right (And.right (by assumption))))) | exact Ne.symm (And.left (And.right (And.right (And.right (And.right (by assumption)))))) | exact Ne.symm (And.left (And.right (And.right (And.right (And.right (And.right (by assumption)))))))  | exact Ne.symm (And.left (And.right (And.right (And.right (And.right (And.right (And.right (by assumption)))))))) | omega)
  k_with "all" => first | assumption | exact List.forall_mem_nil _ | (refine' List.forall_mem_cons.mpr ⟨?a, ?b⟩; (case a => k_ne); (case b => k_all)) | exact lt_ne (by assumption) | exact lt_ne_succ (by assumption) | exact fun p hp => Nat.ne_of_lt (lt_at (by assumption) (by k_mem))
  k_with "mem" => first | assumption | exact List.Mem.head _ | (refine' List.Mem.tail _ ?_; k_mem)
  k_with "room" => first | exact lim2 (by assumption) (Nat.le_of_ble_eq_true rfl) | exact lim1 (by assumption) (Nat.le_of_ble_eq_true rfl) | exact lim0 (by assumption)
  k_with "subscriptTail List cons Call ref int" => (k_here; k_dflt (refine item_g (by k_asm) (by k_mem) (drawV_lo (by decide)) (drawV_hi (by decide)) ?_); intro tg9')
  k_with "eval ListComp" => (k_here; k_dflt (refine comp_U (by k_asm) (by with_unfolding_all rfl) (by decide) (by rfl) (by decide) (by rfl) ?_))
  k_with "pyIter ref" => (k_here; (with_reducible show wpAny _ _ (pyIter (Value.ref _)) (SrcW _ _ _ _ _ _ _) _ _); k_dflt (refine src_tup (by exact rfl) (by k_asm) (by k_asm) (by k_mem) (Nat.le_of_ble_eq_true rfl) (fun h9' => held ?_)))
  k_with "call ref" => (k_here; (with_reducible show wpAny _ _ (call (Value.ref 192) [Value.ref _, Value.int _ _]) _ _ _); k_dflt (refine' draw_ct ?B ?F ?X ?T ?N ?U ?hk ?mD ?nD ?hys ?h14 ?hi ?hi2 ?m1 ?m2 ?hd ?hu ?_; (case B => k_asm); (case F => k_asm); (case X => k_asm); (case T => k_asm); (case N => k_asm); (case U => k_updF); (case hk => exact rfl); (case mD => k_mem); (case nD => assumption); (case hys => assumption); (case h14 => assumption); (case hi => with_reducible assumption); (case hi2 => with_reducible assumption); (case m1 => decide); (case m2 => decide); (case hd => ktr_room); (case hu => ktr_units); k_whole); intro t1' t2' h' tk' F' N'; (try dsimp only at N'))
  k_fill
  intro ho
  have e9 := fn_is (by k_is) ho
  clear ho
  cases e9
  cases Option.some.inj hst
  clear hst
  have nD : D ≠ l := hrl _ mD
  k_steps
  unfold Held
  rename_i t9 h8 F8 N8 hA8 l8
  obtain ⟨_, _, _, _, lt9, _⟩ := id l8
  clear N8 F8 hA8
  refine rest_ind (Inv := HInv ns D n0 rest (t9, tupO [.int 1 s.toks, .int 2 (s.toks + 1), .int 3 (s.toks + 1 + 1)]) (L + 1, o1) (L + 1 + 1, o2) (L + 1 + 1 + 1, o3) (L + 1 + 1 + 1 + 1, o4) l) _ ?turn2 ?fin2 _ 0 _ _ (Nat.zero_add _) (HInv.mk [] tk0 8 rfl rfl (fun j q h => nomatch h) (fun q h => nomatch h))
  case turn2 =>
    intro j zs nw hj hInv
    cases hInv with | mk hs tki z hz0 hsl hq hql => ?_
    intro v I' oI' C' oC' D' m2 h2 tk2 E2 hP hC' hx F2 N2 off ne
    have hv := tup3_at hj hP
    obtain ⟨t, rfl⟩ := hv
    have om := off.mem
    obtain ⟨nl1, nl2, nl3⟩ := om (l, _) (.tail _ (.tail _ (.tail _ (.tail _ (.tail _ (.head _))))))
    have nl1' : @Ne Nat I' l := Ne.symm nl1
    have nl2' : @Ne Nat C' l := Ne.symm nl2
    have nl3' : @Ne Nat D' l := Ne.symm nl3
    have hR : ∃ R, R = hs.flatMap Hp.os ++ rest := ⟨_, rfl⟩
    obtain ⟨R, hR⟩ := hR
    have hRl : ∀ q ∈ R, q.1 ≠ l := hR ▸ hop_off hql hrl
    have mDR : (D, lst ys) ∈ R := by rw [hR]; exact List.mem_append_right _ mD
    rw [← hR] at N2 off
    clear om nl1 nl2 nl3
    have zz := z8 hz0 hj
    have z1 := zz.1.1
    have z2 := zz.1.2
    have z3 := zz.2.1
    have z4 := zz.2.2
    clear hj mD hrl zz
    k_steps
    show CompEnd _ _ _ _ _ _ _ _ _ _ _ _ _ _
    refine hop_end (by k_asm) (by k_asm) hR off (by assumption) (by assumption) (.head _) ?_
    exact HInv.snoc hz0 hsl hq hql rfl rfl rfl rfl (hop_lt (by assumption)) (hop_lt2 (by assumption))
  case fin2 =>
    intro zs nw hInv
    cases hInv with | mk hs tki z hz0 hsl hq hql => ?_
    intro D2 h2 tk2 F2 N2 off2
    have hz8 : z = 14 := by rw [hz0]; rfl
    subst hz8
    obtain ⟨a, b, c, hv, ma, mb, mc, ma2, mb2, mc2, ia, ga, ib, gb, ic, gc, lr⟩ := hparts_of hsl hq hql
    rw [hv] at N2
    clear hq hql hsl hz0 hv
    generalize hs.flatMap Hp.os = X9 at N2 off2 lr ma mb mc ma2 mb2 mc2
    k_steps
    k_dflt (refine dict_pairs_I (kvs := [(1, .ref a.hp), (2, .ref b.hp), (3, .ref c.hp)]) (by exact rfl) (by k_asm) N2 (.head _) (Top.nolimit T) rfl (Nat.le_of_ble_eq_true rfl) (by show ([1, 2, 3] : List Int).Nodup; decide) ?pr ?_)
    case pr => exact prs3 (List.mem_cons_of_mem _ (List.mem_cons_of_mem _ (List.mem_cons_of_mem _ (List.mem_cons_of_mem _ (List.mem_cons_of_mem _ (List.mem_cons_of_mem _ (List.mem_cons_of_mem _ (List.mem_append_left _ ma)))))))) (List.mem_cons_of_mem _ (List.mem_cons_of_mem _ (List.mem_cons_of_mem _ (List.mem_cons_of_mem _ (List.mem_cons_of_mem _ (List.mem_cons_of_mem _ (List.mem_cons_of_mem _ (List.mem_append_left _ mb)))))))) (List.mem_cons_of_mem _ (List.mem_cons_of_mem _ (List.mem_cons_of_mem _ (List.mem_cons_of_mem _ (List.mem_cons_of_mem _ (List.mem_cons_of_mem _ (List.mem_cons_of_mem _ (List.mem_append_left _ mc))))))))
    intro d od h3 tk3 F3 N3 l3 hI
    have n3 : @LT.lt Nat _ l d := l3 (l, W.listOf #[.ref D, .int 14 tki] n0) (List.mem_of_getElem? (i := 6) rfl)
    replace N3 : News h₀ L h3 ((L + 1, o1) :: (L + 1 + 1, o2) :: (L + 1 + 1 + 1, o3) :: (L + 1 + 1 + 1 + 1, o4) :: (l, W.listOf #[.ref D, .int 14 tki] n0) :: ((d, od) :: (X9 ++ rest))) := cb_drop N3 (fun q hq => mem_swap2 (A := [(L + 1, o1), (L + 1 + 1, o2), (L + 1 + 1 + 1, o3), (L + 1 + 1 + 1 + 1, o4), (l, W.listOf #[.ref D, .int 14 tki] n0)]) hq)
    have hI' := hI ((d, od) :: (X9 ++ rest)) (.head _)
    have hoff : ∀ q ∈ (d, od) :: (X9 ++ rest), q.1 ≠ L + 1 + 1 + 1 + 1 := by
      intro q hq'
      rcases List.mem_cons.mp hq' with rfl | hq'
      · exact Nat.ne_of_gt (Nat.lt_trans hl n3)
      · rcases List.mem_append.mp hq' with hq' | hq'
        · exact Nat.ne_of_gt (Nat.lt_trans hl (lr q hq'))
        · exact hr4 q hq'
    have sub : ∀ q ∈ rest, q ∈ (d, od) :: (X9 ++ rest) := fun q hq => .tail _ (List.mem_append_right _ hq)
    have sub2 : ∀ q ∈ X9, q ∈ (d, od) :: (X9 ++ rest) := fun q hq => .tail _ (List.mem_append_left _ hq)
    have lr2 : ∀ q ∈ (d, od) :: (X9 ++ rest), q ∈ rest ∨ @LT.lt Nat _ l q.1 := fun q hq => by
      rcases List.mem_cons.mp hq with rfl | hq
      · exact .inr n3
      · rcases List.mem_append.mp hq with hq | hq
        · exact .inr (lr q hq)
        · exact .inl hq
    clear hI l3 off2 N2
    generalize (d, od) :: (X9 ++ rest) = R9 at N3 hI' hoff sub sub2 lr2
    k_steps
    exact hret R9 d a b c _ tki _ _ (by k_asm) (by k_asm) sub lr2 hI' (sub2 _ ma2) (sub2 _ mb2) (sub2 _ mc2) (by assumption) ia ga ib gb ic gc
end
end
-- part S7
section
open PySem PySem.W PySem.Spec PySem.Calls PyProof.Rows PySem.SeqAt
set_option linter.all false
set_option maxRecDepth 100000
set_option maxHeartbeats 2000000
open PyProof.Rows.LCg PyProof.Rows.LCt
theorem net_lt {x : Addr × Obj} {dn : Addr} {rest : List (Addr × Obj)} (h : ∀ p ∈ x :: rest, p.1 < dn) : ∀ q ∈ rest, @LT.lt Nat _ q.1 dn := fun q hq => h q (.tail _ hq)
section
theorem st_net {w : World} {oc dV kV doc pm cdv ct : Value} {an od : Option Addr} {osl : Array (Option Value)} {name qual : Str} {params : Arguments} {body : List Stmt} {scope : Scope} {st : Stmt}
  {p : Program} {loose : List Str} {mean : ExcName → Option Value} {mg mb : Str → Option Value} {base h₀ : Heap} {L : Addr} {m : Str → Option Value} {s : Shared} {cd : Value} {fa : Addr} {rest : List (Addr × Obj)}
  {lD T1 T2 : Addr} {Q : Flow → Shared → Prop} {E : Value → Shared → Prop}
  (B : Below callerA base [] h₀) (X : (hd.heap_39 w.params).In h₀) (T : Top p loose mean mg mb h₀)
  (F : Fr h₀ L s.heap m)
  (N : News h₀ L s.heap rest)
  (hst : body[6]? = some st) (hm : m (Str.ofString "links") = some (.ref lD))
  (hI : IDict PySem.Challenge.rw_rh0207_01.row.prog w rest lD [(1, .ref T1), (2, .ref T2)])
  (hret : ∀ (n dn lc wt ld : Addr) (v2 v3 v6 : Value) (od : Obj) (t1 t2 t3 t4 t5 t6 : Tok) (h' : Heap) (tk' : Nat), Fr h₀ L h' (fun z => if z = (Str.ofString "net") then some (.ref n) else m z) →
    News h₀ L h' ((wt, W.listOf #[] 0) :: (lc, W.listOf #[] 0) :: (ld, od) :: (n, instObj 181 dn) :: (dn, netD w ld lc wt v2 v3 v6 t1 t2 t3 t4 t5 t6) :: rest) →
    (∀ q ∈ rest, @LT.lt Nat _ q.1 dn) → @LT.lt Nat _ dn n → @LT.lt Nat _ n ld → @LT.lt Nat _ ld lc → @LT.lt Nat _ lc wt → od.IsDictOf (intKind PySem.Challenge.rw_rh0207_01.row.prog w) [(1, .ref T1), (2, .ref T2)] → (ld == sysModules) = false → Q .next { s with heap := h', toks := tk' }) :
  (hd.heap_39 w.params).lookup 204 = some ⟨oc, od, .func (fnOf name qual params body scope dV kV doc pm an cdv ct), osl⟩ →
  wpAny (model PySem.Challenge.rw_rh0207_01.row.prog w) (callerA.deeper (envOfC qual scope L fa cd)) (exec st (envOfC qual scope L fa cd)) Q E s := by
  w_top off
  k_with_none
  k_with "ne" => first | assumption | (refine neN ?_; (try dsimp only); first | assumption | exact Nat.ne_of_lt (lt_mem (by assumption) (by k_mem)) | exact Nat.ne_of_gt (lt_mem (by assumption) (by k_mem)) | exact Nat.ne_of_gt (lt_mem2 (by assumption) (by assumption) (by k_mem)) | exact And.left (by assumption) | exact Ne.symm (And.left (by assumption)) | exact And.left (And.right (by assumption)) | exact Ne.symm (And.left (And.right (by assumption))) | exact And.left (And.right (And.right (by assumption))) | exact Ne.symm (And.left (And.right (And.right (by assumption)))) | exact And.left (And.right (And.right (And.right (by assumption)))) | exact Ne.symm (And.left (And.right (And.right (And.right (by assumption))))) | exact And.left (And.right (And.right (And.right (And.right (by assumption))))) | exact Ne.symm (And.left (And.right (And.right (And.right (And.right (by assumption)))))) | exact Ne.symm (And.left (And.right (And.right (And.right (And.right (And.right (by assumption)))))))  | exact Ne.symm (And.left (And.right (And.right (And.right (And.right (And.right (And.right (by assumption)))))))) | omega)
  k_with "all" => first | assumption | exact List.forall_mem_nil _ | (refine' List.forall_mem_cons.mpr ⟨?a, ?b⟩; (case a => k_ne); (case b => k_all)) | exact lt_ne (by assumption) | exact lt_ne_succ (by assumption) | exact fun p hp => Nat.ne_of_lt (lt_at (by assumption) (by k_mem))
  k_with "mem" => first | assumption | exact List.Mem.head _ | (refine' List.Mem.tail _ ?_; k_mem)
  k_with "room" => first | exact lim2 (by assumption) (Nat.le_of_ble_eq_true rfl) | exact lim1 (by assumption) (Nat.le_of_ble_eq_true rfl) | exact lim0 (by assumption)
  k_with "call ref" => (k_here; (with_reducible show wpAny _ _ (call (Value.ref 181) [Value.ref _, Value.ref _, Value.int 1 _]) _ _ _); k_dflt (refine' net_ct ?B ?F ?T ?N ?hk ?hI ?hsz ?hc ?hd ?hu ?_ ?X; (case B => k_asm); (case F => k_asm); (case X => k_asm); (case T => k_asm); (case N => k_asm); (case hk => exact rfl); (case hI => exact IDict.mono (by assumption) (fun q hq => .tail _ hq)); (case hsz => exact Nat.le_of_ble_eq_true rfl); (case hc => k_mem); (case hd => ktr_room); (case hu => ktr_units); k_whole); intro n9 dn9 ld9 ch9 cu9 wt9 od9 k9 v39 v69 t19 t29 t39 t49 t59 t69 h9 tk9 F' N' q1 q2 q3 q4 q5 q6 d9 m9; (try k_sweep))
  k_with "eval Name" => (k_here; (with_reducible show wpAny _ _ (eval (Expr.Name _ _) (envOfC _ _ _ _ _)) _ _ _); k_dflt (refine ldV (by rfl) (by rfl) (Fr.ns (by k_asm)) (by with_reducible assumption) (by decide) ?_))
  k_fill
  intro ho
  have e9 := fn_is (by k_is) ho
  clear ho
  cases e9
  cases Option.some.inj hst
  clear hst
  k_steps
  exact hret _ _ _ _ _ _ _ _ _ _ _ _ _ _ _ _ _ (by k_asm) (cb_drop (by k_asm) (sub_mono (sub_mono (sub_skip (sub_mono (sub_mono (sub_mono (fun q hq => .tail _ hq)))))))) (net_lt q1) q2 q3 (Nat.lt_trans q4 q5) q6 d9 m9
end
end
-- part T3
section
open PySem PySem.W PySem.Spec PySem.Calls PyProof.Rows PySem.SeqAt
set_option linter.all false
set_option maxRecDepth 100000
set_option maxHeartbeats 8000000
section
variable {prog : Program} {w : World} {A : Around} {E : Value → Shared → Prop} {s : Shared} {env : Env} {h₀ : Heap} {x : Str} {body : List Stmt} {Q : Flow → Shared → Prop}
theorem iter_lst {t : Addr} {vs : List Value} {c : Nat} {m₀ : Str → Option Value} {news : List (Addr × Obj)} (hh : A.handled = none) (F : Fr h₀ env.locals s.heap m₀) (N : News h₀ env.locals s.heap news) (hm : (t, W.listOf vs.toArray c) ∈ news)
    (R : ∀ I : Addr, (∀ p ∈ news, p.1 < I) → TRest prog w A E h₀ env x body Q s I (t, W.listOf vs.toArray c) vs m₀ news) :
    wpAny (model prog w) A (pyIter (.ref t)) (fun it s₂ => LoopAtV prog w A h₀ env x body Q E it s₂) E s := by
  generalize hto : W.listOf vs.toArray c = to at hm R
  have ht0 := N _ hm
  have hT : s.heap.IsList t vs.toArray := ⟨to, ht0.1, by rw [← hto], c, by rw [← hto]⟩
  have htlt : t < s.heap.objs.size := Heap.lt_size ht0.1
  have htI : t ≠ s.heap.objs.size := Nat.ne_of_lt htlt
  have below : ∀ p ∈ news, p.1 < s.heap.objs.size := fun p hp => Heap.lt_size (N p hp).1
  refine wpAny_pyIter_list hT ?_
  have R0 := R s.heap.objs.size below
  have fresh := next_is_new F
  have W := Walks.list (prog := prog) (w := w) hh s.heap.objs.size t htI vs.toArray
  rw [List.size_toArray] at W
  refine ⟨s.heap.objs.size, _, _, vs.length, _, _, m₀, news, fun i m₁ n₁ => (t, to) ∈ n₁ ∧ TRest prog w A E h₀ env x body Q s s.heap.objs.size (t, to) (vs.drop i) m₁ n₁, rfl, W, fun hL => ?_, fun b hb => ?_, fun p hp hI => ?_,
    ⟨⟨_, Heap.get?_push_size _ rfl, rfl, rfl⟩, ?_⟩, F.push _, fun p hp => ⟨Heap.get?_push_of_some _ (N p hp).1, (N p hp).2⟩, ⟨hm, R0⟩, ?_, ?_⟩
  · rcases List.mem_cons.mp hL with e | hL
    · have := F.ns.lt; rw [e] at this; exact Nat.lt_irrefl _ this
    · exact ht0.2.1 (List.mem_singleton.mp hL).symm
  · rw [List.mem_singleton.mp hb]; exact fresh
  · have := below p hp; rw [List.mem_singleton.mp hI] at this; exact Nat.lt_irrefl _ this
  · exact ⟨to, Heap.get?_push_of_some _ ht0.1, by rw [← hto], c, by rw [← hto]⟩
  · rintro i v m₁ n₁ s₁ own ⟨h₁, tk₁, rfl⟩ hi hv ⟨hm₁, R₁⟩ off hown hget hall hst F₁ N₁
    obtain ⟨it, heI, _, _⟩ := hst.1
    have hIown := hall s.heap.objs.size (List.mem_cons_self ..) fresh _ heI
    have hi' : i < vs.length := hi
    have ed := drop_at hi' hv
    rw [ed] at R₁
    have N₂ : News h₀ env.locals h₁ ((s.heap.objs.size, it) :: n₁) := fun p hp => by
      rcases List.mem_cons.mp hp with rfl | hp
      · exact N₁ _ (List.mem_append_left _ hIown)
      · exact N₁ _ (List.mem_append_right _ hp)
    have close := close_core (h₀ := h₀) (env := env) (s := s) (I := s.heap.objs.size) (t := t) (to := to) (h₁ := h₁) (tk₁ := tk₁) (r := fun m' n' => TRest prog w A E h₀ env x body Q s s.heap.objs.size (t, to) (vs.drop (i + 1)) m' n') hown hget heI (N₁ _ (List.mem_append_right _ hm₁)).1
    refine wpAny_mono (R₁ it h₁ tk₁ F₁ N₂) (fun f s₂ z => ?_) fun _ _ e => e
    cases f with
    | next => exact .next (close _ z)
    | cont => exact .cont (close _ z)
    | brk => exact .brk z
    | ret v => exact .ret z
  · rintro h' tk' m' n' F' N' _ ⟨_, R'⟩
    have e : vs.drop vs.length = [] := List.drop_length
    simp only [e] at R'
    exact R' h' tk' F' N'
end
end
-- part S8
section
open PySem PySem.W PySem.Spec PySem.Calls PyProof.Rows PySem.SeqAt
set_option linter.all false
set_option maxRecDepth 100000
set_option maxHeartbeats 2000000
open PyProof.Rows.LCg PyProof.Rows.LCt
theorem selC2 (d : Nat → Int) : selC d 2 = [] ∨ selC d 2 = [1] ∨ selC d 2 = [2] ∨ selC d 2 = [1, 2] := by
  rw [selC, selC, selC]
  by_cases h1 : d (6 + 0) = 2 <;> by_cases h2 : d (6 + 1) = 2
  · rw [if_pos h1, if_pos h2]; exact .inr (.inr (.inr rfl))
  · rw [if_pos h1, if_neg h2]; exact .inr (.inl rfl)
  · rw [if_neg h1, if_pos h2]; exact .inr (.inr (.inl rfl))
  · rw [if_neg h1, if_neg h2]; exact .inl rfl
section
variable {prog : Program} {w : World} {A : Around} {E : Value → Shared → Prop} {s : Shared} {env : Env} {h₀ : Heap} {x : Str} {body : List Stmt} {Q : Flow → Shared → Prop}
theorem unr_mono0 {L : Addr} {s₁ : Shared} {I : Addr} {it : Obj} {r r' : (Str → Option Value) → List (Addr × Obj) → Prop} {f : Flow} {s₂ : Shared} (h : UnrPost h₀ L s₁ I it r Q f s₂) (i : ∀ m n, r m n → r' m n) : UnrPost h₀ L s₁ I it r' Q f s₂ := by
  have key : UnrEnd h₀ L s₁ I it r s₂ → UnrEnd h₀ L s₁ I it r' s₂ := fun h => by
    obtain ⟨h', tk, m', n', e, F, N, o, z⟩ := h
    exact ⟨h', tk, m', n', e, F, N, o, i _ _ z⟩
  cases f with
  | next => exact key h
  | cont => exact key h
  | brk => exact h
  | ret v => exact h
theorem trest_gen {I : Addr} {T : Addr × Obj} (Inv : List Value → (Str → Option Value) → List (Addr × Obj) → Prop) (hT : ∀ vs m nw, Inv vs m nw → T ∈ nw) (done : ∀ m nw, Inv [] m nw → ∀ h tk, Fr h₀ env.locals h m → News h₀ env.locals h nw → Q .next { s with heap := h, toks := tk })
    (turn : ∀ v vs m nw, Inv (v :: vs) m nw → ∀ (it : Obj) h tk, Fr h₀ env.locals h (fun y => if y = x then some v else m y) → News h₀ env.locals h ((I, it) :: nw) →
      wpAny (model prog w) A (execs body env) (UnrPost h₀ env.locals { s with heap := h, toks := tk } I it (fun m' n' => Inv vs m' n') Q) E { s with heap := h, toks := tk }) :
    ∀ (vs : List Value) m nw, Inv vs m nw → TRest prog w A E h₀ env x body Q s I T vs m nw
  | [], m, nw, hm => TRest.done fun h tk F N => done m nw hm h tk F N
  | v :: vs, m, nw, hm => TRest.turn fun it h tk F N => wpAny_mono (turn v vs m nw hm it h tk F N) (fun _ _ z => unr_mono0 z fun m' n' e => ⟨hT _ _ _ e, trest_gen Inv hT done turn vs m' n' e⟩) fun _ _ e => e
theorem notin_no {news : List (Addr × Obj)} {L l : Addr} {n : Nat} {vs : List Value} {ns : List Int} {k : Int} {t : Tok} {Q : Value → Shared → Prop}
    (N : News h₀ L s.heap news) (hl : (l, W.listOf vs.toArray n) ∈ news) (hi : IntsAre vs ns) (hk : k ∉ ns) (h : Q (.bool true) s) : wpAny (model prog w) A (compareOp .NotIn (.int k t) (.ref l)) Q E s :=
  notin_ints N hl hi (by rw [decide_eq_false hk]; exact h)
end
section
theorem unr_cut {h₀ : Heap} {L I : Addr} {it : Obj} {rest : (Str → Option Value) → List (Addr × Obj) → Prop} {s₁ : Shared} {h' : Heap} {tk : Nat} {m' : Str → Option Value} {a b c : Addr × Obj} {post : List (Addr × Obj)} (F : Fr h₀ L h' m') (N : News h₀ L h' (a :: b :: (I, it) :: c :: post))
    (ha : a.1 ≠ I) (hp : ∀ p ∈ post, p.1 ≠ I) (r : rest m' (a :: post)) : UnrEnd h₀ L s₁ I it rest { s₁ with heap := h', toks := tk } :=
  UnrEnd.intro F N (a :: post) (fun p h => by
    rcases List.mem_cons.mp h with h | h
    · rw [h]; exact .tail _ (.tail _ (.head _))
    · rcases List.mem_cons.mp h with h | h
      · rw [h]; exact .head _
      · exact .tail _ (.tail _ (.tail _ (.tail _ h)))) (fun p h => by
    rcases List.mem_cons.mp h with h | h
    · rw [h]; exact ha
    · exact hp p h) r
inductive CInv (w : World) (lc ld n dn I : Addr) (o9 : Obj) (v2 v3 v6 : Value) (rest : List (Addr × Obj)) (cs : List Int) (m : Str → Option Value) : List Value → (Str → Option Value) → List (Addr × Obj) → Prop
  | mk (wt' : Addr) (arr : Array Value) (acs rems : List Int) (k : Nat) (t1' t2' t3' t4' t5' t6' : Tok) (rem : List Value) (m' : Str → Option Value) (ha : IntsAre arr.toList acs) (hr : IntsAre rem rems) (he : acs ++ rems = cs) (n1 : @Ne Nat wt' I) (n2 : @Ne Nat wt' lc) (n3 : @Ne Nat wt' dn) (hm' : ∀ z, z ≠ Str.ofString "number" → m' z = m z) :
    CInv w lc ld n dn I o9 v2 v3 v6 rest cs m rem m' ((wt', W.listOf #[] 0) :: (lc, W.listOf arr k) :: (ld, o9) :: (n, instObj 181 dn) :: (dn, netD w ld lc wt' v2 v3 v6 t1' t2' t3' t4' t5' t6') :: rest)
theorem off4 {I : Addr} {x1 x2 x3 x4 : Addr × Obj} {rest l : List (Addr × Obj)} (h1 : x1.1 ≠ I) (h2 : x2.1 ≠ I) (h3 : x3.1 ≠ I) (h4 : x4.1 ≠ I) (hr : ∀ q ∈ rest, q.1 ≠ I) : ∀ p ∈ x1 :: x2 :: x3 :: x4 :: rest, p.1 ≠ I :=
  List.forall_mem_cons.mpr ⟨h1, List.forall_mem_cons.mpr ⟨h2, List.forall_mem_cons.mpr ⟨h3, List.forall_mem_cons.mpr ⟨h4, hr⟩⟩⟩⟩
theorem st_cutloop {w : World} {oc dV kV doc pm cdv ct : Value} {an od : Option Addr} {osl : Array (Option Value)} {name qual : Str} {params : Arguments} {body : List Stmt} {scope : Scope} {st : Stmt}
  {p : Program} {loose : List Str} {mean : ExcName → Option Value} {mg mb : Str → Option Value} {base h₀ : Heap} {L : Addr} {m : Str → Option Value} {s : Shared} {cd : Value} {fa : Addr} {rest : List (Addr × Obj)}
  {n dn lc wt ld cD : Addr} {v2 v3 v6 : Value} {cs : List Int} {cv : List Value} {o9 : Obj} {t1 t2 t3 t4 t5 t6 : Tok} {Q : Flow → Shared → Prop}
  (B : Below callerA base [] h₀) (X : (hd.heap_39 w.params).In h₀) (T : Top p loose mean mg mb h₀)
  (F : Fr h₀ L s.heap m)
  (N : News h₀ L s.heap ((wt, W.listOf #[] 0) :: (lc, W.listOf #[] 0) :: (ld, o9) :: (n, instObj 181 dn) :: (dn, netD w ld lc wt v2 v3 v6 t1 t2 t3 t4 t5 t6) :: rest))
  (hst : body[7]? = some st) (hm : m (Str.ofString "net") = some (.ref n)) (hm2 : m (Str.ofString "cuts") = some (.ref cD)) (hcD : (cD, lst cv) ∈ rest) (hcv : IntsAre cv cs) (hcs : cs = [] ∨ cs = [1] ∨ cs = [2] ∨ cs = [1, 2])
  (q1 : ∀ q ∈ rest, @LT.lt Nat _ q.1 dn) (q2 : @LT.lt Nat _ dn n) (q3 : @LT.lt Nat _ n ld) (q4 : @LT.lt Nat _ ld lc) (q5 : @LT.lt Nat _ lc wt)
  (hret : ∀ (m' : Str → Option Value) (wt' : Addr) (cv' : List Value) (k2 : Nat) (t1' t2' t3' t4' t5' t6' : Tok) (h' : Heap) (tk' : Nat), (∀ z, z ≠ Str.ofString "number" → m' z = m z) → Fr h₀ L h' m' →
    News h₀ L h' ((lc, W.listOf cv'.toArray k2) :: (ld, o9) :: (n, instObj 181 dn) :: (dn, netD w ld lc wt' v2 v3 v6 t1' t2' t3' t4' t5' t6') :: rest) → IntsAre cv' cs → Q .next { s with heap := h', toks := tk' }) :
  (hd.heap_39 w.params).lookup 204 = some ⟨oc, od, .func (fnOf name qual params body scope dV kV doc pm an cdv ct), osl⟩ →
  wpAny (model PySem.Challenge.rw_rh0207_01.row.prog w) (callerA.deeper (envOfC qual scope L fa cd)) (exec st (envOfC qual scope L fa cd)) Q (fun _ _ => False) s := by
  w_top off
  k_with_none
  k_with "ne" => first | assumption | (refine neN ?_; (try dsimp only); first | assumption | exact Nat.ne_of_lt (lt_mem (by assumption) (by k_mem)) | exact Nat.ne_of_gt (lt_mem (by assumption) (by k_mem)) | exact Nat.ne_of_gt (lt_mem2 (by assumption) (by assumption) (by k_mem)) | exact And.left (by assumption) | exact Ne.symm (And.left (by assumption)) | exact And.left (And.right (by assumption)) | exact Ne.symm (And.left (And.right (by assumption))) | exact And.left (And.right (And.right (by assumption))) | exact Ne.symm (And.left (And.right (And.right (by assumption)))) | exact And.left (And.right (And.right (And.right (by assumption)))) | exact Ne.symm (And.left (And.right (And.right (And.right (by assumption))))) | exact And.left (And.right (And.right (And.right (And.right (by assumption))))) | exact Ne.symm (And.left (And.right (And.right (And.right (And.right (by assumption)))))) | exact Ne.symm (And.left (And.right (And.right (And.right (And.right (And.right (by assumption)))))))  | exact Ne.symm (And.left (And.right (And.right (And.right (And.right (And.right (And.right (by assumption)))))))) | omega)
  k_with "all" => first | assumption | exact List.forall_mem_nil _ | (refine' List.forall_mem_cons.mpr ⟨?a, ?b⟩; (case a => k_ne); (case b => k_all)) | exact lt_ne (by assumption) | exact lt_ne_succ (by assumption) | exact fun p hp => Nat.ne_of_lt (lt_at (by assumption) (by k_mem))
  k_with "mem" => first | assumption | exact List.Mem.head _ | (refine' List.Mem.tail _ ?_; k_mem)
  k_with "room" => first | exact lim2 (by assumption) (Nat.le_of_ble_eq_true rfl) | exact lim1 (by assumption) (Nat.le_of_ble_eq_true rfl) | exact lim0 (by assumption)
  k_with "eval Name" => (k_here; (with_reducible show wpAny _ _ (eval (Expr.Name _ _) (envOfC _ _ _ _ _)) _ _ _); k_dflt (refine ldV (by rfl) (by rfl) (Fr.ns (by k_asm)) (by first | with_reducible assumption | exact up_self | exact up_ne (by decide) (by first | with_reducible assumption | exact up_self | exact up_ne (by decide) (by first | with_reducible assumption | exact up_self))) (by decide) ?_))
  k_with "exec For Name Name cons nil" => (k_here; (rename Fr _ _ _ _ => lF'); (with_unfolding_all refine' For_invVF lF' ?k1 ?k2 ?_; (case k1 => exact rfl); (case k2 => exact rfl); k_whole))
  k_with "pyIter ref" => (k_here; (with_reducible show wpAny _ _ (pyIter (Value.ref _)) (fun it s₂ => LoopAtV _ _ _ _ _ _ _ _ _ it s₂) _ _); k_dflt (refine iter_lst (by exact rfl) (by k_asm) (by k_asm) (by k_mem) ?_); intro I9 lI9)
  k_with "compareOp NotIn int ref" => (k_here; k_dflt (refine notin_no (by k_asm) (by k_mem) (by with_reducible assumption) (by with_reducible assumption) ?_))
  k_with "call builtin:list.append" => (k_here; k_dflt (refine' append_K ?k1 ?k2 ?k3 ?_ ?z; (case k1 => k_asm); (case k2 => k_asm); (case k3 => k_upd); (case z => assumption); k_whole); intro h' F' N'; (try k_sweep))
  have hnd : cs.Nodup := by rcases hcs with rfl | rfl | rfl | rfl <;> decide
  have hl2 : cs.length ≤ 2 := by rcases hcs with rfl | rfl | rfl | rfl <;> decide
  clear hcs
  k_fill
  intro ho
  have e9 := fn_is (by k_is) ho
  clear ho
  cases e9
  cases Option.some.inj hst
  clear hst
  have z1 : ∀ q ∈ rest, q.1 ≠ lc := fun q hq => Nat.ne_of_lt (Nat.lt_trans (q1 q hq) (Nat.lt_trans q2 (Nat.lt_trans q3 q4)))
  have z2 : ∀ q ∈ rest, q.1 ≠ dn := fun q hq => Nat.ne_of_lt (q1 q hq)
  unfold netD at N
  k_steps
  refine trest_gen (Inv := CInv w lc ld n dn I9 o9 v2 v3 v6 rest cs m) ?hT ?done ?turn _ _ _ (CInv.mk wt #[] [] cs 0 _ _ _ _ _ _ _ _ .nil hcv rfl (Nat.ne_of_lt (lI9 _ (.head _))) (Nat.ne_of_gt q5) (Nat.ne_of_gt (Nat.lt_trans q2 (Nat.lt_trans q3 (Nat.lt_trans q4 q5)))) fun _ _ => rfl)
  case hT =>
    intro rem m' nw hI
    cases hI
    exact .tail _ (.tail _ (.tail _ (.tail _ (.tail _ hcD))))
  case done =>
    intro m' nw hI
    cases hI with | mk wt' arr acs rems k t1' t2' t3' t4' t5' t6' _ _ ha hr he _ _ _ hm' => ?_
    intro h tk F1 N1
    cases hr
    rw [List.append_nil] at he
    subst he
    exact hret m' wt' arr.toList k _ _ _ _ _ _ h tk hm' F1 (cb_drop N1 fun q hq => .tail _ hq) ha
  case turn =>
    intro v vs m' nw hI
    cases hI with | mk wt' arr acs rems k t1' t2' t3' t4' t5' t6' _ _ ha hr he n1 n2 n3 hm' => ?_
    intro it h tk F1 N1
    cases hr with
    | cons x t hr =>
    have hx : x ∉ acs := by
      rw [← he] at hnd
      exact fun z => (List.nodup_append.mp hnd).2.2 x z x (.head _) rfl
    have hsz : arr.size ≤ sizeLine := by
      have e1 : arr.size = acs.length := by rw [← ha.length]; rfl
      have e2 := congrArg List.length he
      rw [List.length_append] at e2
      rw [e1]; exact Nat.le_trans (Nat.le_trans (Nat.le_add_right _ _) (Nat.le_trans (Nat.le_of_eq e2) hl2)) (Nat.le_of_ble_eq_true rfl)
    have a1 : @Ne Nat lc I9 := Nat.ne_of_lt (lI9 _ (.tail _ (.head _)))
    have a2 : @Ne Nat ld I9 := Nat.ne_of_lt (lI9 _ (.tail _ (.tail _ (.head _))))
    have a3 : @Ne Nat n I9 := Nat.ne_of_lt (lI9 _ (.tail _ (.tail _ (.tail _ (.head _)))))
    have a4 : @Ne Nat dn I9 := Nat.ne_of_lt (lI9 _ (.tail _ (.tail _ (.tail _ (.tail _ (.head _))))))
    have mNet : m' (Str.ofString "net") = some (.ref n) := (hm' _ (by decide)).trans hm
    unfold netD at N1
    k_steps
    refine unr_cut (by k_asm) (by k_asm) (Ne.symm (And.left (And.right (by assumption)))) (off4 (l := []) a1 a2 a3 a4 fun p hp => Nat.ne_of_lt (lI9 p (.tail _ (.tail _ (.tail _ (.tail _ (.tail _ hp)))))))
      (CInv.mk _ (arr.push (.int x t)) (acs ++ [x]) _ (k + 1) _ _ _ _ _ _ _ _ ?hi hr ?he (Ne.symm (And.left (And.right (by assumption)))) (Ne.symm (And.left (And.right (And.right (And.right (by assumption)))))) (Ne.symm (And.left (And.right (And.right (And.right (And.right (And.right (And.right (by assumption))))))))) fun z hz => (if_neg hz).trans (hm' z hz))
    case hi => rw [Array.toList_push]; exact ints_snoc ha
    case he => rw [List.append_assoc]; exact he
end
end
-- part S9
section
open PySem PySem.W PySem.Spec PySem.Calls PyProof.Rows PySem.SeqAt
set_option linter.all false
set_option maxRecDepth 100000
set_option maxHeartbeats 2000000
open PyProof.Rows.LCg PyProof.Rows.LCt
theorem pq_dict {prog : Program} {w : World} {A : Around} {E : Value → Shared → Prop} {s : Shared} {h₀ : Heap} {L : Addr} {m : Str → Option Value} {news : List (Addr × Obj)} {D2 : Addr} {rs : List Pd} {qs : List Pq} {P : Nat → Pq → Prop} {Q : Value → Shared → Prop}
    (hh : A.handled = none) (hu : A.units + 10 < cLine) (F : Fr h₀ L s.heap m) (N : News h₀ L s.heap news) (hm : (D2, lst (qs.map Pq.v)) ∈ news) (hbig : h₀.NoLimit) (hab : rs.map Pd.ab = ab6) (hlen : qs.length = rs.length)
    (hq : ∀ (j : Nat) (q : Pq), qs[j]? = some q → ∃ r : Pd, rs[j]? = some r ∧ q.k = r.e ∧ P j q) (mr : ∀ r ∈ rs, r.o ∈ news) (mq : ∀ q ∈ qs, q.o ∈ news)
    (h : ∀ d od h' tk, Fr h₀ L h' m → News h₀ L h' ((d, od) :: news) → (∀ q ∈ news, q.1 < d) → (∀ nw, (d, od) ∈ nw → (∀ r ∈ rs, r.o ∈ nw) → TDict prog w nw d (homeXs rs qs)) → Q (.ref d) { s with heap := h', toks := tk }) :
    wpAny (model prog w) A (call (.type "dict") [.ref D2]) Q E s := by
  have h6 : rs.length = 6 := by simpa [ab6] using congrArg List.length hab
  refine dict_pairs_T (vs := qs.map Pq.v) (xs := homeXs rs qs) hh hu F N hm hbig (by rw [List.length_map, homeXs_len hlen, hlen]) (by rw [homeXs_len hlen, h6]; exact Nat.le_of_ble_eq_true rfl) (by rw [homeXs_keys hlen, hab]; decide) (fun x hx => ?_) (fun i x hx => ?_) fun d od h' tk F' N' l1 hT => h d od h' tk F' N' l1 fun nw hm hk => hT nw hm fun x hx => ?_
  · obtain ⟨i, hi⟩ := List.getElem?_of_mem hx
    obtain ⟨r, q, e1, e2, rfl⟩ := homeXs_get hi
    exact ⟨_, mr r (List.mem_of_getElem? e1), pair_key⟩
  · obtain ⟨r, q, e1, e2, rfl⟩ := homeXs_get hx
    obtain ⟨r', e3, e4, e5⟩ := hq i q e2
    rw [e1] at e3; cases e3
    refine ⟨q.e, by rw [List.getElem?_map, e2]; rfl, ?_⟩
    have := mq q (List.mem_of_getElem? e2)
    simpa only [Pq.o, e4] using this
  · obtain ⟨i, hi⟩ := List.getElem?_of_mem hx
    obtain ⟨r, q, e1, e2, rfl⟩ := homeXs_get hi
    exact ⟨_, hk r (List.mem_of_getElem? e1), pair_key⟩
section
theorem pq_end {h₀ : Heap} {L I C Dn D' k : Addr} {m : Str → Option Value} {s₁ : Shared} {oI oC oD : Obj} {c1 c2 c3 c4 : Addr × Obj} {S : List (Addr × Obj) → Prop} {R : Value → List (Addr × Obj) → Prop} {h' : Heap} {tk : Nat} {qs : List Pq} {rest R0 : List (Addr × Obj)} {d : Int} {t : Tok}
    (F : Fr h₀ L h' m) (N : News h₀ L h' ((D', tupO [.ref k, .int d t]) :: (I, oI) :: (C, oC) :: (Dn, oD) :: c1 :: c2 :: c3 :: c4 :: R0)) (hR : R0 = qs.map Pq.o ++ rest) (off : Off3 I C Dn (c1 :: c2 :: c3 :: c4 :: R0))
    (nI : I < D') (nC : C < D') (nD : Dn < D') (hS : S (c1 :: c2 :: c3 :: c4 :: ((qs ++ [Pq.mk D' k d t]).map Pq.o ++ rest))) (r : R (.ref D') (c1 :: c2 :: c3 :: c4 :: ((qs ++ [Pq.mk D' k d t]).map Pq.o ++ rest))) :
    CompEnd h₀ L m s₁ I oI C oC Dn oD S R (.ref D') { s₁ with heap := h', toks := tk } := by
  subst hR
  have om := off.mem
  have e1 : ∀ y, (qs ++ [Pq.mk D' k d t]).map Pq.o ++ y = qs.map Pq.o ++ ((D', tupO [.ref k, .int d t]) :: y) := fun y => cat_map y
  refine CompEnd.intro F N _ (fun q hq => ?_) (Off3.of fun q hq => ?_) hS r
  · rw [e1] at hq
    exact mem_in1 (A := [c1, c2, c3, c4]) (B := [(I, oI), (C, oC), (Dn, oD)]) hq
  · rw [e1] at hq
    rcases mem_or1 (A := [c1, c2, c3, c4]) hq with h | h
    · exact om q h
    · rw [h]; exact ⟨Nat.ne_of_gt nI, Nat.ne_of_gt nC, Nat.ne_of_gt nD⟩
inductive AInv (rs : List Pd) (rest : List (Addr × Obj)) (c1 c2 c3 c4 : Addr × Obj) (i : Nat) : List Value → List (Addr × Obj) → Prop
  | mk (qs : List Pq) (hql : qs.length = i) (hq : ∀ (j : Nat) (q : Pq), qs[j]? = some q → ∃ r : Pd, rs[j]? = some r ∧ q.k = r.e ∧ q.d = 10 * r.a + r.b) : AInv rs rest c1 c2 c3 c4 i (qs.map Pq.v) (c1 :: c2 :: c3 :: c4 :: (qs.map Pq.o ++ rest))
theorem AInv.snoc {rs : List Pd} {rest : List (Addr × Obj)} {c1 c2 c3 c4 : Addr × Obj} {e k : Addr} {i : Nat} {qs : List Pq} {t : Tok} {d : Int} {r : Pd} (hql : qs.length = i) (hq : ∀ (j : Nat) (q : Pq), qs[j]? = some q → ∃ r : Pd, rs[j]? = some r ∧ q.k = r.e ∧ q.d = 10 * r.a + r.b) (hr : rs[i]? = some r) (hk : k = r.e) (hd : d = 10 * r.a + r.b) :
    AInv rs rest c1 c2 c3 c4 (i + 1) (qs.map Pq.v ++ [.ref e]) (c1 :: c2 :: c3 :: c4 :: ((qs ++ [Pq.mk e k d t]).map Pq.o ++ rest)) := by
  show AInv _ _ _ _ _ _ _ (qs.map Pq.v ++ [Pq.v (Pq.mk e k d t)]) _
  rw [map_snoc]
  exact AInv.mk _ (len_snoc hql) (snoc_all hq ⟨r, hql ▸ hr, hk, hd⟩)
theorem st_addr {w : World} {oc dV kV doc pm cdv ct : Value} {an od : Option Addr} {osl : Array (Option Value)} {name qual : Str} {params : Arguments} {body : List Stmt} {scope : Scope} {st : Stmt}
  {p : Program} {loose : List Str} {mean : ExcName → Option Value} {mg mb : Str → Option Value} {base h₀ : Heap} {L : Addr} {m : Str → Option Value} {s : Shared} {cd : Value} {fa : Addr} {rest : List (Addr × Obj)}
  {e0 : Addr} {rs : List Pd}
  {o1 o2 o3 o4 : Obj} {Q : Flow → Shared → Prop} {E : Value → Shared → Prop}
  (B : Below callerA base [] h₀) (X : (hd.heap_39 w.params).In h₀) (T : Top p loose mean mg mb h₀)
  (F : Fr h₀ L s.heap m)
  (N : News h₀ L s.heap ((L + 1, o1) :: (L + 1 + 1, o2) :: (L + 1 + 1 + 1, o3) :: (L + 1 + 1 + 1 + 1, o4) :: rest))
  (hst : body[8]? = some st)
  (d2 : o2.data = .cell (some (.ref e0)))
  (me : (e0, W.listOf (rs.map Pd.v).toArray rs.length) ∈ rest) (mr : ∀ r ∈ rs, r.o ∈ rest) (hab : rs.map Pd.ab = ab6) (hrs : rs.length = 6) (hsz : (rs.map Pd.v).length ≤ sizeLine)
  (hret : ∀ (rest' : List (Addr × Obj)) (aD : Addr) (qs : List Pq) (h' : Heap) (tk' : Nat), Fr h₀ L h' (fun z => if z = (Str.ofString "addresses") then some (.ref aD) else m z) →
    News h₀ L h' ((L + 1, o1) :: (L + 1 + 1, o2) :: (L + 1 + 1 + 1, o3) :: (L + 1 + 1 + 1 + 1, o4) :: rest') → (∀ q ∈ rest, q ∈ rest') →
    TDict PySem.Challenge.rw_rh0207_01.row.prog w rest' aD (homeXs rs qs) → qs.length = rs.length → (∀ (j : Nat) (q : Pq) (r : Pd), qs[j]? = some q → rs[j]? = some r → q.d = 10 * r.a + r.b) → Q .next { s with heap := h', toks := tk' }) :
  (hd.heap_39 w.params).lookup 204 = some ⟨oc, od, .func (fnOf name qual params body scope dV kV doc pm an cdv ct), osl⟩ →
  wpAny (model PySem.Challenge.rw_rh0207_01.row.prog w) (callerA.deeper (envOfC qual scope L fa cd)) (exec st (envOfC qual scope L fa cd)) Q E s := by
  w_top off
  k_with_none
  k_with "ne" => first | assumption | (refine neN ?_; (try dsimp only); first | assumption | exact Nat.ne_of_lt (lt_mem (by assumption) (by k_mem)) | exact Nat.ne_of_gt (lt_mem (by assumption) (by k_mem)) | exact Nat.ne_of_gt (lt_mem2 (by assumption) (by assumption) (by k_mem)) | exact And.left (by assumption) | exact Ne.symm (And.left (by assumption)) | exact And.left (And.right (by assumption)) | exact Ne.symm (And.left (And.right (by assumption))) | exact And.left (And.right (And.right (by assumption))) | exact Ne.symm (And.left (And.right (And.right (by assumption)))) | exact And.left (And.right (And.right (And.right (by assumption)))) | exact Ne.symm (And.left (And.right (And.right (And.right (by assumption))))) | exact And.left (And.right (And.right (And.right (And.right (by assumption))))) | exact Ne.symm (And.left (And.right (And.right (And.right (And.right (by assumption)))))) | exact Ne.symm (And.left (And.right (And.right (And.right (And.right (And.right (by assumption)))))))  | exact Ne.symm (And.left (And.right (And.right (And.right (And.right (And.right (And.right (by assumption)))))))) | omega)
  k_with "all" => first | assumption | exact List.forall_mem_nil _ | (refine' List.forall_mem_cons.mpr ⟨?a, ?b⟩; (case a => k_ne); (case b => k_all)) | exact lt_ne (by assumption) | exact lt_ne_succ (by assumption) | exact fun p hp => Nat.ne_of_lt (lt_at (by assumption) (by k_mem))
  k_with "mem" => first | assumption | exact List.Mem.head _ | (refine' List.Mem.tail _ ?_; k_mem)
  k_with "room" => first | exact lim2 (by assumption) (Nat.le_of_ble_eq_true rfl) | exact lim1 (by assumption) (Nat.le_of_ble_eq_true rfl) | exact lim0 (by assumption)
  k_with "eval ListComp" => (k_here; k_dflt (refine comp_U (by k_asm) (by with_unfolding_all rfl) (by decide) (by rfl) (by decide) (by rfl) ?_))
  k_with "pyIter ref" => (k_here; (with_reducible show wpAny _ _ (pyIter (Value.ref _)) (SrcW _ _ _ _ _ _ _) _ _); k_dflt (refine src_lst (by exact rfl) (by k_asm) (by k_asm) (by k_mem) (by assumption) (fun h9' => held ?_)))
  k_fill
  intro ho
  have e9 := fn_is (by k_is) ho
  clear ho
  cases e9
  cases Option.some.inj hst
  clear hst
  k_steps
  unfold Held
  refine rest_ind (Inv := AInv rs rest (L + 1, o1) (L + 1 + 1, o2) (L + 1 + 1 + 1, o3) (L + 1 + 1 + 1 + 1, o4)) _ ?turn2 ?fin2 _ 0 _ _ (Nat.zero_add _) (AInv.mk [] rfl (fun j q h => nomatch h))
  case turn2 =>
    intro i ys' nw hi hInv
    cases hInv with | mk qs hql hq => ?_
    intro v I oI C oC Dn m2 h1 tk1 E1 hP hC hx F1 N1 off ne
    rw [List.length_map] at hi
    have hv := v_at hi hP
    subst hv
    have hri : rs[i]? = some (rs[i]) := List.getElem?_eq_getElem hi
    have mk : (rs[i]).o ∈ qs.map Pq.o ++ rest := List.mem_append_right _ (mr _ (List.getElem_mem hi))
    have me' : (e0, W.listOf (rs.map Pd.v).toArray rs.length) ∈ qs.map Pq.o ++ rest := List.mem_append_right _ me
    generalize rs[i] = rj at hri mk hx hP
    obtain ⟨ra, rb, re, rt, ru⟩ := rj
    simp only [Pd.o] at mk
    have hR : ∃ R, R = qs.map Pq.o ++ rest := ⟨_, rfl⟩
    obtain ⟨R, hR⟩ := hR
    rw [← hR] at N1 off mk me'
    clear mr hP
    k_steps
    show CompEnd _ _ _ _ _ _ _ _ _ _ _ _ _ _
    refine pq_end (by k_asm) (by k_asm) hR off (And.left (by assumption)) (And.left (And.right (by assumption))) (And.left (And.right (And.right (by assumption)))) ?_ ?_
    · exact .tail _ (.tail _ (.tail _ (.tail _ (List.mem_append_right _ me))))
    · exact AInv.snoc hql hq hri rfl rfl
  case fin2 =>
    intro ys' nw hInv
    cases hInv with | mk qs hql hq => ?_
    intro D2 h2 tk2 F2 N2 off2
    rw [List.length_map] at hql
    have mrQ : ∀ r ∈ rs, r.o ∈ (D2, lst (qs.map Pq.v)) :: (L + 1, o1) :: (L + 1 + 1, o2) :: (L + 1 + 1 + 1, o3) :: (L + 1 + 1 + 1 + 1, o4) :: (qs.map Pq.o ++ rest) := fun r hr => .tail _ (.tail _ (.tail _ (.tail _ (.tail _ (List.mem_append_right _ (mr r hr))))))
    have mqQ : ∀ q ∈ qs, q.o ∈ (D2, lst (qs.map Pq.v)) :: (L + 1, o1) :: (L + 1 + 1, o2) :: (L + 1 + 1 + 1, o3) :: (L + 1 + 1 + 1 + 1, o4) :: (qs.map Pq.o ++ rest) := fun q hq' => .tail _ (.tail _ (.tail _ (.tail _ (.tail _ (List.mem_append_left _ (List.mem_map_of_mem hq'))))))
    k_steps
    k_dflt (refine pq_dict (P := fun j q => ∃ r : Pd, rs[j]? = some r ∧ q.d = 10 * r.a + r.b) (by exact rfl) (by first | ktr_units | decide) (by k_asm) N2 (.head _) (Top.nolimit T) hab hql (fun j q e => (hq j q e).elim fun r x => ⟨r, x.1, x.2.1, r, x.1, x.2.2⟩) mrQ mqQ ?_)
    intro d od h3 tk3 F3 N3 l3 hT
    have hT' := hT ((d, od) :: (qs.map Pq.o ++ rest)) (.head _) (fun r hr => .tail _ (List.mem_append_right _ (mr r hr)))
    replace N3 : News h₀ L h3 ((L + 1, o1) :: (L + 1 + 1, o2) :: (L + 1 + 1 + 1, o3) :: (L + 1 + 1 + 1 + 1, o4) :: ((d, od) :: (qs.map Pq.o ++ rest))) := cb_drop N3 (fun q hq => mem_swap1 (A := [(L + 1, o1), (L + 1 + 1, o2), (L + 1 + 1 + 1, o3), (L + 1 + 1 + 1 + 1, o4)]) hq)
    have sub : ∀ q ∈ rest, q ∈ (d, od) :: (qs.map Pq.o ++ rest) := fun q hq => .tail _ (List.mem_append_right _ hq)
    clear hT l3 off2 N2 mrQ mqQ
    generalize (d, od) :: (qs.map Pq.o ++ rest) = R9 at N3 hT' sub
    k_steps
    refine hret R9 d qs _ _ (by k_asm) (by k_asm) sub hT' hql (fun j q r e1 e2 => ?_)
    obtain ⟨r', e3, _, e4⟩ := hq j q e1
    rw [e2] at e3
    cases e3
    exact e4
end
end
-- part T4
section
open PySem PySem.W PySem.Spec PySem.Calls PyProof.Rows PySem.SeqAt
set_option linter.all false
set_option maxRecDepth 100000
set_option maxHeartbeats 2000000
open PyProof.Rows.LCg PyProof.Rows.LCt
section
variable {prog : Program} {w : World} {A : Around} {E : Value → Shared → Prop} {s : Shared} {env : Env} {h₀ : Heap} {L : Addr} {m : Str → Option Value} {d it : Addr} {o : Obj} {es : Array DictEntry} {ep i : Nat}
theorem src_keys {kvs : List (Int × Value)} {news : List (Addr × Obj)} {R : Shared → (List (Addr × Obj) → Prop) → (Nat → Value → Prop) → Nat → List (Addr × Obj) → Prop} (hh : A.handled = none) (F : Fr h₀ L s.heap m) (N : News h₀ L s.heap news)
    (hI : IDict prog w news d kvs) (hn : kvs.length ≤ sizeLine)
    (r : ∀ h od, (d, od) ∈ news → R { s with heap := h } (fun nw => (d, od) ∈ nw) (fun i v => ∃ k x, kvs[i]? = some (k, x) ∧ (intKind prog w).is k v = true) kvs.length news) :
    wpAny (model prog w) A (pyIter (.ref d)) (SrcW prog w A h₀ L m R) E s := by
  obtain ⟨lo, od, hm, hd⟩ := hI
  obtain ⟨ep, hat⟩ := (kda_dict N hm hd).dictAt
  have hlt : d < s.heap.objs.size := Heap.lt_size (N _ hm).1
  have hat9 : ∀ h' : Heap, h'.get? d = some od → h'.DictAt (intKind prog w) d kvs ep := by
    obtain ⟨o1, es1, e1, r1⟩ := id hat
    rw [(N _ hm).1] at e1
    cases e1
    exact fun h' e => ⟨od, es1, e, r1⟩
  have hne : d ≠ s.heap.objs.size := Nat.ne_of_lt hlt
  refine wpAny_pyIter_dict lo hat ?_
  have W1 := Walks.dictKeys (prog := prog) (w := w) (knd := intKind prog w) hh s.heap.objs.size d hne kvs ep
  have up : ∀ b o, s.heap.get? b = some o → (s.heap.push { cls := .type "dict_keyiterator", data := .fields #[.ref d, .int 0 0, .int kvs.length 0, .int ep 0] }).get? b = some o := fun b o e => Heap.get?_push_of_some _ e
  refine ⟨s.heap.objs.size, _, kvs.length, _, _, (fun nw => (d, od) ∈ nw), news, rfl, W1, hn, ?_, ?_, ⟨⟨_, Heap.get?_push_size _ rfl, rfl, rfl⟩, hat.push _⟩, ?_, F.keeps up, N.grown up, Nat.ne_of_lt F.ns.lt, next_is_new F, fun p hp => Nat.ne_of_lt (Heap.lt_size (N p hp).1), hm, r _ od hm⟩
  · intro i h st
    obtain ⟨o, e, _⟩ := st.1
    exact ⟨o, e⟩
  · intro i h h' o nw st e e' _ N' hS
    refine ⟨?_, hat9 _ (N' _ hS).1⟩
    · obtain ⟨o', q, z⟩ := st.1
      have q' : h.get? s.heap.objs.size = some o' := q
      rw [e] at q'; cases q'
      exact ⟨o, e', z⟩
  · intro b hb
    show b < (s.heap.push _).objs.size
    rw [Heap.size_push]
    rcases List.mem_cons.mp hb with rfl | hb
    · exact Nat.lt_succ_self _
    · rw [List.mem_singleton.mp hb]; exact Nat.lt_succ_of_lt hlt
theorem raw_iter {Q : Value → Shared → Prop} (lo : (d == sysModules) = false) (ho : s.heap.get? d = some o) (hc : o.ExactDict) (hd : o.data = .dict es ep)
    (hQ : Q (.ref s.heap.objs.size) { s with heap := s.heap.push { cls := .type "dict_keyiterator", data := .fields #[.ref d, .int 0 0, .int es.size 0, .int ep 0] } }) : wpAny (model prog w) A (pyIter (.ref d)) Q E s := by
  have hT : s.TypeIs (.ref d) "dict" := ⟨o, ho, hc.1⟩
  refine wpAny_pyIter_slot hT F.slot_dict_iter (wpAny_call_entry F.slot_dict_iter hT F.entry_dict_iter ?_ (F.args_dict_iter_1 _))
  unfold Builtin.«dict.__iter__» Builtin.Dict.dictSlotNone
  refine wpAny_bind (wpAny_bind (wpAny_notOrdered_dict hT ?_))
  show wpAny _ _ (pure (Value.ref d)) _ _ s
  refine wpAny_pure ?_
  show wpAny _ _ (Builtin.Dict.showsAll d >>= _) _ _ s
  unfold Builtin.Dict.showsAll
  rw [if_neg (by rw [lo]; exact Bool.false_ne_true)]
  refine wpAny_bind (wpAny_pure (wpAny_bind (wpAny_dictEntries ho hd (wpAny_bind (wpAny_dictEpoch ho hd ?_)))))
  refine wpAny_bind (wpAny_newObj_type (wpAny_pure ⟨_, rfl, "dict_keyiterator", _, ⟨_, Heap.get?_push_size _ rfl, rfl⟩, F.slot_dict_keyiterator_next.lookup, ?_⟩))
  simpa [rawInt] using hQ
theorem raw_next {e9 : DictEntry} {Q : Option Value → Shared → Prop} (hit : s.heap.IsKeyIter it d i es.size ep) (ho : s.heap.get? d = some o) (hd : o.data = .dict es ep) (he : es[i]? = some e9)
    (hQ : ∀ h', h'.IsKeyIter it d (i + 1) es.size ep → Heap.SameBut it s.heap h' → Q (some e9.key) { s with heap := h' }) : wpAny (model prog w) A (pyNext (.ref it)) Q E s := by
  obtain ⟨oi, hoi, hci, hdi⟩ := id hit
  have hlt : i < es.size := by
    rcases Nat.lt_or_ge i es.size with h | h
    · exact h
    · rw [Array.getElem?_eq_none h] at he; cases he
  unfold pyNext
  refine wpAny_bind (wpAny_attempt (wpAny_callSpecial?_slot (name := Str.ofString "__next__") hit.typeIs F.slot_dict_keyiterator_next (wpAny_call_entry F.slot_dict_keyiterator_next hit.typeIs F.entry_dict_keyiterator_next ?_ (F.args_dict_keyiterator_next_1 _))))
  refine wpAny_bind (wpAny_pure (wpAny_bind (wpAny_bind ?_)))
  refine wpAny_bind ?_
  first | refine (wpAny_typeNameOfWhole_keyiter hit.typeIs (wpAny_pure ?_)) | refine (wpAny_typeNameOf_keyiter hit.typeIs (wpAny_pure ?_))
  refine wpAny_bind (wpAny_fieldsOf hoi hdi ?_)
  have hown : Builtin.Dict_items.ownsTuple "dict_keyiterator" = false := by decide
  rw [hown, if_neg Bool.false_ne_true]
  show wpAny _ _ (if (Value.ref d == Value.none) = true then _ else _) _ _ s
  rw [if_neg (show ¬ ((Value.ref d == Value.none) = true) from Bool.false_ne_true)]
  refine wpAny_bind (wpAny_pure (wpAny_bind (wpAny_dictEntries ho hd ?_)))
  rw [if_neg (by simp)]
  refine wpAny_bind (wpAny_pure (wpAny_bind (wpAny_dictEpoch ho hd ?_)))
  rw [if_neg (by simp)]
  refine wpAny_pure ?_
  dsimp only
  rw [if_neg (show ¬ ((i : Int) < 0) from Int.not_lt.mpr (Int.natCast_nonneg i)), Int.toNat_natCast, he]
  dsimp only
  refine wpAny_bind ?_
  first | refine wpAny_bind (wpAny_typeNameOfWhole_keyiter hit.typeIs (wpAny_pure ?_)) | refine wpAny_bind (wpAny_typeNameOf_keyiter hit.typeIs (wpAny_pure ?_))
  refine wpAny_bind (wpAny_isOneOf_keyiter hit.typeIs ?_)
  show wpAny _ _ (setField (.ref it) 1 (rawInt ((i : Int) + 1)) >>= _) _ _ s
  refine wpAny_bind (wpAny_setField hoi hdi (by simp) ?_)
  have hit' : (s.heap.update it (Obj.mapFields (·.setIfInBounds 1 (rawInt ((i : Int) + 1))))).IsKeyIter it d (i + 1) es.size ep :=
    ⟨_, Heap.get?_update_self _ hoi (Obj.isFreed_of_fields (Obj.data_mapFields hdi _)), (Obj.cls_mapFields ..).trans hci, by rw [Obj.data_mapFields hdi]; simp [rawInt]⟩
  refine wpAny_bind (wpAny_holding ?_)
  refine wpAny_bind (wpAny_isOneOf_keyiter (s := { s with heap := s.heap.update it (Obj.mapFields (·.setIfInBounds 1 (rawInt ((i : Int) + 1)))) }) hit'.typeIs ?_)
  show wpAny _ _ (pure e9.key) _ _ _
  exact wpAny_pure (wpAny_pure ⟨_, rfl, wpAny_pure (hQ _ hit' (Heap.SameBut.update ..))⟩)
theorem raw_end {Q : Option Value → Shared → Prop} (hh : A.handled = none) (hit : s.heap.IsKeyIter it d i es.size ep) (ho : s.heap.get? d = some o) (hd : o.data = .dict es ep) (hge : es.size ≤ i)
    (hQ : ∀ h', Heap.ExtBut it s.heap h' → Q none { s with heap := h' }) : wpAny (model prog w) A (pyNext (.ref it)) Q E s := by
  obtain ⟨oi, hoi, hci, hdi⟩ := id hit
  unfold pyNext
  refine wpAny_bind (wpAny_attempt (wpAny_callSpecial?_slot (name := Str.ofString "__next__") hit.typeIs F.slot_dict_keyiterator_next (wpAny_call_entry F.slot_dict_keyiterator_next hit.typeIs F.entry_dict_keyiterator_next ?_ (F.args_dict_keyiterator_next_1 _))))
  refine wpAny_bind (wpAny_pure (wpAny_bind (wpAny_bind ?_)))
  refine wpAny_bind ?_
  first | refine (wpAny_typeNameOfWhole_keyiter hit.typeIs (wpAny_pure ?_)) | refine (wpAny_typeNameOf_keyiter hit.typeIs (wpAny_pure ?_))
  refine wpAny_bind (wpAny_fieldsOf hoi hdi ?_)
  have hown : Builtin.Dict_items.ownsTuple "dict_keyiterator" = false := by decide
  rw [hown, if_neg Bool.false_ne_true]
  show wpAny _ _ (if (Value.ref d == Value.none) = true then _ else _) _ _ s
  rw [if_neg (show ¬ ((Value.ref d == Value.none) = true) from Bool.false_ne_true)]
  refine wpAny_bind (wpAny_pure (wpAny_bind (wpAny_dictEntries ho hd ?_)))
  rw [if_neg (by simp)]
  refine wpAny_bind (wpAny_pure (wpAny_bind (wpAny_dictEpoch ho hd ?_)))
  rw [if_neg (by simp)]
  refine wpAny_pure ?_
  dsimp only
  rw [if_neg (show ¬ ((i : Int) < 0) from Int.not_lt.mpr (Int.natCast_nonneg i)), Int.toNat_natCast, Array.getElem?_eq_none hge]
  dsimp only
  refine wpAny_bind ?_
  first | refine wpAny_bind (wpAny_typeNameOfWhole_keyiter hit.typeIs (wpAny_pure ?_)) | refine wpAny_bind (wpAny_typeNameOf_keyiter hit.typeIs (wpAny_pure ?_))
  show wpAny _ _ (setField (.ref it) 0 .none >>= _) _ _ s
  refine wpAny_bind (wpAny_setField hoi hdi (by simp) ?_)
  show wpAny _ _ (newExc (.type "StopIteration") [] >>= _) _ _ _
  refine wpAny_bind ?_
  simp only [newExc, newTuple]
  refine wpAny_bind (wpAny_newObj_type ?_ (by size_fits))
  refine wpAny_bind (m := firstArgMember _ _) (wpAny_of_eq (a := Value.none) (by first | rfl | (simp only [firstArgMember]; rfl)) ?_)
  refine wpAny_newObj_type ?_ (by size_fits)
  simp only [raiseNew]
  refine wpAny_bind (wpAny_handled ?_)
  rw [show A.in1.handled = none from hh]
  refine wpAny_bind (wpAny_pure (wpAny_throw ?_))
  refine wpAny_bind (wpAny_isInstance (T := "StopIteration") (b := true) ⟨_, Heap.get?_push_size _ rfl, rfl⟩ isSubtype_stop ?_)
  exact wpAny_pure (hQ _ (((Heap.SameBut.update ..).extBut.push _).push _))
theorem raw_walks (hh : A.handled = none) (I d : Addr) (hne : d ≠ I) (o : Obj) (es : Array DictEntry) (ep : Nat) (hd : o.data = .dict es ep) :
    Walks prog w A I [I, d] [I] es.size (fun i v => ∃ e, es[i]? = some e ∧ v = e.key) (fun i h => h.IsKeyIter I d i es.size ep ∧ h.get? d = some o) where
  sub := fun b hb => by simp at hb; simp [hb]
  frame := fun _ _ _ st hk => ⟨st.1.at fun o e => hk I (by simp) o e, hk d (by simp) _ st.2⟩
  item := fun i s Q E hi st hQ => by
    refine raw_next (e9 := es[i]) st.1 st.2 hd (by simp [hi]) fun h' hit' hs' => ?_
    exact hQ _ h' s.toks ⟨es[i], by simp [hi], rfl⟩ ⟨hit', hs'.extBut _ _ hne st.2⟩ fun b o hb e => hs'.extBut b o (fun h => hb (by simp [h])) e
  done := fun s Q E st hQ => raw_end hh st.1 st.2 hd (Nat.le_refl _) fun h' he' => hQ h' s.toks fun b o hb e => he' b o (fun h => hb (by simp [h])) e
  self := fun _ _ _ _ st hQ => wpAny_pyIter_keyiter st.1 hQ
theorem src_keysT {xs : List (List Int × Addr × Value)} {news : List (Addr × Obj)} {R : Shared → (List (Addr × Obj) → Prop) → (Nat → Value → Prop) → Nat → List (Addr × Obj) → Prop} (hh : A.handled = none) (F : Fr h₀ L s.heap m) (N : News h₀ L s.heap news)
    (hI : TDict prog w news d xs) (hn : xs.length ≤ sizeLine)
    (r : ∀ h od, (d, od) ∈ news → R { s with heap := h } (fun nw => (d, od) ∈ nw) (fun i v => ∃ x, xs[i]? = some x ∧ v = .ref x.2.1) xs.length news) :
    wpAny (model prog w) A (pyIter (.ref d)) (SrcW prog w A h₀ L m R) E s := by
  obtain ⟨lo, od, es, ep, hm, hx, hd, he, _, _⟩ := hI
  have hlt : d < s.heap.objs.size := Heap.lt_size (N _ hm).1
  have hne : d ≠ s.heap.objs.size := Nat.ne_of_lt hlt
  refine raw_iter lo (N _ hm).1 hx hd ?_
  have W1 := raw_walks (prog := prog) (w := w) hh s.heap.objs.size d hne od es ep hd
  have hsz : es.size = xs.length := by
    have := congrArg List.length he
    simpa using this
  have up : ∀ b o, s.heap.get? b = some o → (s.heap.push { cls := .type "dict_keyiterator", data := .fields #[.ref d, .int 0 0, .int es.size 0, .int ep 0] }).get? b = some o := fun b o e => Heap.get?_push_of_some _ e
  have hP : (fun (i : Nat) (v : Value) => ∃ e : DictEntry, es[i]? = some e ∧ v = e.key) = fun i v => ∃ x, xs[i]? = some x ∧ v = .ref x.2.1 := by
    funext i v
    have e1 : es[i]? = (xs[i]?).map (entryOfKey (tupleKind (intKind prog w))) := by
      rw [← Array.getElem?_toList, he, List.getElem?_map]
    rw [e1]
    apply propext
    constructor
    · rintro ⟨e, h1, h2⟩
      cases hxi : xs[i]? with
      | none => rw [hxi] at h1; cases h1
      | some x => rw [hxi] at h1; cases h1; exact ⟨x, rfl, h2⟩
    · rintro ⟨x, h1, h2⟩
      rw [h1]
      exact ⟨_, rfl, h2⟩
  rw [hP, hsz] at W1
  rw [← hsz] at hn
  refine ⟨s.heap.objs.size, _, xs.length, _, _, (fun nw => (d, od) ∈ nw), news, rfl, W1, by rw [← hsz]; exact hn, ?_, ?_, ⟨⟨_, Heap.get?_push_size _ rfl, rfl, by rw [hsz]; rfl⟩, up _ _ (N _ hm).1⟩, ?_, F.keeps up, N.grown up, Nat.ne_of_lt F.ns.lt, next_is_new F, fun p hp => Nat.ne_of_lt (Heap.lt_size (N p hp).1), hm, r _ od hm⟩
  · intro i h st
    obtain ⟨o, e, _⟩ := st.1
    exact ⟨o, e⟩
  · intro i h h' o nw st e e' _ N' hS
    refine ⟨?_, (N' _ hS).1⟩
    obtain ⟨o', q, z⟩ := st.1
    have q' : h.get? s.heap.objs.size = some o' := q
    rw [e] at q'; cases q'
    exact ⟨o, e', z⟩
  · intro b hb
    show b < (s.heap.push _).objs.size
    rw [Heap.size_push]
    rcases List.mem_cons.mp hb with rfl | hb
    · exact Nat.lt_succ_self _
    · rw [List.mem_singleton.mp hb]; exact Nat.lt_succ_of_lt hlt
end
end
-- part SA
section
open PySem PySem.W PySem.Spec PySem.Calls PyProof.Rows PySem.SeqAt
set_option linter.all false
set_option maxRecDepth 100000
set_option maxHeartbeats 2000000
open PyProof.Rows.LCg PyProof.Rows.LCt
noncomputable def Pq.o2 (q : Pq) : Addr × Obj := (q.e, tupO [.int q.d q.t, .ref q.k])
theorem led3 {prog : Program} {w : World} {A : Around} {h₀ : Heap} {L : Addr} {m : Str → Option Value} {env : Env} {elt : Expr} {x : Str} {scope : Scope} {cl : List (Str × Addr)} {s : Shared} {S : List (Addr × Obj) → Prop} {P : Nat → Value → Prop} {Fin : List Value → List (Addr × Obj) → Prop} {k i : Nat} {ys : List Value} {c1 c2 c3 : Addr × Obj} {R0 : List (Addr × Obj)}
    (h : ∀ d1 d2 d3 R, d1 = c1 → d2 = c2 → d3 = c3 → R = R0 → CompRest prog w A h₀ L m env elt x scope cl s S P Fin k i ys (d1 :: d2 :: d3 :: R)) : CompRest prog w A h₀ L m env elt x scope cl s S P Fin k i ys (c1 :: c2 :: c3 :: R0) := h _ _ _ _ rfl rfl rfl rfl
theorem mem3 {α : Type} {q c1 c2 c3 : α} {A R : List α} (h : q ∈ c1 :: c2 :: c3 :: R) : q ∈ c1 :: c2 :: c3 :: (A ++ R) := mem_mid (A := [c1, c2, c3]) h
theorem off_d3 {eds : List Pq} {R : List (Addr × Obj)} {X : Addr} (h : ∀ p ∈ R, p.1 < X) (hl : ∀ q ∈ eds, @LT.lt Nat _ X q.e) : ∀ q ∈ eds.map Pq.o2 ++ R, q.1 ≠ X := by
  intro q hq
  rcases List.mem_append.mp hq with hq | hq
  · obtain ⟨e, he, rfl⟩ := List.mem_map.mp hq
    exact Nat.ne_of_gt (hl e he)
  · exact Nat.ne_of_lt (h q hq)
theorem swd {d e c1 c2 c3 : Addr × Obj} {R : List (Addr × Obj)} : ∀ q ∈ c1 :: c2 :: c3 :: d :: R, q ∈ d :: e :: c1 :: c2 :: c3 :: R := fun q hq => mem_swap1 (A := [c1, c2, c3]) hq
theorem ends_ok {news : List (Addr × Obj)} {r0 r1 r2 r3 r4 r5 : Pd} (f0 : r0.a = 1) (g0 : r0.b = 1) (f1 : r1.a = 1) (g1 : r1.b = 2) (f2 : r2.a = 2) (g2 : r2.b = 1) (f3 : r3.a = 2) (g3 : r3.b = 2) (f4 : r4.a = 3) (g4 : r4.b = 1) (f5 : r5.a = 3) (g5 : r5.b = 2)
    (m0 : r0.o ∈ news) (m1 : r1.o ∈ news) (m2 : r2.o ∈ news) (m3 : r3.o ∈ news) (m4 : r4.o ∈ news) (m5 : r5.o ∈ news) :
    ∀ g, (endO g = none ∧ valueAt [((11 : Int), Value.ref r0.e), (12, .ref r1.e), (21, .ref r2.e), (22, .ref r3.e), (31, .ref r4.e), (32, .ref r5.e)] g = none) ∨ ∃ r q e t u, endO g = some (r, q) ∧ valueAt [((11 : Int), Value.ref r0.e), (12, .ref r1.e), (21, .ref r2.e), (22, .ref r3.e), (31, .ref r4.e), (32, .ref r5.e)] g = some (.ref e) ∧ (e, tupO [.int r t, .int q u]) ∈ news := by
  intro g
  rw [Pd.o, f0, g0] at m0
  rw [Pd.o, f1, g1] at m1
  rw [Pd.o, f2, g2] at m2
  rw [Pd.o, f3, g3] at m3
  rw [Pd.o, f4, g4] at m4
  rw [Pd.o, f5, g5] at m5
  by_cases h0 : g = 11
  · subst h0; exact .inr ⟨_, _, _, _, _, rfl, rfl, m0⟩
  by_cases h1 : g = 12
  · subst h1; exact .inr ⟨_, _, _, _, _, rfl, rfl, m1⟩
  by_cases h2 : g = 21
  · subst h2; exact .inr ⟨_, _, _, _, _, rfl, rfl, m2⟩
  by_cases h3 : g = 22
  · subst h3; exact .inr ⟨_, _, _, _, _, rfl, rfl, m3⟩
  by_cases h4 : g = 31
  · subst h4; exact .inr ⟨_, _, _, _, _, rfl, rfl, m4⟩
  by_cases h5 : g = 32
  · subst h5; exact .inr ⟨_, _, _, _, _, rfl, rfl, m5⟩
  have z : ∀ (k : Int) (v : Value) (r : List (Int × Value)), g ≠ k → valueAt ((k, v) :: r) g = valueAt r g := fun k v r h => by
    unfold valueAt
    rw [List.find?_cons_of_neg (p := fun kv : Int × Value => decide (kv.1 = g)) fun e => h (of_decide_eq_true e).symm]
  refine .inl ⟨by unfold endO; rw [if_neg h0, if_neg h1, if_neg h2, if_neg h3, if_neg h4, if_neg h5], ?_⟩
  rw [z _ _ _ h0, z _ _ _ h1, z _ _ _ h2, z _ _ _ h3, z _ _ _ h4, z _ _ _ h5]
  rfl
theorem prs6 {news : List (Addr × Obj)} {e1 e2 e3 e4 e5 e6 : Addr} {k1 k2 k3 k4 k5 k6 : Int} {u1 u2 u3 u4 u5 u6 : Tok} {x1 x2 x3 x4 x5 x6 : Value} (m1 : (e1, tupO [.int k1 u1, x1]) ∈ news) (m2 : (e2, tupO [.int k2 u2, x2]) ∈ news) (m3 : (e3, tupO [.int k3 u3, x3]) ∈ news) (m4 : (e4, tupO [.int k4 u4, x4]) ∈ news) (m5 : (e5, tupO [.int k5 u5, x5]) ∈ news) (m6 : (e6, tupO [.int k6 u6, x6]) ∈ news) :
    ∀ (i : Nat) (kv : Int × Value), [(k1, x1), (k2, x2), (k3, x3), (k4, x4), (k5, x5), (k6, x6)][i]? = some kv → ∃ t u, [Value.ref e1, .ref e2, .ref e3, .ref e4, .ref e5, .ref e6][i]? = some (.ref t) ∧ (t, tupO [.int kv.1 u, kv.2]) ∈ news := by
  intro i kv hi
  match i, hi with
  | 0, hi => cases hi; exact ⟨e1, u1, rfl, m1⟩
  | 1, hi => cases hi; exact ⟨e2, u2, rfl, m2⟩
  | 2, hi => cases hi; exact ⟨e3, u3, rfl, m3⟩
  | 3, hi => cases hi; exact ⟨e4, u4, rfl, m4⟩
  | 4, hi => cases hi; exact ⟨e5, u5, rfl, m5⟩
  | 5, hi => cases hi; exact ⟨e6, u6, rfl, m6⟩
theorem six {α : Type} {l : List α} (h : l.length = 6) : ∃ a b c d e f, l = [a, b, c, d, e, f] := by
  obtain ⟨a, b, c, e1⟩ := three (l := l.take 3) (by rw [List.length_take, h]; rfl)
  obtain ⟨d, e, f, e2⟩ := three (l := l.drop 3) (by rw [List.length_drop, h])
  exact ⟨a, b, c, d, e, f, by rw [← List.take_append_drop 3 l, e1, e2]; rfl⟩
theorem ends_at {rs : List Pd} {qs eds : List Pq} (he : ∀ (j : Nat) (q : Pq), eds[j]? = some q → ∃ (r : Pd) (q0 : Pq), rs[j]? = some r ∧ qs[j]? = some q0 ∧ q.k = r.e ∧ q.d = q0.d) (j : Nat) {e q : Pq} {r : Pd} (h1 : eds[j]? = some e) (h2 : rs[j]? = some r) (h3 : qs[j]? = some q) : e.d = q.d ∧ e.k = r.e := by
  obtain ⟨r', q', x1, x2, x3, x4⟩ := he j e h1
  rw [h2] at x1; cases x1
  rw [h3] at x2; cases x2
  exact ⟨x4, x3⟩
theorem ed_end {h₀ : Heap} {L I C Dn D' k : Addr} {m : Str → Option Value} {s₁ : Shared} {oI oC oD : Obj} {c1 c2 c3 : Addr × Obj} {S : List (Addr × Obj) → Prop} {R : Value → List (Addr × Obj) → Prop} {h' : Heap} {tk : Nat} {qs : List Pq} {rest R0 : List (Addr × Obj)} {d : Int} {t : Tok}
    (F : Fr h₀ L h' m) (N : News h₀ L h' ((D', tupO [.int d t, .ref k]) :: (I, oI) :: (C, oC) :: (Dn, oD) :: c1 :: c2 :: c3 :: R0)) (hR : R0 = qs.map Pq.o2 ++ rest) (off : Off3 I C Dn (c1 :: c2 :: c3 :: R0))
    (nI : I < D') (nC : C < D') (nD : Dn < D') (hS : S (c1 :: c2 :: c3 :: ((qs ++ [Pq.mk D' k d t]).map Pq.o2 ++ rest))) (r : R (.ref D') (c1 :: c2 :: c3 :: ((qs ++ [Pq.mk D' k d t]).map Pq.o2 ++ rest))) :
    CompEnd h₀ L m s₁ I oI C oC Dn oD S R (.ref D') { s₁ with heap := h', toks := tk } := by
  subst hR
  have om := off.mem
  have e1 : ∀ y, (qs ++ [Pq.mk D' k d t]).map Pq.o2 ++ y = qs.map Pq.o2 ++ ((D', tupO [.int d t, .ref k]) :: y) := fun y => cat_map y
  refine CompEnd.intro F N _ (fun q hq => ?_) (Off3.of fun q hq => ?_) hS r
  · rw [e1] at hq
    exact mem_in1 (A := [c1, c2, c3]) (B := [(I, oI), (C, oC), (Dn, oD)]) hq
  · rw [e1] at hq
    rcases mem_or1 (A := [c1, c2, c3]) hq with h | h
    · exact om q h
    · rw [h]; exact ⟨Nat.ne_of_gt nI, Nat.ne_of_gt nC, Nat.ne_of_gt nD⟩
inductive WInv (rs : List Pd) (qs : List Pq) (d1 d2 d3 : Addr × Obj) (R : List (Addr × Obj)) (i : Nat) : List Value → List (Addr × Obj) → Prop
  | mk (eds : List Pq) (hel : eds.length = i) (he : ∀ (j : Nat) (q : Pq), eds[j]? = some q → ∃ (r : Pd) (q0 : Pq), rs[j]? = some r ∧ qs[j]? = some q0 ∧ q.k = r.e ∧ q.d = q0.d) (hlt : ∀ q ∈ eds, @LT.lt Nat _ d3.1 q.e) :
    WInv rs qs d1 d2 d3 R i (eds.map Pq.v) (d1 :: d2 :: d3 :: (eds.map Pq.o2 ++ R))
theorem WInv.snoc {rs : List Pd} {qs eds : List Pq} {d1 d2 d3 : Addr × Obj} {R : List (Addr × Obj)} {i : Nat} {e k : Addr} {d : Int} {t : Tok} {r : Pd} {q0 : Pq} (hel : eds.length = i) (he : ∀ (j : Nat) (q : Pq), eds[j]? = some q → ∃ (r : Pd) (q0 : Pq), rs[j]? = some r ∧ qs[j]? = some q0 ∧ q.k = r.e ∧ q.d = q0.d) (hlt : ∀ q ∈ eds, @LT.lt Nat _ d3.1 q.e)
    (hr : rs[i]? = some r) (hq : qs[i]? = some q0) (hk : k = r.e) (hd : d = q0.d) (hl : @LT.lt Nat _ d3.1 e) : WInv rs qs d1 d2 d3 R (i + 1) (eds.map Pq.v ++ [.ref e]) (d1 :: d2 :: d3 :: ((eds ++ [Pq.mk e k d t]).map Pq.o2 ++ R)) := by
  have h9 := map_snoc (f := Pq.v) (l := eds) (x := Pq.mk e k d t)
  rw [show ([.ref e] : List Value) = [Pq.v (Pq.mk e k d t)] from rfl, h9]
  refine WInv.mk _ (len_snoc hel) (snoc_all he ⟨r, q0, hel ▸ hr, hel ▸ hq, hk, hd⟩) fun q hq => ?_
  rcases List.mem_append.mp hq with hq | hq
  · exact hlt q hq
  · rw [List.mem_singleton.mp hq]; exact hl
inductive WParts (eds : List Pq) (rest : List (Addr × Obj)) : Prop
  | mk (e0 e1 e2 e3 e4 e5 x0 x1 x2 x3 x4 x5 : Addr) (t0 t1 t2 t3 t4 t5 : Tok) (hv : eds.map Pq.v = [.ref e0, .ref e1, .ref e2, .ref e3, .ref e4, .ref e5])
    (m0 : (e0, tupO [.int 11 t0, .ref x0]) ∈ eds.map Pq.o2) (m1 : (e1, tupO [.int 12 t1, .ref x1]) ∈ eds.map Pq.o2) (m2 : (e2, tupO [.int 21 t2, .ref x2]) ∈ eds.map Pq.o2) (m3 : (e3, tupO [.int 22 t3, .ref x3]) ∈ eds.map Pq.o2) (m4 : (e4, tupO [.int 31 t4, .ref x4]) ∈ eds.map Pq.o2) (m5 : (e5, tupO [.int 32 t5, .ref x5]) ∈ eds.map Pq.o2)
    (hE : ∀ g, (endO g = none ∧ valueAt [((11 : Int), Value.ref x0), (12, .ref x1), (21, .ref x2), (22, .ref x3), (31, .ref x4), (32, .ref x5)] g = none) ∨ ∃ r q e t u, endO g = some (r, q) ∧ valueAt [((11 : Int), Value.ref x0), (12, .ref x1), (21, .ref x2), (22, .ref x3), (31, .ref x4), (32, .ref x5)] g = some (.ref e) ∧ (e, tupO [.int r t, .int q u]) ∈ rest) : WParts eds rest
theorem o2_at {eds : List Pq} {e : Pq} {d : Int} {k : Addr} (j : Nat) (h : eds[j]? = some e) (a : e.d = d) (b : e.k = k) : (e.e, tupO [.int d e.t, .ref k]) ∈ eds.map Pq.o2 := by
  have := List.mem_map_of_mem (f := Pq.o2) (List.mem_of_getElem? h)
  rw [Pq.o2, a, b] at this
  exact this
theorem parts_of {rs : List Pd} {qs eds : List Pq} {rest : List (Addr × Obj)} (hrs : rs.length = 6) (hql : qs.length = 6) (hel : eds.length = 6) (he : ∀ (j : Nat) (q : Pq), eds[j]? = some q → ∃ (r : Pd) (q0 : Pq), rs[j]? = some r ∧ qs[j]? = some q0 ∧ q.k = r.e ∧ q.d = q0.d)
    (hq : ∀ (j : Nat) (q : Pq) (r : Pd), qs[j]? = some q → rs[j]? = some r → q.d = 10 * r.a + r.b) (hab : rs.map Pd.ab = ab6) (mr : ∀ r ∈ rs, r.o ∈ rest) : WParts eds rest := by
  obtain ⟨r0, r1, r2, r3, r4, r5, rfl⟩ := six hrs
  obtain ⟨q0, q1, q2, q3, q4, q5, rfl⟩ := six hql
  obtain ⟨e0, e1, e2, e3, e4, e5, rfl⟩ := six hel
  obtain ⟨a0, b0⟩ := ends_at he 0 rfl rfl rfl
  obtain ⟨a1, b1⟩ := ends_at he 1 rfl rfl rfl
  obtain ⟨a2, b2⟩ := ends_at he 2 rfl rfl rfl
  obtain ⟨a3, b3⟩ := ends_at he 3 rfl rfl rfl
  obtain ⟨a4, b4⟩ := ends_at he 4 rfl rfl rfl
  obtain ⟨a5, b5⟩ := ends_at he 5 rfl rfl rfl
  have c0 := hq 0 q0 r0 rfl rfl
  have c1 := hq 1 q1 r1 rfl rfl
  have c2 := hq 2 q2 r2 rfl rfl
  have c3 := hq 3 q3 r3 rfl rfl
  have c4 := hq 4 q4 r4 rfl rfl
  have c5 := hq 5 q5 r5 rfl rfl
  simp only [ab6, List.map_cons, List.map_nil, List.cons.injEq, and_true, Pd.ab, Prod.mk.injEq] at hab
  obtain ⟨⟨f0, g0⟩, ⟨f1, g1⟩, ⟨f2, g2⟩, ⟨f3, g3⟩, ⟨f4, g4⟩, f5, g5⟩ := hab
  rw [f0, g0] at c0
  rw [f1, g1] at c1
  rw [f2, g2] at c2
  rw [f3, g3] at c3
  rw [f4, g4] at c4
  rw [f5, g5] at c5
  exact ⟨e0.e, e1.e, e2.e, e3.e, e4.e, e5.e, r0.e, r1.e, r2.e, r3.e, r4.e, r5.e, e0.t, e1.t, e2.t, e3.t, e4.t, e5.t, rfl, o2_at 0 rfl (a0.trans c0) b0, o2_at 1 rfl (a1.trans c1) b1, o2_at 2 rfl (a2.trans c2) b2, o2_at 3 rfl (a3.trans c3) b3, o2_at 4 rfl (a4.trans c4) b4, o2_at 5 rfl (a5.trans c5) b5,
    ends_ok (r0 := r0) (r1 := r1) (r2 := r2) (r3 := r3) (r4 := r4) (r5 := r5) f0 g0 f1 g1 f2 g2 f3 g3 f4 g4 f5 g5 (mr r0 (List.mem_of_getElem? (i := 0) rfl)) (mr r1 (List.mem_of_getElem? (i := 1) rfl)) (mr r2 (List.mem_of_getElem? (i := 2) rfl)) (mr r3 (List.mem_of_getElem? (i := 3) rfl)) (mr r4 (List.mem_of_getElem? (i := 4) rfl)) (mr r5 (List.mem_of_getElem? (i := 5) rfl))⟩
section
theorem world_ct {w : World} {p : Program} {loose : List Str} {mean : ExcName → Option Value} {mg mb : Str → Option Value} {rest : List (Addr × Obj)} {n rd aD : Addr} {t8 : Tok} {rs : List Pd} {qs : List Pq}
  {dp un : Nat} {gd : Option (List Code)} {cn : Str} {nms : List (Str × NameKind)} {mm : List (Str × Const)} {a : Addr} {ccd : Value} {cl : List (Str × Addr)} {outer : List Env} {A₀ : Around} {base h₀ : Heap} {L : Addr} {m : Str → Option Value} {s : Shared} {Q E : Value → Shared → Prop}
  (B : Below A₀ base outer h₀) (F : Fr h₀ L s.heap m) (T : Top p loose mean mg mb h₀) (N : News h₀ L s.heap rest)
  (hT : TDict PySem.Challenge.rw_rh0207_01.row.prog w rest aD (homeXs rs qs)) (mr : ∀ r ∈ rs, r.o ∈ rest) (hab : rs.map Pd.ab = ab6) (hrs : rs.length = 6) (hql : qs.length = rs.length) (hsz : (homeXs rs qs).length ≤ sizeLine)
  (hq : ∀ (j : Nat) (q : Pq) (r : Pd), qs[j]? = some q → rs[j]? = some r → q.d = 10 * r.a + r.b)
  (hdp : dp + 50 < recursionLimit) (hu : un + 500 < cLine)
  (hret : ∀ wd ed rest' h' tk', Fr h₀ L h' m → News h₀ L h' rest' → (∀ q ∈ rest, q ∈ rest') → WorldAt rest' wd n rd ed → EndsOk w rest' ed → Q (.ref wd) { s with heap := h', toks := tk' }) :
  (hd.heap_39 w.params).In h₀ →
  wpAny (model PySem.Challenge.rw_rh0207_01.row.prog w) (ktrTop dp un gd cn { kind := .function, names := nms, isGenerator := false, isCoroutine := false, more := mm } L a ccd cl outer) (call (.ref 97) [.ref n, .ref rd, .ref aD, .int 8 t8]) Q E s := by
  w_top off
  k_with_none
  k_with "ne" => first | assumption | (refine neN ?_; (try dsimp only); first | assumption | exact Nat.ne_of_lt (lt_mem (by assumption) (by k_mem)) | exact Nat.ne_of_gt (lt_mem (by assumption) (by k_mem)) | exact Nat.ne_of_gt (lt_mem2 (by assumption) (by assumption) (by k_mem)) | exact And.left (by assumption) | exact Ne.symm (And.left (by assumption)) | exact And.left (And.right (by assumption)) | exact Ne.symm (And.left (And.right (by assumption))) | exact And.left (And.right (And.right (by assumption))) | exact Ne.symm (And.left (And.right (And.right (by assumption)))) | exact And.left (And.right (And.right (And.right (by assumption)))) | exact Ne.symm (And.left (And.right (And.right (And.right (by assumption))))) | exact And.left (And.right (And.right (And.right (And.right (by assumption))))) | exact Ne.symm (And.left (And.right (And.right (And.right (And.right (by assumption)))))) | exact Ne.symm (And.left (And.right (And.right (And.right (And.right (And.right (by assumption)))))))  | exact Ne.symm (And.left (And.right (And.right (And.right (And.right (And.right (And.right (by assumption)))))))) | omega)
  k_with "all" => first | assumption | exact List.forall_mem_nil _ | (refine' List.forall_mem_cons.mpr ⟨?a, ?b⟩; (case a => k_ne); (case b => k_all)) | exact lt_ne (by assumption) | exact lt_ne_succ (by assumption) | exact fun p hp => Nat.ne_of_lt (lt_at (by assumption) (by k_mem))
  k_with "mem" => first | assumption | exact List.Mem.head _ | (refine' List.Mem.tail _ ?_; k_mem)
  k_with "room" => first | exact lim2 (by assumption) (Nat.le_of_ble_eq_true rfl) | exact lim1 (by assumption) (Nat.le_of_ble_eq_true rfl) | exact lim0 (by assumption)
  k_with "eval ListComp" => (k_here; k_dflt (refine comp_U (by k_asm) (by with_unfolding_all rfl) (by decide) (by rfl) (by decide) (by rfl) ?_))
  k_with "pyIter ref" => (k_here; (with_reducible show wpAny _ _ (pyIter (Value.ref _)) (SrcW _ _ _ _ _ _ _) _ _); k_dflt (refine src_keysT (by exact rfl) (by k_asm) (by k_asm) (TDict.mono (by with_reducible assumption) (by intro q9' hq9'; repeat (first | with_reducible exact hq9' | refine List.mem_cons_of_mem _ ?_))) (by assumption) (fun h9' od9' hm9' => held ?_)))
  k_with "subscriptTail Name Name ref ref" => (k_here; k_dflt (refine item_T' (by k_asm) (by with_reducible assumption) (by intro q9' hq9'; repeat (first | with_reducible exact hq9' | refine List.mem_cons_of_mem _ ?_)) (by with_reducible assumption) (by (refine Nat.lt_of_le_of_lt ?_ (‹_ + 500 < cLine›)); exact Nat.add_le_add_left (Nat.le_of_ble_eq_true rfl : 5 ≤ 500) _) pair_key (by assumption) ?_); intro tk9')
  k_fill
  intro X
  k_dflt (refine' call_cls ?k1 ?k2 ?k3 ?k4 ?k5 ?k6 ?_; (case k1 => k_asm); (case k2 => k_asm); (case k3 => k_asm); (case k4 => k_is); (case k5 => k_is); (case k6 => k_is); k_whole; intro x' d9 h' F' N' lX lY)
  have lP := lX
  replace lX := allLt_of lX
  try dsimp only [AllLt] at lX
  replace lY := ltN lY
  k_dflt (refine' code_defC (binds := [(Str.ofString "self", .ref x'), (Str.ofString "net", .ref n), (Str.ofString "routers", .ref rd), (Str.ofString "addresses", .ref aD), (Str.ofString "bits", .int 8 t8)]) ?k1 ?k2 ?k3 ?k4 ?k5 ?kA ?kF ?kK ?k6 ?k7 ?k8 ?k9 ?kB ?kD ?_ ?c2 ?c3 ?c4; (case kA => exact rfl); (case kF => exact rfl); (case kK => exact rfl); (case k1 => k_asm); (case k2 => k_asm); (case k3 => k_asm); (case k4 => k_asm); (case k5 => k_asm); (case k6 => k_is); (case k7 => k_is); (case k8 => ktr_room); (case k9 => exact BindsTo.of_eq rfl); (case kB => exact rfl); (case kD => decide +kernel); (case c2 => exact rfl); (case c3 => exact rfl); (case c4 => exact rfl); k_whole; intro g' L' h' tk' cells' FG' F' N' Y' B' X' T' l1)
  replace l1 := allLt_of l1
  try dsimp only [AllLt] at l1
  replace F' := fr_eq F' (m' := fun y => if y = Str.ofString "bits" then some (.int 8 t8) else if y = Str.ofString "routers" then some (.ref rd) else if y = Str.ofString "net" then some (.ref n) else if y = Str.ofString "self" then some (.ref x') else none) rfl
  obtain ⟨o', hE', d1'⟩ := CellsAre.one Y'
  subst hE'
  clear Y'
  have d2' : o'.data = .cell (some (.ref aD)) := d1'
  clear d1'
  simp only [List.cons_append, List.nil_append] at N'
  dsimp only
  try k_lift B'
  show wpAny _ _ _ _ _ _
  k_fold
  k_steps
  unfold Held
  refine led3 (fun d1 d2 d3 R e1 e2 e3 eR => ?_)
  refine rest_ind (Inv := WInv rs qs d1 d2 d3 R) _ ?turn2 ?fin2 _ 0 _ _ (Nat.zero_add _) (WInv.mk [] rfl (fun j q h => nomatch h) (fun q h => nomatch h))
  case turn2 =>
    subst e1 e2 e3 eR
    intro i ys' nw hi hInv
    obtain ⟨eds, hel, he, hlt⟩ := hInv
    intro v I' oI' C' oC' D' m2 h2 tk2 E2 hP hC' hx F2 N2 off ne
    dsimp only at hlt
    rw [homeXs_len hql] at hi
    obtain ⟨x, hx1, rfl⟩ := hP
    obtain ⟨r, q0, hr1, hq1, rfl⟩ := homeXs_get hx1
    have hat : atKey (homeXs rs qs) [r.a, r.b] = some (r.e, .int q0.d q0.t) := atKey_of_get hT.nodup hx1
    have mk : (r.e, tupO [.int r.a r.t, .int r.b r.u]) ∈ eds.map Pq.o2 ++ R := List.mem_append_right _ (mr _ (List.mem_of_getElem? hr1))
    have hT1 := hT.mono (news' := eds.map Pq.o2 ++ R) fun q hq => List.mem_append_right _ hq
    have hR : ∃ R1, R1 = eds.map Pq.o2 ++ R := ⟨_, rfl⟩
    obtain ⟨R1, hR⟩ := hR
    rw [← hR] at N2 off mk hT1
    clear hT mr
    dsimp only at hx
    k_steps
    show CompEnd _ _ _ _ _ _ _ _ _ _ _ _ _ _
    refine ed_end (by k_asm) (by k_asm) hR off (And.left (by assumption)) (And.left (And.right (by assumption))) (And.left (And.right (And.right (by assumption)))) ?_ ?_
    · exact mem3 (by assumption)
    · exact WInv.snoc hel he hlt hr1 hq1 rfl rfl (And.left (And.right (And.right (And.right (And.right (And.right (by assumption)))))))
  case fin2 =>
    subst e1 e2 e3 eR
    intro ys' nw hInv
    obtain ⟨eds, hel, he, hlt⟩ := hInv
    intro D2 h2 tk2 F2 N2 off2
    dsimp only at hlt
    rw [homeXs_len hql, hrs] at hel
    obtain ⟨e0, e1, e2, e3, e4, e5, x0, x1, x2, x3, x4, x5, t0, t1, t2, t3, t4, t5, hv, m0, m1, m2, m3, m4, m5, hE0⟩ := parts_of hrs (hql.trans hrs) hel he hq hab mr
    have hsub : ∀ q ∈ R, q ∈ eds.map Pq.o2 ++ R := fun q hq => List.mem_append_right _ hq
    rw [hv] at N2
    have hoff := off_d3 (by assumption) hlt
    have mA : ∀ q ∈ eds.map Pq.o2, q ∈ eds.map Pq.o2 ++ R := fun q hq => List.mem_append_left _ hq
    have mk0 := mA _ m0
    have mk1 := mA _ m1
    have mk2 := mA _ m2
    have mk3 := mA _ m3
    have mk4 := mA _ m4
    have mk5 := mA _ m5
    clear m0 m1 m2 m3 m4 m5 mA hv
    generalize eds.map Pq.o2 ++ R = R1 at hoff N2 off2 hsub mk0 mk1 mk2 mk3 mk4 mk5
    clear hT mr he hq hlt hel
    k_steps
    k_dflt (refine dict_pairs_I (kvs := [(11, .ref x0), (12, .ref x1), (21, .ref x2), (22, .ref x3), (31, .ref x4), (32, .ref x5)]) (by exact rfl) (by k_asm) N2 (.head _) (Top.nolimit (by k_asm)) rfl (Nat.le_of_ble_eq_true rfl) (by show ([11, 12, 21, 22, 31, 32] : List Int).Nodup; decide) ?pr ?_)
    case pr => exact prs6 (.tail _ (.tail _ (.tail _ (.tail _ mk0)))) (.tail _ (.tail _ (.tail _ (.tail _ mk1)))) (.tail _ (.tail _ (.tail _ (.tail _ mk2)))) (.tail _ (.tail _ (.tail _ (.tail _ mk3)))) (.tail _ (.tail _ (.tail _ (.tail _ mk4)))) (.tail _ (.tail _ (.tail _ (.tail _ mk5))))
    intro d od h3 tk3 F3 N3 l3 hI
    replace N3 := cb_drop N3 (swd (R := R1))
    have hI' := hI ((d, od) :: R1) (.head _)
    have hE : EndsOk w ((d, od) :: R1) d := ⟨_, hI', fun g => (hE0 g).imp id fun ⟨r, q, e, t, u, a, b, c⟩ => ⟨r, q, e, t, u, a, b, .tail _ (hsub _ c)⟩⟩
    have hAd := allLt_of l3
    dsimp only [AllLt] at hAd
    clear hI l3 off2 N2 mk0 mk1 mk2 mk3 mk4 mk5 hE0
    k_steps
    have sw : ∀ {x : Addr × Obj} {l : List (Addr × Obj)}, ∀ q ∈ l, q ∈ x :: l := fun q hq => .tail _ hq
    refine hret _ d _ _ _ (by k_asm) (cb_drop (by k_asm) sw) (fun q hq => .tail _ (.tail _ (.tail _ (hsub q hq)))) ⟨_, _, _, _, _, _, _, _, _, _, _, _, _, _, _, _, _, _, _, _, .head _, .tail _ (.head _)⟩ (hE.mono fun q hq => .tail _ (.tail _ hq))
end
end
-- part SB
section
open PySem PySem.W PySem.Spec PySem.Calls PyProof.Rows PySem.SeqAt
set_option linter.all false
set_option maxRecDepth 100000
set_option maxHeartbeats 2000000
open PyProof.Rows.LCg PyProof.Rows.LCt
set_option genSizeOf false in
set_option genInjectivity false in
structure Rt where
  e : Addr
  n : Int
  k : Tok
  x : Addr
noncomputable def Rt.v (q : Rt) : Value := .ref q.e
noncomputable def Rt.o (q : Rt) : Addr × Obj := (q.e, tupO [.int q.n q.k, .ref q.x])
noncomputable def TabIs (tab : Obj) (i : Nat) (M : List (Addr × Obj)) : Prop :=
  (i = 0 → tab = tabObj #[]) ∧ (i ≠ 0 → ∃ c1 oc1 vs1 tq, tab = tabObj #[rawInt 143, rawInt 18, .ref c1] ∧ (c1, oc1) ∈ M ∧ oc1.data = .fields vs1 ∧ vs1[1]? = some (.str lamQ tq))
theorem rt_end {h₀ : Heap} {L I C Dn e x : Addr} {m : Str → Option Value} {s₁ : Shared} {oI oC oD tab tab1 : Obj} {S : List (Addr × Obj) → Prop} {Rr : Value → List (Addr × Obj) → Prop} {h' : Heap} {tk : Nat} {M tl : List (Addr × Obj)} {n : Int} {k : Tok}
    (F : Fr h₀ L h' m) (N : News h₀ L h' ((e, tupO [.int n k, .ref x]) :: (tl ++ (194, tab1) :: (I, oI) :: (C, oC) :: (Dn, oD) :: M))) (off : Off3 I C Dn ((194, tab) :: M))
    (hlt : ∀ q ∈ tl, ∀ r ∈ (I, oI) :: (C, oC) :: (Dn, oD) :: M, r.1 < q.1) (l1 : ∀ p ∈ tl ++ (194, tab1) :: (I, oI) :: (C, oC) :: (Dn, oD) :: M, p.1 < e)
    (hS : S ((194, tab1) :: (e, tupO [.int n k, .ref x]) :: (tl ++ M))) (r : Rr (.ref e) ((194, tab1) :: (e, tupO [.int n k, .ref x]) :: (tl ++ M))) :
    CompEnd h₀ L m s₁ I oI C oC Dn oD S Rr (.ref e) { s₁ with heap := h', toks := tk } := by
  have om := off.mem
  have eI := l1 (I, oI) (List.mem_append_right _ (.tail _ (.head _)))
  have eC := l1 (C, oC) (List.mem_append_right _ (.tail _ (.tail _ (.head _))))
  have eD := l1 (Dn, oD) (List.mem_append_right _ (.tail _ (.tail _ (.tail _ (.head _)))))
  refine CompEnd.intro F N _ (fun q hq => ?_) ?_ hS r
  · have h : ∀ q ∈ [(I, oI), (C, oC), (Dn, oD)] ++ (194, tab1) :: (e, tupO [.int n k, .ref x]) :: (tl ++ M), q ∈ (e, tupO [.int n k, .ref x]) :: (tl ++ (194, tab1) :: ([(I, oI), (C, oC), (Dn, oD)] ++ M)) :=
      sub_two (sub_sk (sub_r (sub_sk (sub_l sub_id)))) (sub_cons (.tail _ (List.mem_append_right _ (.head _))) (sub_cons (.head _) (sub_sk (sub_two (sub_l sub_id) (sub_r (sub_sk (sub_r sub_id)))))))
    exact h q hq
  · refine Off3.of fun q hq => ?_
    rcases List.mem_cons.mp hq with h | hq
    · rw [h]; exact om (194, tab) (.head _)
    rcases List.mem_cons.mp hq with h | hq
    · rw [h]; exact ⟨Nat.ne_of_gt eI, Nat.ne_of_gt eC, Nat.ne_of_gt eD⟩
    rcases List.mem_append.mp hq with h | h
    · exact ⟨Nat.ne_of_gt (hlt q h _ (.head _)), Nat.ne_of_gt (hlt q h _ (.tail _ (.head _))), Nat.ne_of_gt (hlt q h _ (.tail _ (.tail _ (.head _))))⟩
    · exact om q (.tail _ h)
inductive RInv (w : World) (p : Program) (loose : List Str) (mean : ExcName → Option Value) (mg mb : Str → Option Value) (p1 p2 p3 : Addr) (rest : List (Addr × Obj)) (i : Nat) : List Value → List (Addr × Obj) → Prop
  | mk (xs : List Rt) (tab : Obj) (M : List (Addr × Obj)) (hxl : xs.length = i) (hsub : ∀ q ∈ rest, q ∈ M) (hM : ∀ q ∈ M, q.1 ≠ 194)
    (hxs : ∀ (j : Nat) (x : Rt), xs[j]? = some x → x.n = (j : Int) + 1 ∧ x.o ∈ M ∧ RouterAt w p loose mean mg mb M x.x ([p1, p2, p3].getD j 0)) (htab : TabIs tab i M) : RInv w p loose mean mg mb p1 p2 p3 rest i (xs.map Rt.v) ((194, tab) :: M)
inductive RParts (w : World) (p : Program) (loose : List Str) (mean : ExcName → Option Value) (mg mb : Str → Option Value) (p1 p2 p3 : Addr) (xs : List Rt) (tab : Obj) (M : List (Addr × Obj)) : Prop
  | mk (ae be ce ax bx cx : Addr) (ak bk ck : Tok) (hv : xs.map Rt.v = [.ref ae, .ref be, .ref ce]) (ma : (ae, tupO [.int 1 ak, .ref ax]) ∈ M) (mb' : (be, tupO [.int 2 bk, .ref bx]) ∈ M) (mc : (ce, tupO [.int 3 ck, .ref cx]) ∈ M)
    (ra : RouterAt w p loose mean mg mb M ax p1) (rb : RouterAt w p loose mean mg mb M bx p2) (rc : RouterAt w p loose mean mg mb M cx p3) (hps : ∃ ps, tab = tabObj ps) : RParts w p loose mean mg mb p1 p2 p3 xs tab M
theorem rparts_of {w : World} {p : Program} {loose : List Str} {mean : ExcName → Option Value} {mg mb : Str → Option Value} {p1 p2 p3 : Addr} {xs : List Rt} {tab : Obj} {M : List (Addr × Obj)} (hxl : xs.length = 3)
    (hxs : ∀ (j : Nat) (x : Rt), xs[j]? = some x → x.n = (j : Int) + 1 ∧ x.o ∈ M ∧ RouterAt w p loose mean mg mb M x.x ([p1, p2, p3].getD j 0)) (htab : TabIs tab 3 M) : RParts w p loose mean mg mb p1 p2 p3 xs tab M := by
  obtain ⟨a, b, c, rfl⟩ := three hxl
  obtain ⟨na, ma, ra⟩ := hxs 0 a rfl
  obtain ⟨nb, mb', rb⟩ := hxs 1 b rfl
  obtain ⟨nc, mc, rc⟩ := hxs 2 c rfl
  rw [Rt.o, na] at ma
  rw [Rt.o, nb] at mb'
  rw [Rt.o, nc] at mc
  exact ⟨a.e, b.e, c.e, a.x, b.x, c.x, a.k, b.k, c.k, rfl, ma, mb', mc, ra, rb, rc, (htab.2 (Nat.succ_ne_zero 2)).elim fun _ z => z.elim fun _ z => z.elim fun _ z => z.elim fun _ z => ⟨_, z.1⟩⟩
theorem key3 {p1 p2 p3 : Addr} {j : Nat} {k : Int} {x0 : Value} (hj : j < 3) (h : [((1 : Int), Value.ref p1), (2, .ref p2), (3, .ref p3)][j]? = some (k, x0)) : k = (j : Int) + 1 ∧ x0 = .ref ([p1, p2, p3].getD j 0) ∧ valueAt [((1 : Int), Value.ref p1), (2, .ref p2), (3, .ref p3)] ((j : Int) + 1) = some (.ref ([p1, p2, p3].getD j 0)) := by
  match j, hj, h with
  | 0, _, h => cases h; exact ⟨rfl, rfl, rfl⟩
  | 1, _, h => cases h; exact ⟨rfl, rfl, rfl⟩
  | 2, _, h => cases h; exact ⟨rfl, rfl, rfl⟩
theorem off194 {i c d : Addr × Obj} {M : List (Addr × Obj)} (h : i.1 ≠ 194 ∧ c.1 ≠ 194 ∧ d.1 ≠ 194) (hM : ∀ q ∈ M, q.1 ≠ 194) : ∀ q ∈ i :: c :: d :: M, q.1 ≠ 194 :=
  List.forall_mem_cons.mpr ⟨h.1, List.forall_mem_cons.mpr ⟨h.2.1, List.forall_mem_cons.mpr ⟨h.2.2, hM⟩⟩⟩
theorem rt_inv {w : World} {p : Program} {loose : List Str} {mean : ExcName → Option Value} {mg mb : Str → Option Value} {tab1 oI oC oD : Obj} {I C Dn e x pj p1 p2 p3 : Addr} {tl M rest : List (Addr × Obj)} {xs : List Rt} {j : Nat} {k : Tok}
    (hxl : xs.length = j) (hsub : ∀ q ∈ rest, q ∈ M) (hM : ∀ q ∈ M, q.1 ≠ 194) (hxs : ∀ (j : Nat) (x : Rt), xs[j]? = some x → x.n = (j : Int) + 1 ∧ x.o ∈ M ∧ RouterAt w p loose mean mg mb M x.x ([p1, p2, p3].getD j 0)) (hpj : [p1, p2, p3].getD j 0 = pj)
    (h194 : ∀ q ∈ tl, @LT.lt Nat _ 194 q.1) (l1 : ∀ q ∈ tl ++ (194, tab1) :: (I, oI) :: (C, oC) :: (Dn, oD) :: M, q.1 < e)
    (hR : RouterAt w p loose mean mg mb ((e, tupO [.int ((j : Int) + 1) k, .ref x]) :: (tl ++ M)) x pj) (hT : TabIs tab1 (j + 1) ((e, tupO [.int ((j : Int) + 1) k, .ref x]) :: (tl ++ M))) :
    RInv w p loose mean mg mb p1 p2 p3 rest (j + 1) (xs.map Rt.v ++ [.ref e]) ((194, tab1) :: (e, tupO [.int ((j : Int) + 1) k, .ref x]) :: (tl ++ M)) := by
  have sM : ∀ q ∈ M, q ∈ (e, tupO [.int ((j : Int) + 1) k, .ref x]) :: (tl ++ M) := fun q hq => .tail _ (List.mem_append_right _ hq)
  show RInv _ _ _ _ _ _ _ _ _ _ _ (xs.map Rt.v ++ [Rt.v (Rt.mk e ((j : Int) + 1) k x)]) _
  rw [map_snoc]
  refine RInv.mk _ _ _ (len_snoc hxl) (fun q hq => sM q (hsub q hq)) (fun q hq => ?_) (snoc_all (fun i y hy => (hxs i y hy).imp id fun z => z.imp (sM _) fun z => RouterAt.mono z sM) ⟨by rw [hxl], .head _, ?_⟩) hT
  · rcases List.mem_cons.mp hq with h | hq
    · rw [h]; exact Nat.ne_of_gt (l1 (194, tab1) (List.mem_append_right _ (.head _)))
    · rcases List.mem_append.mp hq with hq | hq
      · exact Nat.ne_of_gt (h194 q hq)
      · exact hM q hq
  · rw [hxl, hpj]; exact hR
section
variable {prog : Program} {w : World} {A : Around} {E : Value → Shared → Prop} {s : Shared} {h₀ : Heap} {L : Addr} {m : Str → Option Value}
theorem src_keys' {d : Addr} {kvs : List (Int × Value)} {news R1 : List (Addr × Obj)} {R : Shared → (List (Addr × Obj) → Prop) → (Nat → Value → Prop) → Nat → List (Addr × Obj) → Prop} (hh : A.handled = none) (F : Fr h₀ L s.heap m) (N : News h₀ L s.heap news)
    (hI : IDict prog w R1 d kvs) (hs : ∀ q ∈ R1, q ∈ news) (hn : kvs.length ≤ sizeLine)
    (r : ∀ h od, (d, od) ∈ R1 → R { s with heap := h } (fun nw => (d, od) ∈ nw) (fun i v => ∃ k x, kvs[i]? = some (k, x) ∧ (intKind prog w).is k v = true) kvs.length news) :
    wpAny (model prog w) A (pyIter (.ref d)) (SrcW prog w A h₀ L m R) E s :=
  src_keys hh F N (hI.mono hs) hn fun h od hm => by
    obtain ⟨_, o2, hm2, _⟩ := hI
    have h1 := (N _ hm).1
    have h2 := (N _ (hs _ hm2)).1
    rw [h1] at h2
    injection h2 with h2
    have h3 : od = o2 := h2
    exact r h od (h3 ▸ hm2)
end
section
theorem st_world {w : World} {oc dV kV doc pm cdv ct : Value} {an od : Option Addr} {osl : Array (Option Value)} {name qual : Str} {params : Arguments} {body : List Stmt} {scope : Scope} {st : Stmt}
  {p : Program} {loose : List Str} {mean : ExcName → Option Value} {mg mb : Str → Option Value} {base h₀ : Heap} {L : Addr} {m : Str → Option Value} {s : Shared} {cd : Value} {fa : Addr} {rest : List (Addr × Obj)}
  {n hD aD p1 p2 p3 : Addr} {rs : List Pd} {qs : List Pq} {o4 : Obj}
  {Q : Flow → Shared → Prop} {E : Value → Shared → Prop}
  (B : Below callerA base [] h₀) (X : (hd.heap_39 w.params).In h₀) (T : Top p loose mean mg mb h₀) (hC : CodeHd base 198 194)
  (F : Fr h₀ L s.heap m)
  (N : News h₀ L s.heap ((194, tabObj #[]) :: (L + 1 + 1 + 1 + 1, o4) :: rest)) (hr : ∀ q ∈ (L + 1 + 1 + 1 + 1, o4) :: rest, q.1 ≠ 194)
  (hst : body[9]? = some st) (hm1 : m (Str.ofString "net") = some (.ref n)) (hm2 : m (Str.ofString "addresses") = some (.ref aD))
  (d4 : o4.data = .cell (some (.ref hD))) (hH : IDict PySem.Challenge.rw_rh0207_01.row.prog w rest hD [(1, .ref p1), (2, .ref p2), (3, .ref p3)])
  (hT : TDict PySem.Challenge.rw_rh0207_01.row.prog w rest aD (homeXs rs qs)) (mr : ∀ r ∈ rs, r.o ∈ rest) (hab : rs.map Pd.ab = ab6) (hrs : rs.length = 6) (hql : qs.length = rs.length) (hsz : (homeXs rs qs).length ≤ sizeLine)
  (hq : ∀ (j : Nat) (q : Pq) (r : Pd), qs[j]? = some q → rs[j]? = some r → q.d = 10 * r.a + r.b)
  (hret : ∀ (wd rd ed x1 x2 x3 : Addr) (rest' : List (Addr × Obj)) (h' : Heap) (tk' : Nat), Fr h₀ L h' (fun z => if z = (Str.ofString "world") then some (.ref wd) else m z) →
    News h₀ L h' rest' → (∀ q ∈ (L + 1 + 1 + 1 + 1, o4) :: rest, q ∈ rest') → WorldAt rest' wd n rd ed → EndsOk w rest' ed →
    IDict PySem.Challenge.rw_rh0207_01.row.prog w rest' rd [(1, .ref x1), (2, .ref x2), (3, .ref x3)] → RouterAt w p loose mean mg mb rest' x1 p1 → RouterAt w p loose mean mg mb rest' x2 p2 → RouterAt w p loose mean mg mb rest' x3 p3 → (∃ ps, (194, tabObj ps) ∈ rest') → Q .next { s with heap := h', toks := tk' }) :
  (hd.heap_39 w.params).lookup 204 = some ⟨oc, od, .func (fnOf name qual params body scope dV kV doc pm an cdv ct), osl⟩ →
  wpAny (model PySem.Challenge.rw_rh0207_01.row.prog w) (callerA.deeper (envOfC qual scope L fa cd)) (exec st (envOfC qual scope L fa cd)) Q E s := by
  w_top off
  k_with_none
  k_with "ne" => first | assumption | (refine neN ?_; (try dsimp only); first | assumption | exact Nat.ne_of_lt (lt_mem (by assumption) (by k_mem)) | exact Nat.ne_of_gt (lt_mem (by assumption) (by k_mem)) | exact Nat.ne_of_gt (lt_mem2 (by assumption) (by assumption) (by k_mem)) | exact And.left (by assumption) | exact Ne.symm (And.left (by assumption)) | exact And.left (And.right (by assumption)) | exact Ne.symm (And.left (And.right (by assumption))) | exact And.left (And.right (And.right (by assumption))) | exact Ne.symm (And.left (And.right (And.right (by assumption)))) | exact And.left (And.right (And.right (And.right (by assumption)))) | exact Ne.symm (And.left (And.right (And.right (And.right (by assumption))))) | exact And.left (And.right (And.right (And.right (And.right (by assumption))))) | exact Ne.symm (And.left (And.right (And.right (And.right (And.right (by assumption)))))) | exact Ne.symm (And.left (And.right (And.right (And.right (And.right (And.right (by assumption)))))))  | exact Ne.symm (And.left (And.right (And.right (And.right (And.right (And.right (And.right (by assumption)))))))) | omega)
  k_with "all" => first | assumption | exact List.forall_mem_nil _ | (refine' List.forall_mem_cons.mpr ⟨?a, ?b⟩; (case a => k_ne); (case b => k_all)) | exact lt_ne (by assumption) | exact lt_ne_succ (by assumption) | exact fun p hp => Nat.ne_of_lt (lt_at (by assumption) (by k_mem))
  k_with "mem" => first | assumption | exact List.Mem.head _ | (refine' List.Mem.tail _ ?_; k_mem)
  k_with "room" => first | exact lim2 (by assumption) (Nat.le_of_ble_eq_true rfl) | exact lim1 (by assumption) (Nat.le_of_ble_eq_true rfl) | exact lim0 (by assumption)
  k_with "eval ListComp" => (k_here; k_dflt (refine comp_U (by k_asm) (by with_unfolding_all rfl) (by decide) (by rfl) (by decide) (by rfl) ?_))
  k_with "pyIter ref" => (k_here; (with_reducible show wpAny _ _ (pyIter (Value.ref _)) (SrcW _ _ _ _ _ _ _) _ _); k_dflt (refine src_keys' (by exact rfl) (by k_asm) (by k_asm) (by with_reducible assumption) (by intro q9' hq9'; repeat (first | with_reducible exact hq9' | refine List.mem_cons_of_mem _ ?_)) (Nat.le_of_ble_eq_true rfl) (fun h9 od9 hm9 => held ?_)))
  k_with "eval Name" => (k_here; (with_reducible show wpAny _ _ (eval (Expr.Name _ _) (envOfC _ _ _ _ _)) _ _ _); k_dflt (refine ldV (by rfl) (by rfl) (Fr.ns (by k_asm)) (by with_reducible assumption) (by decide) ?_))
  k_with "subscriptTail Name Name ref int" => (k_here; k_dflt (refine item_I' (by k_asm) ⟨_, by with_reducible assumption, by intro q9' hq9'; repeat (first | with_reducible exact hq9' | refine List.mem_cons_of_mem _ ?_)⟩ (by assumption) ?_); (try dsimp only))
  k_with "call ref" => (k_here; (with_reducible show wpAny _ _ (call (Value.ref 199) [Value.ref _]) _ _ _); k_dflt (first
    | (refine' router_A ?B ?F ?T ?N ?hr ?hC ?hd ?hu ?_ ?X; (case B => k_asm); (case F => k_asm); (case T => k_asm); (case N => k_asm); (case hr => with_reducible assumption); (case hC => assumption); (case hd => ktr_room); (case hu => ktr_units); (case X => k_asm); k_whole; intro x9' tl9' c9' oc9' vs9' t9' h9' tk9' F' N' hRt' hc9' hd9' hv9' hz9'; (have hlt9' := hz9'.1); (have h194' := hz9'.2))
    | (refine' router_B ?B ?F ?T ?N ?hc ?ho ?hv ?hr ?hC ?hd ?hu ?_ ?X; (case B => k_asm); (case F => k_asm); (case T => k_asm); (case N => k_asm); (case hc => with_reducible assumption); (case ho => with_reducible assumption); (case hv => with_reducible assumption); (case hr => with_reducible assumption); (case hC => assumption); (case hd => ktr_room); (case hu => ktr_units); (case X => k_asm); k_whole; intro x9' tl9' h9' tk9' F' N' hRt' hz9'; (have hlt9' := hz9'.1); (have h194' := hz9'.2))))
  k_with "call ref" => (k_here; (with_reducible show wpAny _ _ (call (Value.ref 97) [Value.ref _, Value.ref _, Value.ref _, Value.int _ _]) _ _ _); k_dflt (refine' world_ct ?B ?F ?T ?N ?hT ?mr ?hab ?hrs ?hql ?hsz ?hq ?hd ?hu ?_ ?X; (case B => k_asm); (case F => k_asm); (case T => k_asm); (case N => k_asm); (case hT => with_reducible assumption); (case mr => with_reducible assumption); (case hab => assumption); (case hrs => assumption); (case hql => assumption); (case hsz => assumption); (case hq => assumption); (case hd => ktr_room); (case hu => ktr_units); (case X => k_asm); k_whole); intro wd9' ed9' R9' h9' tk9' F' N' hs9' hW9' hE9')
  k_fill
  intro ho
  have e9 := fn_is (by k_is) ho
  clear ho
  cases e9
  cases Option.some.inj hst
  clear hst
  k_steps
  unfold Held
  refine rest_ind (Inv := RInv w p loose mean mg mb p1 p2 p3 ((L + 1 + 1 + 1 + 1, o4) :: rest)) _ ?turn2 ?fin2 _ 0 _ _ (Nat.zero_add _) (RInv.mk [] _ _ rfl (fun q hq => hq) hr (fun j x h => nomatch h) ⟨fun _ => rfl, fun h => absurd rfl h⟩)
  case turn2 =>
    intro j ys nw hj hInv
    cases hInv with | mk xs tab M hxl hsub hM hxs htab => ?_
    intro v I' oI' C' oC' D' m2 h2 tk2 E2 hP hC' hx F2 N2 off ne
    obtain ⟨k, x0, hk1, hk2⟩ := hP
    obtain ⟨ek, ex, hval⟩ := key3 hj hk1
    subst ek ex
    obtain ⟨tk9, rfl⟩ := Value.isInt_shape hk2
    have o194 := off.mem (194, tab) (.head _)
    have hr9 := off194 (i := (I', oI')) (c := (C', oC')) (d := (D', lst (xs.map Rt.v))) ⟨Ne.symm o194.1, Ne.symm o194.2.1, Ne.symm o194.2.2⟩ hM
    have N3 : News h₀ L h2 ((194, tab) :: (I', oI') :: (C', oC') :: (D', lst (xs.map Rt.v)) :: M) := cb_drop N2 (fun q hq => mem_swap (A := [(194, tab)]) (B := [(I', oI'), (C', oC'), (D', lst (xs.map Rt.v))]) hq)
    have hHM := hH.mono fun q hq => hsub q (.tail _ hq)
    have m4 := hsub _ (.head _)
    generalize hpj : [p1, p2, p3].getD j 0 = pj at hval
    clear N2 hT mr hq hH
    rcases Nat.eq_zero_or_pos j with hj0 | hj0
    · have ht := htab.1 hj0
      subst ht
      k_steps
      refine rt_end (by k_asm) (by k_asm) off (by assumption) (by assumption) (.tail _ (.tail _ (List.mem_append_right _ (hsub _ (.tail _ hm9))))) ?_
      have hRt := (by assumption : ∀ (nw : List (Addr × Obj)), (∀ q ∈ _, q ∈ nw) → RouterAt w p loose mean mg mb nw _ pj)
      refine rt_inv hxl hsub hM hxs hpj (by assumption) (by assumption) (hRt _ fun q hq => .tail _ (List.mem_append_left _ hq)) ?_
      exact ⟨fun h => absurd h (Nat.succ_ne_zero _), fun _ => ⟨_, _, _, _, rfl, .tail _ (List.mem_append_left _ (by assumption)), by assumption, by assumption⟩⟩
    · obtain ⟨c1, oc1, vs1, tq, ht, hc1, ho1, hv1⟩ := htab.2 (Nat.ne_of_gt hj0)
      subst ht
      have hc1' : (c1, oc1) ∈ (I', oI') :: (C', oC') :: (D', lst (xs.map Rt.v)) :: M := .tail _ (.tail _ (.tail _ hc1))
      k_steps
      refine rt_end (by k_asm) (by k_asm) off (by assumption) (by assumption) (.tail _ (.tail _ (List.mem_append_right _ (hsub _ (.tail _ hm9))))) ?_
      have hRt := (by assumption : ∀ (nw : List (Addr × Obj)), (∀ q ∈ _, q ∈ nw) → (c1, oc1) ∈ nw → RouterAt w p loose mean mg mb nw _ pj)
      refine rt_inv hxl hsub hM hxs hpj (by assumption) (by assumption) (hRt _ (fun q hq => .tail _ (List.mem_append_left _ hq)) (.tail _ (List.mem_append_right _ hc1))) ?_
      exact ⟨fun h => absurd h (Nat.succ_ne_zero _), fun _ => ⟨_, _, _, _, rfl, .tail _ (List.mem_append_right _ hc1), ho1, hv1⟩⟩
  case fin2 =>
    intro ys nw hInv
    cases hInv with | mk xs tab M hxl hsub hM hxs htab => ?_
    intro D2 h2 tk2 F2 N2 off2
    obtain ⟨ae, be, ce, ax, bx, cx, ak, bk, ck, hv, ma, mb', mc, ra, rb, rc, hps⟩ := rparts_of hxl hxs htab
    rw [hv] at N2
    have hTM := hT.mono fun q hq => hsub q (.tail _ hq)
    have mrM : ∀ r ∈ rs, r.o ∈ M := fun r hr' => hsub _ (.tail _ (mr r hr'))
    clear hT mr hH htab hxs hM
    k_steps
    k_dflt (refine dict_pairs_I (kvs := [(1, .ref ax), (2, .ref bx), (3, .ref cx)]) (by exact rfl) (by k_asm) N2 (.head _) (Top.nolimit T) rfl (Nat.le_of_ble_eq_true rfl) (by show ([1, 2, 3] : List Int).Nodup; decide) ?pr ?_)
    case pr => exact prs3 (.tail _ (.tail _ ma)) (.tail _ (.tail _ mb')) (.tail _ (.tail _ mc))
    intro d od h3 tk3 F3 N3 l3 hI
    have hI' := hI _ (List.mem_cons_self (a := (d, od)) (l := (D2, lst [Value.ref ae, .ref be, .ref ce]) :: (194, tab) :: M))
    have s9 : ∀ q ∈ M, q ∈ (d, od) :: (D2, lst [.ref ae, .ref be, .ref ce]) :: (194, tab) :: M := fun q hq => .tail _ (.tail _ (.tail _ hq))
    have g9 : ∃ ps, (194, tabObj ps) ∈ (d, od) :: (D2, lst [.ref ae, .ref be, .ref ce]) :: (194, tab) :: M := hps.elim fun ps z => ⟨ps, by rw [← z]; exact .tail _ (.tail _ (.head _))⟩
    clear hI l3 off2 N2 hps
    generalize (d, od) :: (D2, lst [.ref ae, .ref be, .ref ce]) :: (194, tab) :: M = R9 at N3 hI' s9 g9
    have hT9 := hTM.mono s9
    have mr9 : ∀ r ∈ rs, r.o ∈ R9 := fun r hr' => s9 _ (mrM r hr')
    clear hTM mrM
    k_steps
    refine hret _ d _ ax bx cx _ _ _ (by k_asm) (by k_asm) ?s9 (by assumption) (by assumption) ?i9 ?r1 ?r2 ?r3 ?g9
    case s9 => exact fun q hq => (by assumption : ∀ q ∈ R9, q ∈ _) q (s9 q (hsub q hq))
    case g9 => exact g9.elim fun ps z => ⟨ps, (by assumption : ∀ q ∈ R9, q ∈ _) _ z⟩
    case i9 => exact hI'.mono (by assumption)
    case r1 => exact RouterAt.mono (RouterAt.mono ra s9) (by assumption)
    case r2 => exact RouterAt.mono (RouterAt.mono rb s9) (by assumption)
    case r3 => exact RouterAt.mono (RouterAt.mono rc s9) (by assumption)
end
end
-- part SC
section
open PySem PySem.W PySem.Spec PySem.Calls PyProof.Rows PySem.SeqAt
set_option linter.all false
set_option maxRecDepth 100000
set_option maxHeartbeats 2000000
open PyProof.Rows.LCg PyProof.Rows.LCt
noncomputable def forBody : Option Stmt → List Stmt
  | some (.For _ _ b _ _) => b
  | _ => []
theorem in_T1 {prog : Program} {w : World} {A : Around} {E : Value → Shared → Prop} {s : Shared} {h₀ : Heap} {L : Addr} {news R : List (Addr × Obj)} {d a : Addr} {xs : List (List Int × Addr × Value)} {ks : List Int} {ok : Obj} {r : Option (Addr × Value)} {Q : Value → Shared → Prop} (N : News h₀ L s.heap news) (hT : TDict prog w R d xs) (hs : ∀ q ∈ R, q ∈ news) (hka : (a, ok) ∈ news) (hu : A.units + 1 < cLine) (tk : TupKeyObj (intKind prog w) ks ok)
    (hp : atKey xs ks = r) (h : ∀ tk', Q (.bool r.isSome) { s with toks := tk' }) : wpAny (model prog w) A (compareOp .In (.ref a) (.ref d)) Q E s := in_T hu N (hT.mono hs) hka tk (by rw [hp]; exact h)
section
theorem off_b {b : Bool} {p : Prop} (h : b = true) (e : b = false) : p := by rw [h] at e; cases e
theorem st_due {w : World} {oc dV kV doc pm cdv ct : Value} {an od : Option Addr} {osl : Array (Option Value)} {name qual : Str} {params : Arguments} {body : List Stmt} {scope : Scope} {st : Stmt}
  {p : Program} {loose : List Str} {mean : ExcName → Option Value} {mg mb : Str → Option Value} {base h₀ : Heap} {L : Addr} {m : Str → Option Value} {s : Shared} {cd : Value} {fa : Addr} {news : List (Addr × Obj)}
  {hD cD tT dT : Addr} {o3 : Obj} {nm g addr a b lk : Int} {tn tg ta tl tka tkb : Tok} {cv : List Value} {cns : List Int} {ho : Option Int} {xs : List (List Int × Addr × Value)} {nb : Option Int} {H : Prop}
  {Q : Flow → Shared → Prop} {E : Value → Shared → Prop}
  (B : Below callerA base [] h₀) (X : (hd.heap_39 w.params).In h₀) (T : Top p loose mean mg mb h₀)
  (F : Fr h₀ L s.heap m) (N : News h₀ L s.heap news)
  (hst : (forBody ((forBody body[10]?)[2]?))[3]? = some st)
  (mA : m (Str.ofString "address") = some (.int addr ta)) (mNm : m (Str.ofString "name") = some (.int nm tn)) (mG : m (Str.ofString "goal") = some (.int g tg)) (mTh : m (Str.ofString "there") = some (.ref tT)) (mL : m (Str.ofString "link") = some (.int lk tl)) (mC : m (Str.ofString "cuts") = some (.ref cD)) (mDu : m (Str.ofString "due") = some (.ref dT))
  (m3 : (L + 1 + 1 + 1, o3) ∈ news) (d3 : o3.data = .cell (some (.ref hD))) (mT : (tT, tupO [.int a tka, .int b tkb]) ∈ news) (mD0 : (dT, tupO []) ∈ news) (mcD : (cD, lst cv) ∈ news) (hcv : IntsAre cv cns) (hT : TDict PySem.Challenge.rw_rh0207_01.row.prog w news hD xs)
  (hAt : (ho = none ∧ atKey xs [a, b] = none) ∨ ∃ x e t, ho = some x ∧ atKey xs [a, b] = some (e, .int x t))
  (hp1 : H ↔ (Int.fdiv addr 10 = nm ∨ (g = 0 ∧ addr = 99))) (hp2 : nb = if (∃ x, ho = some x ∧ a ≠ nm ∧ x = lk ∧ 0 < lk ∧ lk ∉ cns) then some a else none)
  (hretH : ∀ t h' tk', H → Fr h₀ L h' (fun z => if z = Str.ofString "due" then some (.str (Str.ofString "here") t) else m z) → News h₀ L h' news → Q .next { s with heap := h', toks := tk' })
  (hretN : ∀ h' tk', ¬ H → nb = none → Fr h₀ L h' m → News h₀ L h' news → Q .next { s with heap := h', toks := tk' })
  (hretS : ∀ D t h' tk', ¬ H → nb = some a → Fr h₀ L h' (fun z => if z = Str.ofString "due" then some (.ref D) else m z) → News h₀ L h' ((D, tupO [.int a t]) :: news) → Q .next { s with heap := h', toks := tk' }) :
  (hd.heap_39 w.params).lookup 204 = some ⟨oc, od, .func (fnOf name qual params body scope dV kV doc pm an cdv ct), osl⟩ →
  wpAny (model PySem.Challenge.rw_rh0207_01.row.prog w) (callerA.deeper (envOfC qual scope L fa cd)) (exec st (envOfC qual scope L fa cd)) Q E s := by
  w_top off
  k_with_none
  k_with "ne" => first | assumption | (refine neN ?_; (try dsimp only); first | assumption | exact Nat.ne_of_lt (lt_mem (by assumption) (by k_mem)) | exact Nat.ne_of_gt (lt_mem (by assumption) (by k_mem)) | exact Nat.ne_of_gt (lt_mem2 (by assumption) (by assumption) (by k_mem)) | exact And.left (by assumption) | exact Ne.symm (And.left (by assumption)) | exact And.left (And.right (by assumption)) | exact Ne.symm (And.left (And.right (by assumption))) | exact And.left (And.right (And.right (by assumption))) | exact Ne.symm (And.left (And.right (And.right (by assumption)))) | exact And.left (And.right (And.right (And.right (by assumption)))) | exact Ne.symm (And.left (And.right (And.right (And.right (by assumption))))) | exact And.left (And.right (And.right (And.right (And.right (by assumption))))) | exact Ne.symm (And.left (And.right (And.right (And.right (And.right (by assumption)))))) | exact Ne.symm (And.left (And.right (And.right (And.right (And.right (And.right (by assumption)))))))  | exact Ne.symm (And.left (And.right (And.right (And.right (And.right (And.right (And.right (by assumption)))))))) | omega)
  k_with "all" => first | assumption | exact List.forall_mem_nil _ | (refine' List.forall_mem_cons.mpr ⟨?a, ?b⟩; (case a => k_ne); (case b => k_all)) | exact lt_ne (by assumption) | exact lt_ne_succ (by assumption) | exact fun p hp => Nat.ne_of_lt (lt_at (by assumption) (by k_mem))
  k_with "mem" => first | assumption | exact List.Mem.head _ | (refine' List.Mem.tail _ ?_; k_mem)
  k_with "room" => first | exact lim2 (by assumption) (Nat.le_of_ble_eq_true rfl) | exact lim1 (by assumption) (Nat.le_of_ble_eq_true rfl) | exact lim0 (by assumption)
  k_with "eval Name" => (k_here; (with_reducible show wpAny _ _ (eval (Expr.Name _ _) (envOfC _ _ _ _ _)) _ _ _); k_dflt (refine ldV (by rfl) (by rfl) (Fr.ns (by k_asm)) (by first | with_reducible assumption | exact up_self | exact up_ne (by decide) (by first | with_reducible assumption | exact up_self | exact up_ne (by decide) (by first | with_reducible assumption | exact up_self))) (by decide) ?_))
  k_with "compareOp In ref" => (k_here; k_dflt (refine in_T1 (by k_asm) (by with_reducible assumption) (fun _ h => h) (by with_reducible assumption) (by first | ktr_units | decide) pair_key (by with_reducible assumption) ?_); intro tk9'; (try dsimp only [Option.isSome]))
  k_with "subscriptTail Name Name ref ref" => (k_here; k_dflt (refine item_T (by first | ktr_units | decide) (by k_asm) (by with_reducible assumption) (by with_reducible assumption) pair_key (by with_reducible assumption) ?_); intro tk9')
  k_with "compareOp NotIn int ref" => (k_here; k_dflt (refine notin_ints (by k_asm) (by k_mem) (by assumption) ?_))
  k_with "isTrue BoolOp" => (k_here; (fail_if_success (rename Mark => z9)); refine held ?_)
  k_fill
  intro hL
  have e9 := fn_is (by k_is) hL
  clear hL
  cases e9
  cases Option.some.inj hst
  clear hst
  k_steps
  unfold Held
  refine cutB (P := fun b => b = true ↔ (Int.fdiv addr 10 = nm ∨ (g = 0 ∧ addr = 99))) ?h ?k
  case h =>
    intro Q9 E9 k9
    have mark9 := mark
    k_steps
    all_goals (first
      | exact k9 _ _ ⟨fun _ => .inl (by assumption), fun _ => rfl⟩
      | exact k9 _ _ ⟨fun _ => .inr ⟨by assumption, by assumption⟩, fun _ => rfl⟩
      | exact k9 _ _ ⟨fun f => (nomatch f), fun h => h.elim (fun z => absurd z (by assumption)) fun z => absurd z.1 (by assumption)⟩
      | exact k9 _ _ ⟨fun f => (nomatch f), fun h => h.elim (fun z => absurd z (by assumption)) fun z => absurd z.2 (by assumption)⟩)
  case k =>
    intro b9 tk9 hb9
    try dsimp only
    k_steps
    · exact hretH _ _ _ (hp1.mpr (hb9.mp (by assumption))) (by k_asm) (by k_asm)
    · have hnH : ¬ H := fun h => off_b (hb9.mpr (hp1.mp h)) (by assumption)
      unfold Held
      refine cutB (P := fun b => b = true ↔ ∃ x, ho = some x ∧ a ≠ nm ∧ x = lk ∧ 0 < lk ∧ lk ∉ cns) ?h ?k
      case h =>
        intro Q9 E9 k9
        have mark9 := mark
        rcases hAt with ⟨hn, hA⟩ | ⟨x, e, tx, hn, hA⟩
        · k_steps
          exact k9 _ _ ⟨fun f => (nomatch f), fun ⟨y, hy, _⟩ => nomatch hn.symm.trans hy⟩
        · k_steps
          all_goals (first
            | exact k9 _ _ ⟨fun _ => ⟨_, hn, by assumption, by assumption, by assumption, by assumption⟩, fun _ => rfl⟩
            | exact k9 _ _ ⟨fun _ => ⟨_, hn, by assumption, by assumption, by omega, by assumption⟩, fun _ => rfl⟩
            | (refine k9 _ _ ⟨fun f => (nomatch f), fun ⟨y, hy, y1, y2, y3, y4⟩ => ?_⟩; have hy2 := Option.some.inj (hn.symm.trans hy); first | exact absurd y1 (by assumption) | exact absurd y4 (by assumption) | exact absurd (hy2.trans y2) (by assumption) | contradiction | omega))
      case k =>
        intro b8 tk8 hb8
        try dsimp only
        k_steps
        · exact hretS _ _ _ _ hnH (hp2.trans (if_pos (hb8.mp (by assumption)))) (by k_asm) (by k_asm)
        · exact hretN _ _ hnH (hp2.trans (if_neg fun c => off_b (hb8.mpr c) (by assumption))) (by k_asm) (by k_asm)
end
end
-- part SD
section
open PySem PySem.W PySem.Spec PySem.Calls PyProof.Rows PySem.SeqAt
set_option linter.all false
set_option maxRecDepth 100000
set_option maxHeartbeats 2000000
open PyProof.Rows.LCg PyProof.Rows.LCt
section
variable {prog : Program} {w : World} {A : Around} {E : Value → Shared → Prop} {s : Shared} {h₀ : Heap} {L : Addr} {news : List (Addr × Obj)} {ps1 ps2 : List (Int × Int)} {cns : List Int} {nm i g addr : Int} {D D2 : Addr} {vs : List Value}
theorem fr_name {h : Heap} {m' : Str → Option Value} (F : Fr h₀ L h m') : ∃ m2, m2 = m' ∧ Fr h₀ L h m2 := ⟨m', rfl, F⟩
theorem two_tups {h : Heap} {d t : Addr} {o1 o2 : Obj} {nw : List (Addr × Obj)} (N : News h₀ L h ((d, o1) :: (t, o2) :: nw)) : ∃ d2 t2, d2 = d ∧ t2 = t ∧ News h₀ L h ((d2, o1) :: (t2, o2) :: nw) := ⟨_, _, rfl, rfl, N⟩
theorem ne_none {Q : Value → Shared → Prop} (N : News h₀ L s.heap news) (m1 : (D, tupO vs) ∈ news) (m2 : (D2, tupO []) ∈ news) (hu : A.units + 64 < cLine) (hb : NbIs ps1 ps2 cns nm i g addr vs) (hn : nbO ps1 ps2 cns nm i g addr = none)
    (h : Q (.bool false) s) : wpAny (model prog w) A (compareOp .NotEq (.ref D) (.ref D2)) Q E s := by
  rcases hb with ⟨_, rfl⟩ | ⟨r, t, e, _⟩
  · exact compareNe_layable (da := .tuple []) (db := .tuple []) (.tuple (N _ m1).1 rfl rfl .nil) (.tuple (N _ m2).1 rfl rfl .nil) rfl rfl hu h
  · rw [hn] at e; cases e
theorem ne_some {a : Int} {t : Tok} {Q : Value → Shared → Prop} (N : News h₀ L s.heap news) (m1 : (D, tupO vs) ∈ news) (m2 : (D2, tupO [.int a t]) ∈ news) (hu : A.units + 64 < cLine) (hb : NbIs ps1 ps2 cns nm i g addr vs) (hn : nbO ps1 ps2 cns nm i g addr = some a)
    (h : Q (.bool false) s) : wpAny (model prog w) A (compareOp .NotEq (.ref D) (.ref D2)) Q E s := by
  rcases hb with ⟨e, _⟩ | ⟨r, t', e, rfl⟩
  · rw [hn] at e; cases e
  · rw [hn] at e; cases e
    refine compareNe_reads (da := .tuple [.int a]) (db := .tuple [.int a]) (.tuple (N _ m1).1 rfl rfl (.cons (.int _ _) .nil)) (.tuple (N _ m2).1 rfl rfl (.cons (.int _ _) .nil)) (by simp [PyData.canLay0, PyData.canLayAll0]) (by simp [PyData.canLay0, PyData.canLayAll0]) ?_ ?_
    · simp [PyData.depth, PyData.depthAll]; omega
    have e9 : PyData.eqv (.tuple [.int a]) (.tuple [.int a]) = true := by simp [PyData.eqv, PyData.eqvAll]
    rw [e9]; exact h
end
section
theorem st_turn {w : World} {oc dV kV doc pm cdv ct : Value} {an od : Option Addr} {osl : Array (Option Value)} {name qual : Str} {params : Arguments} {body : List Stmt} {scope : Scope} {bd : List Stmt}
  {p : Program} {loose : List Str} {mean : ExcName → Option Value} {mg mb : Str → Option Value} {base h₀ : Heap} {L : Addr} {m : Str → Option Value} {s : Shared} {cd : Value} {fa : Addr} {news : List (Addr × Obj)}
  {hD cD wd n rd ed x hp : Addr} {o3 : Obj} {nm i g addr lk : Int} {tn tg ta tl ti tg2 : Tok} {cv : List Value} {cns : List Int} {xs : List (List Int × Addr × Value)} {kvs : List (Int × Value)} {ps1 ps2 : List (Int × Int)} {hO : Int → Int → Option Int}
  {Q : Flow → Shared → Prop} {E : Value → Shared → Prop}
  (B : Below callerA base [] h₀) (X : (hd.heap_39 w.params).In h₀) (T : Top p loose mean mg mb h₀)
  (F : Fr h₀ L s.heap m) (N : News h₀ L s.heap news)
  (hst : forBody ((forBody body[10]?)[2]?) = bd)
  (mA : m (Str.ofString "address") = some (.int addr ta)) (mNm : m (Str.ofString "name") = some (.int nm tn)) (mG : m (Str.ofString "goal") = some (.int g tg)) (mL : m (Str.ofString "link") = some (.int lk tl)) (mC : m (Str.ofString "cuts") = some (.ref cD)) (mW : m (Str.ofString "world") = some (.ref wd))
  (m3 : (L + 1 + 1 + 1, o3) ∈ news) (d3 : o3.data = .cell (some (.ref hD))) (mcD : (cD, lst cv) ∈ news) (hcv : IntsAre cv cns) (hT : TDict PySem.Challenge.rw_rh0207_01.row.prog w news hD xs)
  (hW : WorldAt news wd n rd ed) (hN : NetOk w news n ps1 ps2 cns) (hE : EndsOk w news ed) (hI : IDict PySem.Challenge.rw_rh0207_01.row.prog w news rd kvs) (hv : valueAt kvs nm = some (.ref x)) (hR : RouterAt w p loose mean mg mb news x hp) (hh : (hp, tupO [.int i ti, .int g tg2]) ∈ news)
  (ha0 : 0 ≤ addr) (ha1 : addr < 256)
  (hAt : ∀ a b, (hO a b = none ∧ atKey xs [a, b] = none) ∨ ∃ x e t, hO a b = some x ∧ atKey xs [a, b] = some (e, .int x t))
  (hp1 : HereIf nm addr g ↔ (Int.fdiv addr 10 = nm ∨ (g = 0 ∧ addr = 99)))
  (hp2 : ∀ sp, sp = (if g = 0 then addr else g) → nbO ps1 ps2 cns nm i g addr = if (∃ x, hO (Int.fdiv sp 10) (Int.fmod sp 10) = some x ∧ Int.fdiv sp 10 ≠ nm ∧ x = lk ∧ 0 < lk ∧ lk ∉ cns) then some (Int.fdiv sp 10) else none)
  (hret : ∀ m' h' tk', (∀ z, z ≠ Str.ofString "spot" → z ≠ Str.ofString "there" → z ≠ Str.ofString "due" → m' z = m z) → Fr h₀ L h' m' → News h₀ L h' news → Q .next { s with heap := h', toks := tk' }) :
  (hd.heap_39 w.params).lookup 204 = some ⟨oc, od, .func (fnOf name qual params body scope dV kV doc pm an cdv ct), osl⟩ →
  wpAny (model PySem.Challenge.rw_rh0207_01.row.prog w) (callerA.deeper (envOfC qual scope L fa cd)) (execs bd (envOfC qual scope L fa cd)) Q E s := by
  w_top off
  k_with_none
  k_with "ne" => first | assumption | (refine neN ?_; (try dsimp only); first | assumption | exact Nat.ne_of_lt (lt_mem (by assumption) (by k_mem)) | exact Nat.ne_of_gt (lt_mem (by assumption) (by k_mem)) | exact Nat.ne_of_gt (lt_mem2 (by assumption) (by assumption) (by k_mem)) | exact And.left (by assumption) | exact Ne.symm (And.left (by assumption)) | exact And.left (And.right (by assumption)) | exact Ne.symm (And.left (And.right (by assumption))) | exact And.left (And.right (And.right (by assumption))) | exact Ne.symm (And.left (And.right (And.right (by assumption)))) | exact And.left (And.right (And.right (And.right (by assumption)))) | exact Ne.symm (And.left (And.right (And.right (And.right (by assumption))))) | exact And.left (And.right (And.right (And.right (And.right (by assumption))))) | exact Ne.symm (And.left (And.right (And.right (And.right (And.right (by assumption)))))) | exact Ne.symm (And.left (And.right (And.right (And.right (And.right (And.right (by assumption)))))))  | exact Ne.symm (And.left (And.right (And.right (And.right (And.right (And.right (And.right (by assumption)))))))) | omega)
  k_with "all" => first | assumption | exact List.forall_mem_nil _ | (refine' List.forall_mem_cons.mpr ⟨?a, ?b⟩; (case a => k_ne); (case b => k_all)) | exact lt_ne (by assumption) | exact lt_ne_succ (by assumption) | exact fun p hp => Nat.ne_of_lt (lt_at (by assumption) (by k_mem))
  k_with "mem" => first | assumption | exact List.Mem.head _ | (refine' List.Mem.tail _ ?_; k_mem)
  k_with "room" => first | exact lim2 (by assumption) (Nat.le_of_ble_eq_true rfl) | exact lim1 (by assumption) (Nat.le_of_ble_eq_true rfl) | exact lim0 (by assumption)
  k_with "eval Name" => (k_here; (with_reducible show wpAny _ _ (eval (Expr.Name _ _) (envOfC _ _ _ _ _)) _ _ _); k_dflt (refine ldV (by rfl) (by rfl) (Fr.ns (by k_asm)) (by first | with_reducible assumption | exact up_self | exact up_ne (by decide) (by first | with_reducible assumption | exact up_self | exact up_ne (by decide) (by first | with_reducible assumption | exact up_self | exact up_ne (by decide) (by first | with_reducible assumption | exact up_self | exact up_ne (by decide) (by first | with_reducible assumption | exact up_self | exact up_ne (by decide) (by first | with_reducible assumption | exact up_self | exact up_ne (by decide) (by first | with_reducible assumption | exact up_self | exact up_ne (by decide) (by first | with_reducible assumption | exact up_self)))))))) (by decide) ?_))
  k_with "exec If" => (k_here; (with_reducible show wpAny _ _ (exec (Stmt.If (Expr.BoolOp _ _ _) _ _ _) _) _ _ _); refine held ?_)
  k_with "compareOp NotEq ref ref" => (k_here; k_dflt (first | refine ne_none (by k_asm) (by k_mem) (by k_mem) (by first | ktr_units | decide) (by assumption) (by assumption) ?_ | refine ne_some (by k_asm) (by k_mem) (by k_mem) (by first | ktr_units | decide) (by assumption) (by assumption) ?_))
  k_with "call ref" => (k_here; (with_reducible show wpAny _ _ (call (Value.ref 94) [Value.ref _, Value.int _ _, Value.int _ _]) _ _ _); k_dflt (refine' next_of_ct ?B ?F ?T ?N ?hk ?hW ?hN ?hE ?hI ?hv ?hR ?hh ?h0 ?h1 ?hd ?hu ?_ ?_ ?X; (case B => k_asm); (case F => k_asm); (case T => k_asm); (case N => k_asm); (case hk => exact rfl); (case hW => refine WorldAt.mono (by with_reducible assumption) ?_; intro q9' hq9'; repeat (first | with_reducible exact hq9' | refine List.mem_cons_of_mem _ ?_)); (case hN => refine NetOk.mono (by with_reducible assumption) ?_; intro q9' hq9'; repeat (first | with_reducible exact hq9' | refine List.mem_cons_of_mem _ ?_)); (case hE => refine EndsOk.mono (by with_reducible assumption) ?_; intro q9' hq9'; repeat (first | with_reducible exact hq9' | refine List.mem_cons_of_mem _ ?_)); (case hI => refine IDict.mono (by with_reducible assumption) ?_; intro q9' hq9'; repeat (first | with_reducible exact hq9' | refine List.mem_cons_of_mem _ ?_)); (case hv => assumption); (case hR => refine RouterAt.mono (by with_reducible assumption) ?_; intro q9' hq9'; repeat (first | with_reducible exact hq9' | refine List.mem_cons_of_mem _ ?_)); (case hh => k_mem); (case h0 => assumption); (case h1 => assumption); (case hd => ktr_room); (case hu => ktr_units); (case X => k_asm); k_whole); (first | (intro h9' tk9' hH9' F' N') | (intro D9' vs9' h9' tk9' hN9' hH9' F' N')); (try contradiction))
  k_fill
  intro ho
  obtain ⟨e1, e2, e3⟩ := fn_lit (by k_is) ho
  subst e1 e2 e3
  change [_, _, _, _, _] = bd at hst
  subst hst
  have hW2 := hW
  obtain ⟨dw, k, h1, t1, h2, t2, h3, t3, h4, t4, h5, t5, t5', h6, t6, h7, t7, w3, w6, w7, mn, md⟩ := hW2
  k_with "eval IfExp" => (k_here; (fail_if_success (rename Mark => z9)); refine held ?_)
  k_steps
  unfold Held
  refine cutV (P := fun v => (g = 0 ∧ v = .int addr ta) ∨ (g ≠ 0 ∧ v = .int g tg)) ?h ?k
  case h =>
    intro Q9 E9 k9
    have mark9 := mark
    k_steps
    · exact k9 _ _ (.inl ⟨by assumption, rfl⟩)
    · exact k9 _ _ (.inr ⟨by assumption, rfl⟩)
  case k =>
    intro v9 tk9 h9
    obtain ⟨t9, f9⟩ := goal_v h9
    clear h9
    subst f9
    have hp3 := hp2 _ rfl
    clear hp2
    generalize (if g = 0 then addr else g) = sp at hp3 ⊢
    try dsimp only
    k_steps
    unfold Held
    rename Fr _ _ _ _ => F9
    obtain ⟨m2, e2, F9⟩ := fr_name F9
    rename News _ _ _ _ => N9
    obtain ⟨D8, T8, eD, eT, N9⟩ := two_tups N9
    have mTh2 : m2 (Str.ofString "there") = some (.ref T8) := by rw [e2, eT]; rfl
    have mDu2 : m2 (Str.ofString "due") = some (.ref D8) := by rw [e2, eD]; rfl
    have mA2 : m2 (Str.ofString "address") = some (.int addr ta) := by rw [e2]; first | with_reducible assumption | exact up_self | exact up_ne (by decide) (by first | with_reducible assumption | exact up_self | exact up_ne (by decide) (by first | with_reducible assumption | exact up_self | exact up_ne (by decide) (by first | with_reducible assumption | exact up_self | exact up_ne (by decide) (by first | with_reducible assumption | exact up_self | exact up_ne (by decide) (by first | with_reducible assumption | exact up_self)))))
    have mNm2 : m2 (Str.ofString "name") = some (.int nm tn) := by rw [e2]; first | with_reducible assumption | exact up_self | exact up_ne (by decide) (by first | with_reducible assumption | exact up_self | exact up_ne (by decide) (by first | with_reducible assumption | exact up_self | exact up_ne (by decide) (by first | with_reducible assumption | exact up_self | exact up_ne (by decide) (by first | with_reducible assumption | exact up_self | exact up_ne (by decide) (by first | with_reducible assumption | exact up_self)))))
    have mG2 : m2 (Str.ofString "goal") = some (.int g tg) := by rw [e2]; first | with_reducible assumption | exact up_self | exact up_ne (by decide) (by first | with_reducible assumption | exact up_self | exact up_ne (by decide) (by first | with_reducible assumption | exact up_self | exact up_ne (by decide) (by first | with_reducible assumption | exact up_self | exact up_ne (by decide) (by first | with_reducible assumption | exact up_self | exact up_ne (by decide) (by first | with_reducible assumption | exact up_self)))))
    have mL2 : m2 (Str.ofString "link") = some (.int lk tl) := by rw [e2]; first | with_reducible assumption | exact up_self | exact up_ne (by decide) (by first | with_reducible assumption | exact up_self | exact up_ne (by decide) (by first | with_reducible assumption | exact up_self | exact up_ne (by decide) (by first | with_reducible assumption | exact up_self | exact up_ne (by decide) (by first | with_reducible assumption | exact up_self | exact up_ne (by decide) (by first | with_reducible assumption | exact up_self)))))
    have mC2 : m2 (Str.ofString "cuts") = some (.ref cD) := by rw [e2]; first | with_reducible assumption | exact up_self | exact up_ne (by decide) (by first | with_reducible assumption | exact up_self | exact up_ne (by decide) (by first | with_reducible assumption | exact up_self | exact up_ne (by decide) (by first | with_reducible assumption | exact up_self | exact up_ne (by decide) (by first | with_reducible assumption | exact up_self | exact up_ne (by decide) (by first | with_reducible assumption | exact up_self)))))
    have mW2 : m2 (Str.ofString "world") = some (.ref wd) := by rw [e2]; first | with_reducible assumption | exact up_self | exact up_ne (by decide) (by first | with_reducible assumption | exact up_self | exact up_ne (by decide) (by first | with_reducible assumption | exact up_self | exact up_ne (by decide) (by first | with_reducible assumption | exact up_self | exact up_ne (by decide) (by first | with_reducible assumption | exact up_self | exact up_ne (by decide) (by first | with_reducible assumption | exact up_self)))))
    refine st_due (m := m2) (xs := xs) (ho := hO (Int.fdiv sp 10) (Int.fmod sp 10)) (H := HereIf nm addr g) (nb := nbO ps1 ps2 cns nm i g addr) (by k_asm) (by k_asm) (by k_asm) F9 N9 (by rfl) mA2 mNm2 mG2 mTh2 mL2 mC2 mDu2 (.tail _ (.tail _ m3)) d3 (.tail _ (.head _)) (.head _) (.tail _ (.tail _ mcD)) hcv (hT.mono fun q hq => .tail _ (.tail _ hq)) (hAt _ _) hp1 hp3 ?rH ?rN ?rS ho
    case rH =>
      intro t h9 tk9 hH F9 N9
      k_steps
      all_goals (first | contradiction | (refine hret _ _ _ (fun z z1 z2 z3 => ?_) (by k_asm) (cb_drop (by k_asm) (fun q hq => ?_))))
      all_goals (first | (simp only [z3, if_false, e2, z1, z2]; done) | (simp only [e2, z1, z2, z3, if_false]; done) | (repeat (first | with_reducible exact hq | refine List.mem_cons_of_mem _ ?_)))
    case rN =>
      intro h9 tk9 hH hn F9 N9
      k_steps
      all_goals (first | contradiction | (refine hret _ _ _ (fun z z1 z2 z3 => ?_) (by k_asm) (cb_drop (by k_asm) (fun q hq => ?_))))
      all_goals (first | (simp only [z3, if_false, e2, z1, z2]; done) | (simp only [e2, z1, z2, z3, if_false]; done) | (repeat (first | with_reducible exact hq | refine List.mem_cons_of_mem _ ?_)))
    case rS =>
      intro D9 t h9 tk9 hH hn F9 N9
      k_steps
      all_goals (first | contradiction | (refine hret _ _ _ (fun z z1 z2 z3 => ?_) (by k_asm) (cb_drop (by k_asm) (fun q hq => ?_))))
      all_goals (first | (simp only [z3, if_false, e2, z1, z2]; done) | (simp only [e2, z1, z2, z3, if_false]; done) | (repeat (first | with_reducible exact hq | refine List.mem_cons_of_mem _ ?_)))
end
end
-- part SE
section
open PySem PySem.W PySem.Spec PySem.Calls PyProof.Rows PySem.SeqAt
set_option linter.all false
set_option maxRecDepth 100000
set_option maxHeartbeats 2000000
open PyProof.Rows.LCg PyProof.Rows.LCt
section
variable {prog : Program} {w : World} {A : Around} {E : Value → Shared → Prop} {s : Shared} {env : Env} {h₀ : Heap} {x : Str} {body : List Stmt} {Q : Flow → Shared → Prop}
theorem trest_ind {I : Addr} {T : Addr × Obj} {news : List (Addr × Obj)} (Inv : (Str → Option Value) → Prop) (hT : T ∈ news) (done : ∀ m, Inv m → ∀ h tk, Fr h₀ env.locals h m → News h₀ env.locals h news → Q .next { s with heap := h, toks := tk }) :
    ∀ (vs : List Value), (∀ v ∈ vs, ∀ m, Inv m → ∀ (it : Obj) h tk, Fr h₀ env.locals h (fun y => if y = x then some v else m y) → News h₀ env.locals h ((I, it) :: news) →
      wpAny (model prog w) A (execs body env) (UnrPost h₀ env.locals { s with heap := h, toks := tk } I it (fun m' n' => n' = news ∧ Inv m') Q) E { s with heap := h, toks := tk }) → ∀ m, Inv m → TRest prog w A E h₀ env x body Q s I T vs m news
  | [], _, m, hm => TRest.done fun h tk F N => done m hm h tk F N
  | v :: vs, turn, m, hm => TRest.turn fun it h tk F N => wpAny_mono (turn v (.head _) m hm it h tk F N) (fun _ _ z => unr_mono0 z fun m' n' e => by
      obtain ⟨e1, e2⟩ := e
      subst e1
      exact ⟨hT, trest_ind Inv hT done vs (fun v' hv' => turn v' (.tail _ hv')) m' e2⟩) fun _ _ e => e
end
noncomputable def addrs : List Int := [11, 12, 21, 22, 31, 32, 99]
section
theorem st_inner {w : World} {oc dV kV doc pm cdv ct : Value} {an od : Option Addr} {osl : Array (Option Value)} {name qual : Str} {params : Arguments} {body : List Stmt} {scope : Scope} {st : Stmt}
  {p : Program} {loose : List Str} {mean : ExcName → Option Value} {mg mb : Str → Option Value} {base h₀ : Heap} {L : Addr} {m : Str → Option Value} {s : Shared} {cd : Value} {fa : Addr} {news : List (Addr × Obj)}
  {hD cD wd n rd ed x hp : Addr} {o3 : Obj} {nm i g lk : Int} {tn tg tl ti tg2 : Tok} {cv : List Value} {cns : List Int} {xs : List (List Int × Addr × Value)} {kvs : List (Int × Value)} {ps1 ps2 : List (Int × Int)} {hO : Int → Int → Option Int}
  {Q : Flow → Shared → Prop}
  (B : Below callerA base [] h₀) (X : (hd.heap_39 w.params).In h₀) (T : Top p loose mean mg mb h₀)
  (F : Fr h₀ L s.heap m) (N : News h₀ L s.heap news)
  (hst : (forBody body[10]?)[2]? = some st)
  (mNm : m (Str.ofString "name") = some (.int nm tn)) (mG : m (Str.ofString "goal") = some (.int g tg)) (mL : m (Str.ofString "link") = some (.int lk tl)) (mC : m (Str.ofString "cuts") = some (.ref cD)) (mW : m (Str.ofString "world") = some (.ref wd))
  (m3 : (L + 1 + 1 + 1, o3) ∈ news) (d3 : o3.data = .cell (some (.ref hD))) (mcD : (cD, lst cv) ∈ news) (hcv : IntsAre cv cns) (hT : TDict PySem.Challenge.rw_rh0207_01.row.prog w news hD xs)
  (hW : WorldAt news wd n rd ed) (hN : NetOk w news n ps1 ps2 cns) (hE : EndsOk w news ed) (hI : IDict PySem.Challenge.rw_rh0207_01.row.prog w news rd kvs) (hv : valueAt kvs nm = some (.ref x)) (hR : RouterAt w p loose mean mg mb news x hp) (hh : (hp, tupO [.int i ti, .int g tg2]) ∈ news)
  (hAt : ∀ a b, (hO a b = none ∧ atKey xs [a, b] = none) ∨ ∃ x e t, hO a b = some x ∧ atKey xs [a, b] = some (e, .int x t))
  (hp1 : ∀ addr ∈ addrs, (HereIf nm addr g ↔ (Int.fdiv addr 10 = nm ∨ (g = 0 ∧ addr = 99))))
  (hp2 : ∀ addr ∈ addrs, ∀ sp, sp = (if g = 0 then addr else g) → nbO ps1 ps2 cns nm i g addr = if (∃ x, hO (Int.fdiv sp 10) (Int.fmod sp 10) = some x ∧ Int.fdiv sp 10 ≠ nm ∧ x = lk ∧ 0 < lk ∧ lk ∉ cns) then some (Int.fdiv sp 10) else none)
  (hret : ∀ m' h' tk', (∀ z, z ≠ Str.ofString "address" → z ≠ Str.ofString "spot" → z ≠ Str.ofString "there" → z ≠ Str.ofString "due" → m' z = m z) → Fr h₀ L h' m' → News h₀ L h' news → Q .next { s with heap := h', toks := tk' }) :
  (hd.heap_39 w.params).lookup 204 = some ⟨oc, od, .func (fnOf name qual params body scope dV kV doc pm an cdv ct), osl⟩ →
  wpAny (model PySem.Challenge.rw_rh0207_01.row.prog w) (callerA.deeper (envOfC qual scope L fa cd)) (exec st (envOfC qual scope L fa cd)) Q (fun _ _ => False) s := by
  w_top off
  k_with_none
  k_with "ne" => first | assumption | (refine neN ?_; (try dsimp only); first | assumption | exact Nat.ne_of_lt (lt_mem (by assumption) (by k_mem)) | exact Nat.ne_of_gt (lt_mem (by assumption) (by k_mem)) | exact Nat.ne_of_gt (lt_mem2 (by assumption) (by assumption) (by k_mem)) | exact And.left (by assumption) | exact Ne.symm (And.left (by assumption)) | exact And.left (And.right (by assumption)) | exact Ne.symm (And.left (And.right (by assumption))) | exact And.left (And.right (And.right (by assumption))) | exact Ne.symm (And.left (And.right (And.right (by assumption)))) | exact And.left (And.right (And.right (And.right (by assumption)))) | exact Ne.symm (And.left (And.right (And.right (And.right (by assumption))))) | exact And.left (And.right (And.right (And.right (And.right (by assumption))))) | exact Ne.symm (And.left (And.right (And.right (And.right (And.right (by assumption)))))) | exact Ne.symm (And.left (And.right (And.right (And.right (And.right (And.right (by assumption)))))))  | exact Ne.symm (And.left (And.right (And.right (And.right (And.right (And.right (And.right (by assumption)))))))) | omega)
  k_with "all" => first | assumption | exact List.forall_mem_nil _ | (refine' List.forall_mem_cons.mpr ⟨?a, ?b⟩; (case a => k_ne); (case b => k_all)) | exact lt_ne (by assumption) | exact lt_ne_succ (by assumption) | exact fun p hp => Nat.ne_of_lt (lt_at (by assumption) (by k_mem))
  k_with "mem" => first | assumption | exact List.Mem.head _ | (refine' List.Mem.tail _ ?_; k_mem)
  k_with "room" => first | exact lim2 (by assumption) (Nat.le_of_ble_eq_true rfl) | exact lim1 (by assumption) (Nat.le_of_ble_eq_true rfl) | exact lim0 (by assumption)
  k_with "eval Name" => (k_here; (with_reducible show wpAny _ _ (eval (Expr.Name _ _) (envOfC _ _ _ _ _)) _ _ _); k_dflt (refine ldV (by rfl) (by rfl) (Fr.ns (by k_asm)) (by first | with_reducible assumption | exact up_self | exact up_ne (by decide) (by first | with_reducible assumption | exact up_self | exact up_ne (by decide) (by first | with_reducible assumption | exact up_self | exact up_ne (by decide) (by first | with_reducible assumption | exact up_self | exact up_ne (by decide) (by first | with_reducible assumption | exact up_self | exact up_ne (by decide) (by first | with_reducible assumption | exact up_self)))))) (by decide) ?_))
  k_with "exec For Name Tuple cons nil" => (k_here; (rename Fr _ _ _ _ => lF'); (with_unfolding_all refine' For_invVF lF' ?k1 ?k2 ?_; (case k1 => exact rfl); (case k2 => exact rfl); k_whole))
  k_with "pyIter ref" => (k_here; (with_reducible show wpAny _ _ (pyIter (Value.ref _)) (fun it s₂ => LoopAtV _ _ _ _ _ _ _ _ _ it s₂) _ _); k_dflt (refine iter_tup (by exact rfl) (by k_asm) (by k_asm) (by k_mem) ?_); intro I9 lI9)
  k_fill
  intro ho
  have e9 := fn_is (by k_is) ho
  cases e9
  cases Option.some.inj hst
  clear hst
  k_steps
  refine trest_ind (Inv := fun m' => ∀ z, z ≠ Str.ofString "address" → z ≠ Str.ofString "spot" → z ≠ Str.ofString "there" → z ≠ Str.ofString "due" → m' z = m z) (.head _) ?done _ ?turn m (fun _ _ _ _ _ => rfl)
  case done =>
    intro m' hm' h tk F1 N1
    exact hret m' h tk hm' F1 (cb_drop N1 (fun q hq => .tail _ hq))
  case turn =>
    intro v hv9 m1 hm1 it h tk F1 N1
    have hva : ∃ addr ta, v = .int addr ta ∧ addr ∈ addrs := by
      simp only [List.mem_cons, List.not_mem_nil, or_false] at hv9
      rcases hv9 with rfl | rfl | rfl | rfl | rfl | rfl | rfl <;> exact ⟨_, _, rfl, by decide⟩
    obtain ⟨addr, ta, rfl, hA⟩ := hva
    have hb : 0 ≤ addr ∧ addr < 256 := (by decide : ∀ a ∈ addrs, 0 ≤ a ∧ a < 256) addr hA
    have sub : ∀ {a b : Addr × Obj}, ∀ q ∈ news, q ∈ a :: b :: news := fun q hq => .tail _ (.tail _ hq)
    refine st_turn (m := fun y => if y = Str.ofString "address" then some (.int addr ta) else m1 y) B X T F1 N1 (by rfl) up_self (up_ne (by decide) ((hm1 _ (by decide) (by decide) (by decide) (by decide)).trans mNm)) (up_ne (by decide) ((hm1 _ (by decide) (by decide) (by decide) (by decide)).trans mG)) (up_ne (by decide) ((hm1 _ (by decide) (by decide) (by decide) (by decide)).trans mL)) (up_ne (by decide) ((hm1 _ (by decide) (by decide) (by decide) (by decide)).trans mC)) (up_ne (by decide) ((hm1 _ (by decide) (by decide) (by decide) (by decide)).trans mW)) (sub _ m3) d3 (sub _ mcD) hcv (hT.mono sub) (WorldAt.mono hW sub) (NetOk.mono hN sub) (EndsOk.mono hE sub) (hI.mono sub) hv (RouterAt.mono hR sub) (sub _ hh) hb.1 hb.2 hAt (hp1 addr hA) (hp2 addr hA) ?_ ho
    intro m2 h2 tk2 hm2 F2 N2
    show UnrEnd _ _ _ _ _ _ _
    refine UnrEnd.intro F2 N2 _ (fun p hp => hp) (fun p hp => Nat.ne_of_lt (lI9 p hp)) ⟨rfl, fun z z1 z2 z3 z4 => ?_⟩
    rw [hm2 z z2 z3 z4]
    exact (if_neg z1).trans (hm1 z z1 z2 z3 z4)
end
end
-- part SF
section
open PySem PySem.W PySem.Spec PySem.Calls PyProof.Rows PySem.SeqAt
set_option linter.all false
set_option maxRecDepth 100000
set_option maxHeartbeats 2000000
open PyProof.Rows.LCg PyProof.Rows.LCt
section
inductive HopAt (w : World) (p : Program) (loose : List Str) (mean : ExcName → Option Value) (mg mb : Str → Option Value) (news : List (Addr × Obj)) (hkvs kvs : List (Int × Value)) (xs : List (List Int × Addr × Value)) (ps1 ps2 : List (Int × Int)) (cns : List Int) (hO : Int → Int → Option Int) (nm : Int) : Prop
  | mk (hp x e : Addr) (i g lk : Int) (ti tg t : Tok) (z1 : valueAt hkvs nm = some (.ref hp)) (z2 : (hp, tupO [.int i ti, .int g tg]) ∈ news) (z3 : valueAt kvs nm = some (.ref x)) (z4 : RouterAt w p loose mean mg mb news x hp) (z5 : atKey xs [nm, i] = some (e, .int lk t))
    (z6 : ∀ addr ∈ addrs, (HereIf nm addr g ↔ (Int.fdiv addr 10 = nm ∨ (g = 0 ∧ addr = 99))))
    (z7 : ∀ addr ∈ addrs, ∀ sp, sp = (if g = 0 then addr else g) → nbO ps1 ps2 cns nm i g addr = if (∃ x, hO (Int.fdiv sp 10) (Int.fmod sp 10) = some x ∧ Int.fdiv sp 10 ≠ nm ∧ x = lk ∧ 0 < lk ∧ lk ∉ cns) then some (Int.fdiv sp 10) else none) : HopAt w p loose mean mg mb news hkvs kvs xs ps1 ps2 cns hO nm
theorem st_outer {w : World} {oc dV kV doc pm cdv ct : Value} {an od : Option Addr} {osl : Array (Option Value)} {name qual : Str} {params : Arguments} {body : List Stmt} {scope : Scope} {st : Stmt}
  {p : Program} {loose : List Str} {mean : ExcName → Option Value} {mg mb : Str → Option Value} {base h₀ : Heap} {L : Addr} {m : Str → Option Value} {s : Shared} {cd : Value} {fa : Addr} {news : List (Addr × Obj)}
  {hD cD wd n rd ed oD : Addr} {o3 o4 : Obj} {cv : List Value} {cns : List Int} {xs : List (List Int × Addr × Value)} {kvs hkvs : List (Int × Value)} {ps1 ps2 : List (Int × Int)} {hO : Int → Int → Option Int}
  {Q : Flow → Shared → Prop}
  (B : Below callerA base [] h₀) (X : (hd.heap_39 w.params).In h₀) (T : Top p loose mean mg mb h₀)
  (F : Fr h₀ L s.heap m) (N : News h₀ L s.heap news)
  (hst : body[10]? = some st)
  (mC : m (Str.ofString "cuts") = some (.ref cD)) (mW : m (Str.ofString "world") = some (.ref wd))
  (m3 : (L + 1 + 1 + 1, o3) ∈ news) (d3 : o3.data = .cell (some (.ref hD))) (m4 : (L + 1 + 1 + 1 + 1, o4) ∈ news) (d4 : o4.data = .cell (some (.ref oD))) (mcD : (cD, lst cv) ∈ news) (hcv : IntsAre cv cns) (hT : TDict PySem.Challenge.rw_rh0207_01.row.prog w news hD xs)
  (hW : WorldAt news wd n rd ed) (hN : NetOk w news n ps1 ps2 cns) (hE : EndsOk w news ed) (hI : IDict PySem.Challenge.rw_rh0207_01.row.prog w news rd kvs) (hH : IDict PySem.Challenge.rw_rh0207_01.row.prog w news oD hkvs)
  (hAt : ∀ a b, (hO a b = none ∧ atKey xs [a, b] = none) ∨ ∃ x e t, hO a b = some x ∧ atKey xs [a, b] = some (e, .int x t))
  (hHop : ∀ nm : Int, (nm = 1 ∨ nm = 2 ∨ nm = 3) → HopAt w p loose mean mg mb news hkvs kvs xs ps1 ps2 cns hO nm)
  (hret : ∀ m' h' tk', Fr h₀ L h' m' → News h₀ L h' news → Q .next { s with heap := h', toks := tk' }) :
  (hd.heap_39 w.params).lookup 204 = some ⟨oc, od, .func (fnOf name qual params body scope dV kV doc pm an cdv ct), osl⟩ →
  wpAny (model PySem.Challenge.rw_rh0207_01.row.prog w) (callerA.deeper (envOfC qual scope L fa cd)) (exec st (envOfC qual scope L fa cd)) Q (fun _ _ => False) s := by
  w_top off
  k_with_none
  k_with "ne" => first | assumption | (refine neN ?_; (try dsimp only); first | assumption | exact Nat.ne_of_lt (lt_mem (by assumption) (by k_mem)) | exact Nat.ne_of_gt (lt_mem (by assumption) (by k_mem)) | exact Nat.ne_of_gt (lt_mem2 (by assumption) (by assumption) (by k_mem)) | exact And.left (by assumption) | exact Ne.symm (And.left (by assumption)) | exact And.left (And.right (by assumption)) | exact Ne.symm (And.left (And.right (by assumption))) | exact And.left (And.right (And.right (by assumption))) | exact Ne.symm (And.left (And.right (And.right (by assumption)))) | exact And.left (And.right (And.right (And.right (by assumption)))) | exact Ne.symm (And.left (And.right (And.right (And.right (by assumption))))) | exact And.left (And.right (And.right (And.right (And.right (by assumption))))) | exact Ne.symm (And.left (And.right (And.right (And.right (And.right (by assumption)))))) | exact Ne.symm (And.left (And.right (And.right (And.right (And.right (And.right (by assumption)))))))  | exact Ne.symm (And.left (And.right (And.right (And.right (And.right (And.right (And.right (by assumption)))))))) | omega)
  k_with "all" => first | assumption | exact List.forall_mem_nil _ | (refine' List.forall_mem_cons.mpr ⟨?a, ?b⟩; (case a => k_ne); (case b => k_all)) | exact lt_ne (by assumption) | exact lt_ne_succ (by assumption) | exact fun p hp => Nat.ne_of_lt (lt_at (by assumption) (by k_mem))
  k_with "mem" => first | assumption | exact List.Mem.head _ | (refine' List.Mem.tail _ ?_; k_mem)
  k_with "room" => first | exact lim2 (by assumption) (Nat.le_of_ble_eq_true rfl) | exact lim1 (by assumption) (Nat.le_of_ble_eq_true rfl) | exact lim0 (by assumption)
  k_with "eval Name" => (k_here; (with_reducible show wpAny _ _ (eval (Expr.Name _ _) (envOfC _ _ _ _ _)) _ _ _); k_dflt (refine ldV (by rfl) (by rfl) (Fr.ns (by k_asm)) (by first | with_reducible assumption | exact up_self | exact up_ne (by decide) (by first | with_reducible assumption | exact up_self | exact up_ne (by decide) (by first | with_reducible assumption | exact up_self | exact up_ne (by decide) (by first | with_reducible assumption | exact up_self | exact up_ne (by decide) (by first | with_reducible assumption | exact up_self | exact up_ne (by decide) (by first | with_reducible assumption | exact up_self)))))) (by decide) ?_))
  k_with "exec For Name Tuple cons nil" => (k_here; refine held ?_)
  k_with "pyIter ref" => (k_here; (with_reducible show wpAny _ _ (pyIter (Value.ref _)) (fun it s₂ => LoopAtV _ _ _ _ _ _ _ _ _ it s₂) _ _); k_dflt (refine iter_tup (by exact rfl) (by k_asm) (by k_asm) (by k_mem) ?_); intro I9 lI9)
  k_with "subscriptTail Name Name ref int" => (k_here; k_dflt (refine item_I' (by k_asm) ⟨_, by with_reducible assumption, by intro q9' hq9'; repeat (first | with_reducible exact hq9' | refine List.mem_cons_of_mem _ ?_)⟩ (by assumption) ?_); (try dsimp only))
  k_with "subscriptTail" => (k_here; (with_reducible show wpAny _ _ (subscriptTail _ _ (Value.ref _) (Value.ref _)) _ _ _); k_dflt (refine item_T (by first | ktr_units | decide) (by k_asm) (TDict.mono (by with_reducible assumption) (by intro q9' hq9'; repeat (first | with_reducible exact hq9' | refine List.mem_cons_of_mem _ ?_))) (by k_mem) pair_key (by with_reducible assumption) ?_); intro tk9')
  k_fill
  intro ho
  have e9 := fn_is (by k_is) ho
  cases e9
  cases Option.some.inj hst
  clear hst
  with_unfolding_all refine' For_invVF F ?k1 ?k2 ?_
  case k1 => exact rfl
  case k2 => exact rfl
  k_steps
  refine trest_ind (Inv := fun m' => ∀ z, z ≠ Str.ofString "name" → z ≠ Str.ofString "number" → z ≠ Str.ofString "goal" → z ≠ Str.ofString "link" → z ≠ Str.ofString "address" → z ≠ Str.ofString "spot" → z ≠ Str.ofString "there" → z ≠ Str.ofString "due" → m' z = m z) (.head _) ?done _ ?turn m (fun _ _ _ _ _ _ _ _ _ => rfl)
  case done =>
    intro m' hm' h tk F1 N1
    exact hret m' h tk F1 (cb_drop N1 (fun q hq => .tail _ hq))
  case turn =>
    intro v hv9 m1 hm1 it h tk F1 N1
    have hva : ∃ nm tn, v = .int nm tn ∧ (nm = 1 ∨ nm = 2 ∨ nm = 3) := by
      simp only [List.mem_cons, List.not_mem_nil, or_false] at hv9
      rcases hv9 with rfl | rfl | rfl <;> exact ⟨_, _, rfl, by decide⟩
    obtain ⟨nm, tn, rfl, hA⟩ := hva
    obtain ⟨hp, x, e, i, g, lk, ti, tg, t, z1, z2, z3, z4, z5, z6, z7⟩ := hHop nm hA
    have mC1 : m1 (Str.ofString "cuts") = some (.ref cD) := (hm1 _ (by decide) (by decide) (by decide) (by decide) (by decide) (by decide) (by decide) (by decide)).trans mC
    have mW1 : m1 (Str.ofString "world") = some (.ref wd) := (hm1 _ (by decide) (by decide) (by decide) (by decide) (by decide) (by decide) (by decide) (by decide)).trans mW
    have sub : ∀ {a b : Addr × Obj}, ∀ q ∈ news, q ∈ a :: b :: news := fun q hq => .tail _ (.tail _ hq)
    k_steps
    unfold Held
    rename Fr _ _ _ _ => F9
    rename News _ _ _ _ => N9
    obtain ⟨m2, e2, F9⟩ := fr_name F9
    have mNm2 : m2 (Str.ofString "name") = some (.int nm tn) := by rw [e2]; rfl
    have mG2 : m2 (Str.ofString "goal") = some (.int g tg) := by rw [e2]; rfl
    have mL2 : m2 (Str.ofString "link") = some (.int lk t) := by rw [e2]; rfl
    have mC2 : m2 (Str.ofString "cuts") = some (.ref cD) := by rw [e2]; exact mC1
    have mW2 : m2 (Str.ofString "world") = some (.ref wd) := by rw [e2]; exact mW1
    have sub3 : ∀ {a b c : Addr × Obj}, ∀ q ∈ news, q ∈ a :: b :: c :: news := fun q hq => .tail _ (.tail _ (.tail _ hq))
    refine st_inner (m := m2) B X T F9 N9 (by rfl) mNm2 mG2 mL2 mC2 mW2 (sub3 _ m3) d3 (sub3 _ mcD) hcv (hT.mono sub3) (WorldAt.mono hW sub3) (NetOk.mono hN sub3) (EndsOk.mono hE sub3) (hI.mono sub3) z3 (RouterAt.mono z4 sub3) (sub3 _ z2) hAt z6 z7 ?_ ho
    intro m9 h9 tk9 hm9 F8 N8
    k_steps
    show UnrEnd _ _ _ _ _ _ _
    refine UnrEnd.intro F8 N8 _ (fun p hp => .tail _ hp) (fun p hp => Nat.ne_of_lt (lI9 p hp)) ⟨rfl, fun z a1 a2 a3 a4 a5 a6 a7 a8 => ?_⟩
    rw [hm9 z a5 a6 a7 a8, e2]
    simp only [a1, a2, a3, a4, if_false]
    exact hm1 z a1 a2 a3 a4 a5 a6 a7 a8
end
end
-- part P1
section
open PySem PySem.W PySem.Spec PySem.Calls PyProof.Rows PySem.SeqAt
set_option linter.all false
set_option maxRecDepth 100000
set_option maxHeartbeats 2000000
open PyProof.Rows.LCg PyProof.Rows.LCt
noncomputable def homeL (d : Nat → Int) (a b : Int) : List (Int × Int) → Nat → Option Int
  | [], _ => none
  | (x, y) :: r, j => if a = x ∧ b = y then some (d j) else homeL d a b r (j + 1)
noncomputable def homeO (d : Nat → Int) (a b : Int) : Option Int := homeL d a b ab6 0
theorem homeL_cases {d : Nat → Int} {a b x : Int} : ∀ (l : List (Int × Int)) (k : Nat), homeL d a b l k = some x → ∃ j, l[j]? = some (a, b) ∧ d (k + j) = x
  | [], _, h => nomatch h
  | (u, v) :: r, k, h => by
    unfold homeL at h
    by_cases e : a = u ∧ b = v
    · rw [if_pos e] at h; exact ⟨0, by rw [e.1, e.2]; rfl, Option.some.inj h⟩
    · rw [if_neg e] at h
      obtain ⟨j, e1, e2⟩ := homeL_cases r (k + 1) h
      exact ⟨j + 1, e1, by rw [← e2, Nat.add_assoc, Nat.add_comm 1 j]⟩
theorem homeO_cases {d : Nat → Int} {a b x : Int} (h : homeO d a b = some x) : ∃ j, j < 6 ∧ ab6.getD j (0, 0) = (a, b) ∧ d j = x := by
  obtain ⟨j, e1, e2⟩ := homeL_cases ab6 0 h
  exact ⟨j, (List.getElem?_eq_some_iff.mp e1).1, by rw [List.getD_eq_getElem?_getD, e1]; rfl, by rw [← e2, Nat.zero_add]⟩
theorem mem_selP {d : Nat → Int} {n : Int} {p : Int × Int} : ∀ i, p ∈ selP d n i ↔ ∃ j, j < i ∧ d j = n ∧ ab6.getD j (0, 0) = p
  | 0 => by simp [selP]
  | i + 1 => by
    rw [selP, List.mem_append, mem_selP i]
    constructor
    · rintro (⟨j, a, b, c⟩ | h)
      · exact ⟨j, by omega, b, c⟩
      · by_cases hd : d i = n
        · rw [if_pos hd, List.mem_singleton] at h
          exact ⟨i, by omega, hd, h.symm⟩
        · rw [if_neg hd] at h; cases h
    · rintro ⟨j, a, b, c⟩
      rcases Nat.lt_or_ge j i with h | h
      · exact .inl ⟨j, h, b, c⟩
      · have : j = i := by omega
        subst this
        exact .inr (by rw [if_pos b, List.mem_singleton, c])
theorem ab6_inj {j k : Nat} (hj : j < 6) (hk : k < 6) (h : ab6.getD j (0, 0) = ab6.getD k (0, 0)) : j = k := by
  have key : ∀ j : Fin 6, ∀ k : Fin 6, ab6.getD j.1 (0, 0) = ab6.getD k.1 (0, 0) → j.1 = k.1 := by decide
  exact key ⟨j, hj⟩ ⟨k, hk⟩ h
theorem sel_home {d : Nat → Int} {a b x n : Int} (h : homeO d a b = some x) : (a, b) ∈ selP d n 6 ↔ x = n := by
  obtain ⟨j, hj, e, hx⟩ := homeO_cases h
  rw [mem_selP]
  constructor
  · rintro ⟨k, hk, e1, e2⟩
    have : k = j := ab6_inj hk hj (e2.trans e.symm)
    subst this
    rw [← hx, e1]
  · intro hn
    exact ⟨j, hj, by rw [hx, hn], e⟩
theorem link_home {d : Nat → Int} {a b x : Int} (h : homeO d a b = some x) : linkO (selP d 1 6) (selP d 2 6) (a, b) = if x = 1 then some 1 else if x = 2 then some 2 else none := by
  unfold linkO
  by_cases h1 : x = 1
  · rw [if_pos ((sel_home h).mpr h1), if_pos h1]
  · rw [if_neg (fun z => h1 ((sel_home h).mp z)), if_neg h1]
    by_cases h2 : x = 2
    · rw [if_pos ((sel_home h).mpr h2), if_pos h2]
    · rw [if_neg (fun z => h2 ((sel_home h).mp z)), if_neg h2]
theorem lf_inj {x y : Int} (hx : 0 ≤ x ∧ x < 3) (hy : 0 ≤ y ∧ y < 3) (h : (if x = 1 then some (1 : Int) else if x = 2 then some 2 else none) = if y = 1 then some 1 else if y = 2 then some 2 else none) : x = y := by
  rcases lt3 hx with e | e | e <;> rcases lt3 hy with f | f | f <;> subst e f <;> first | rfl | (cases h; done)
theorem nb_core {d : Nat → Int} {cns : List Int} {r q nm i x lk : Int} (hx : homeO d r q = some x) (hl : homeO d nm i = some lk) (bx : 0 ≤ x ∧ x < 3) (bl : 0 ≤ lk ∧ lk < 3) :
    (if r = nm then none else if linkO (selP d 1 6) (selP d 2 6) (r, q) ≠ linkO (selP d 1 6) (selP d 2 6) (nm, i) then none else if upO cns (linkO (selP d 1 6) (selP d 2 6) (r, q)) = true then some r else none) =
      if (∃ x', homeO d r q = some x' ∧ r ≠ nm ∧ x' = lk ∧ 0 < lk ∧ lk ∉ cns) then some r else none := by
  rw [link_home hx, link_home hl]
  have e9 : (∃ x', homeO d r q = some x' ∧ r ≠ nm ∧ x' = lk ∧ 0 < lk ∧ lk ∉ cns) ↔ (r ≠ nm ∧ x = lk ∧ 0 < lk ∧ lk ∉ cns) := by
    rw [hx]
    constructor
    · rintro ⟨x', h, z⟩; cases h; exact z
    · intro z; exact ⟨x, rfl, z⟩
  simp only [e9]
  by_cases hr : r = nm
  · rw [if_pos hr, if_neg (fun z => z.1 hr)]
  rw [if_neg hr]
  by_cases e : x = lk
  · subst e
    rw [if_neg (fun z => z rfl)]
    rcases lt3 bx with e | e | e
    · subst e
      exact (if_neg Bool.false_ne_true).trans (if_neg fun z => Int.lt_irrefl _ z.2.2.1).symm
    · subst e
      by_cases c : (1 : Int) ∈ cns
      · exact (if_neg (by show ¬ (!decide ((1 : Int) ∈ cns)) = true; rw [decide_eq_true c]; exact Bool.false_ne_true)).trans (if_neg fun z => z.2.2.2 c).symm
      · exact (if_pos (by show (!decide ((1 : Int) ∈ cns)) = true; rw [decide_eq_false c]; rfl)).trans (if_pos ⟨hr, rfl, by decide, c⟩).symm
    · subst e
      by_cases c : (2 : Int) ∈ cns
      · exact (if_neg (by show ¬ (!decide ((2 : Int) ∈ cns)) = true; rw [decide_eq_true c]; exact Bool.false_ne_true)).trans (if_neg fun z => z.2.2.2 c).symm
      · exact (if_pos (by show (!decide ((2 : Int) ∈ cns)) = true; rw [decide_eq_false c]; rfl)).trans (if_pos ⟨hr, rfl, by decide, c⟩).symm
  · rw [if_pos (fun z => e (lf_inj bx bl z)), if_neg (fun z => e z.2.1)]
theorem sub_all {α : Type} {P : α → Prop} {a : α} {l : List α} (h : P a) (r : ∀ x ∈ l, P x) : ∀ x ∈ a :: l, P x := List.forall_mem_cons.mpr ⟨h, r⟩
theorem plain0 {nm g addr r q : Int} (e1 : endO addr = some (r, q)) (e2 : Int.fdiv addr 10 = r) (h9 : addr ≠ 99) : HereIf nm addr g ↔ (Int.fdiv addr 10 = nm ∨ (g = 0 ∧ addr = 99)) := by
  rw [e2]
  constructor
  · rintro (⟨q', e⟩ | ⟨_, e⟩)
    · rw [e1] at e; exact .inl (Prod.mk.inj (Option.some.inj e)).1
    · rw [e1] at e; cases e
  · rintro (e | e)
    · exact .inl ⟨q, by rw [e1, e]⟩
    · exact (h9 e.2).elim
theorem plain1 {nm g : Int} (hn : nm = 1 ∨ nm = 2 ∨ nm = 3) : ∀ addr ∈ addrs, (HereIf nm addr g ↔ (Int.fdiv addr 10 = nm ∨ (g = 0 ∧ addr = 99))) :=
  sub_all (plain0 (r := 1) (q := 1) rfl rfl (by decide)) (sub_all (plain0 (r := 1) (q := 2) rfl rfl (by decide)) (sub_all (plain0 (r := 2) (q := 1) rfl rfl (by decide)) (sub_all (plain0 (r := 2) (q := 2) rfl rfl (by decide)) (sub_all (plain0 (r := 3) (q := 1) rfl rfl (by decide)) (sub_all (plain0 (r := 3) (q := 2) rfl rfl (by decide)) (sub_all ⟨fun h => h.elim (fun ⟨q, e⟩ => nomatch e) fun h => .inr ⟨h.1, rfl⟩, fun h => h.elim (fun e => by
    have e2 : Int.fdiv 99 10 = 9 := rfl
    rw [e2] at e
    rw [← e] at hn
    exact absurd hn (by decide)) fun h => .inr ⟨h.1, rfl⟩⟩ (List.forall_mem_nil _)))))))
theorem gOf_in {k : Int} (h0 : 0 ≤ k) (h7 : k < 7) : gOf k = 0 ∨ gOf k ∈ addrs := by
  rcases (lt7 h0 h7) with rfl | rfl | rfl | rfl | rfl | rfl | rfl <;> decide
theorem plain2 {d : Nat → Int} {cns : List Int} {nm i g lk : Int} (hd : ∀ j : Nat, 0 ≤ d j ∧ d j < 3) (hl : homeO d nm i = some lk) (hg : g = 0 ∨ g ∈ addrs) :
    ∀ addr ∈ addrs, ∀ sp, sp = (if g = 0 then addr else g) → nbO (selP d 1 6) (selP d 2 6) cns nm i g addr = if (∃ x, homeO d (Int.fdiv sp 10) (Int.fmod sp 10) = some x ∧ Int.fdiv sp 10 ≠ nm ∧ x = lk ∧ 0 < lk ∧ lk ∉ cns) then some (Int.fdiv sp 10) else none := by
  intro addr ha sp hsp
  have hs : sp ∈ addrs := by
    rw [hsp]
    by_cases h : g = 0
    · rw [if_pos h]; exact ha
    · rw [if_neg h]; exact hg.resolve_left h
  have bl : 0 ≤ lk ∧ lk < 3 := by
    obtain ⟨j, _, _, e⟩ := homeO_cases hl
    rw [← e]; exact hd j
  unfold nbO
  rw [← hsp]
  clear hsp ha hg
  revert sp
  refine sub_all ?_ (sub_all ?_ (sub_all ?_ (sub_all ?_ (sub_all ?_ (sub_all ?_ (sub_all ?_ (List.forall_mem_nil _)))))))
  · exact nb_core (q := 1) (r := 1) (x := d 0) rfl hl (hd 0) bl
  · exact nb_core (q := 2) (r := 1) (x := d 1) rfl hl (hd 1) bl
  · exact nb_core (q := 1) (r := 2) (x := d 2) rfl hl (hd 2) bl
  · exact nb_core (q := 2) (r := 2) (x := d 3) rfl hl (hd 3) bl
  · exact nb_core (q := 1) (r := 3) (x := d 4) rfl hl (hd 4) bl
  · exact nb_core (q := 2) (r := 3) (x := d 5) rfl hl (hd 5) bl
  · have e1 : endO 99 = none := rfl
    have e3 : homeO d (Int.fdiv 99 10) (Int.fmod 99 10) = none := rfl
    rw [e1, e3]
    rw [if_neg (by rintro ⟨x, h, _⟩; cases h)]
theorem home_all {d : Nat → Int} {a b : Int} : ∀ (rs : List Pd) (qs : List Pq) (k : Nat), qs.length = rs.length → (∀ (j : Nat) (q : Pq), qs[j]? = some q → q.d = d (k + j)) →
    (homeL d a b (rs.map Pd.ab) k = none ∧ atKey (homeXs rs qs) [a, b] = none) ∨ ∃ x e t, homeL d a b (rs.map Pd.ab) k = some x ∧ atKey (homeXs rs qs) [a, b] = some (e, .int x t)
  | [], [], k, _, _ => .inl ⟨rfl, rfl⟩
  | [], _ :: _, _, h, _ => nomatch h
  | _ :: _, [], _, h, _ => nomatch h
  | r :: rs, q :: qs, k, h, hq => by
    show (homeL d a b ((r.a, r.b) :: rs.map Pd.ab) k = none ∧ atKey (([r.a, r.b], r.e, .int q.d q.t) :: homeXs rs qs) [a, b] = none) ∨ ∃ x e t, homeL d a b ((r.a, r.b) :: rs.map Pd.ab) k = some x ∧ atKey (([r.a, r.b], r.e, .int q.d q.t) :: homeXs rs qs) [a, b] = some (e, .int x t)
    unfold homeL
    by_cases e : a = r.a ∧ b = r.b
    · rw [if_pos e]
      have hd : q.d = d k := hq 0 q rfl
      refine .inr ⟨_, r.e, q.t, rfl, ?_⟩
      unfold atKey
      rw [List.find?_cons_of_pos (by rw [e.1, e.2]; exact decide_eq_true rfl), ← hd]
      rfl
    · rw [if_neg e]
      have z : atKey (([r.a, r.b], r.e, .int q.d q.t) :: homeXs rs qs) [a, b] = atKey (homeXs rs qs) [a, b] := by
        unfold atKey
        rw [List.find?_cons_of_neg]
        intro h9
        have h8 := of_decide_eq_true h9
        injection h8 with h7 h6
        injection h6 with h6
        exact e ⟨h7.symm, h6.symm⟩
      rw [z]
      exact home_all rs qs (k + 1) (Nat.succ.inj h) fun j q' e' => by
        have := hq (j + 1) q' e'
        rw [this, Nat.add_assoc, Nat.add_comm 1 j]
theorem home_at {d : Nat → Int} {rs : List Pd} {qs : List Pq} (hab : rs.map Pd.ab = ab6) (hrs : rs.length = 6) (hql : qs.length = rs.length) (hq : ∀ (j : Nat) (q : Pq), qs[j]? = some q → q.d = d j) :
    ∀ a b, (homeO d a b = none ∧ atKey (homeXs rs qs) [a, b] = none) ∨ ∃ x e t, homeO d a b = some x ∧ atKey (homeXs rs qs) [a, b] = some (e, .int x t) := fun a b => by
  have h := home_all (d := d) (a := a) (b := b) rs qs 0 hql (fun j q e => by rw [hq j q e, Nat.zero_add])
  rw [hab] at h
  exact h
end
-- part SG
section
open PySem PySem.W PySem.Spec PySem.Calls PyProof.Rows PySem.SeqAt
set_option linter.all false
set_option maxRecDepth 100000
set_option maxHeartbeats 2000000
open PyProof.Rows.LCg PyProof.Rows.LCt
theorem news_fun {h₀ h : Heap} {L x : Addr} {o1 o2 : Obj} {news : List (Addr × Obj)} (N : News h₀ L h news) (a : (x, o1) ∈ news) (b : (x, o2) ∈ news) : o1 = o2 := by
  have h1 := (N _ a).1
  have h2 := (N _ b).1
  have h3 : some o1 = some o2 := h1.symm.trans h2
  exact Option.some.inj h3
section
variable {prog : Program} {w : World} {R R' : List (Addr × Obj)}
theorem IDict.keep {d : Addr} {kvs : List (Int × Value)} (h : IDict prog w R d kvs) (K : ∀ q ∈ R, q.2.cls ≠ .none → q ∈ R') : IDict prog w R' d kvs := by
  obtain ⟨lo, o, hm, hd⟩ := h
  refine ⟨lo, o, K _ hm ?_, hd⟩
  obtain ⟨es, ep, hx, _⟩ := hd
  show o.cls ≠ _
  rw [hx.1]; intro z; cases z
theorem TDict.keep {d : Addr} {xs : List (List Int × Addr × Value)} (h : TDict prog w R d xs) (K : ∀ q ∈ R, q.2.cls ≠ .none → q ∈ R') : TDict prog w R' d xs := by
  obtain ⟨lo, o, es, ep, hm, hx, hd, he, hn, hk⟩ := h
  refine ⟨lo, o, es, ep, K _ hm ?_, hx, hd, he, hn, fun x hx' => ?_⟩
  · show o.cls ≠ _
    rw [hx.1]; intro z; cases z
  · obtain ⟨ok, hm', t⟩ := hk x hx'
    refine ⟨ok, K _ hm' ?_, t⟩
    show ok.cls ≠ _
    rw [t.1]; intro z; cases z
theorem Pairs2.keep {vs : List Value} {ps : List (Int × Int)} (h : Pairs2 R vs ps) (K : ∀ q ∈ R, q.2.cls ≠ .none → q ∈ R') : Pairs2 R' vs ps := by
  induction h with
  | nil => exact .nil
  | cons hm _ ih => exact .cons (K _ hm (by intro z; cases z)) ih
theorem NetOk.keep {n : Addr} {ps1 ps2 : List (Int × Int)} {cns : List Int} (h : NetOk w R n ps1 ps2 cns) (K : ∀ q ∈ R, q.2.cls ≠ .none → q ∈ R') : NetOk w R' n ps1 ps2 cns := by
  obtain ⟨ld, lu, T1, T2, v1, v2, cv, k, a, b, c, d, e, f, g, i⟩ := h
  obtain ⟨dn, k9, h1, t1, h2, t2, h3, t3, h4, t4, h5, t5, h6, t6, w2, w3, w5, w6, mn, md⟩ := a
  exact ⟨ld, lu, T1, T2, v1, v2, cv, k, ⟨dn, k9, h1, t1, h2, t2, h3, t3, h4, t4, h5, t5, h6, t6, w2, w3, w5, w6, K _ mn (by intro z; cases z), K _ md (by intro z; cases z)⟩, b.keep K, K _ c (by intro z; cases z), K _ d (by intro z; cases z), e.keep K, f.keep K, K _ g (by intro z; cases z), i⟩
end
theorem hop_ok {d : Nat → Int} {xs : List (List Int × Addr × Value)} (hAt : ∀ a b, (homeO d a b = none ∧ atKey xs [a, b] = none) ∨ ∃ x e t, homeO d a b = some x ∧ atKey xs [a, b] = some (e, .int x t)) {nm i k : Int} (hn : nm = 1 ∨ nm = 2 ∨ nm = 3) (h0 : 0 ≤ k) (h2 : k < 2) (hi : i = 1 + k) :
    ∃ lk e t, homeO d nm i = some lk ∧ atKey xs [nm, i] = some (e, .int lk t) := by
  have hs : homeO d nm i ≠ none := by
    rcases (by omega : k = 0 ∨ k = 1) with rfl | rfl <;> subst hi <;> rcases hn with rfl | rfl | rfl <;> (intro z; cases z)
  rcases hAt nm i with ⟨z, _⟩ | ⟨x, e, t, a, b⟩
  · exact absurd z hs
  · exact ⟨x, e, t, a, b⟩
inductive Bd : List Stmt → Prop
  | mk (b0 b1 b2 b3 b4 b5 b6 b7 b8 b9 b10 : Stmt) (k : Tok) (p1 p2 : Pos) : Bd [b0, b1, b2, b3, b4, b5, b6, b7, b8, b9, b10, .Return (some (.Constant (.bool true) k p1)) p2]
theorem mem_r1 {α : Type} {A O R : List α} {x e : α} {q : α} (h : q ∈ A ++ x :: e :: (O ++ R)) : q ∈ A ++ e :: (O ++ x :: R) :=
  sub_two (sub_l sub_id) (sub_cons (List.mem_append_right _ (.tail _ (List.mem_append_right _ (.head _)))) (sub_cons (List.mem_append_right _ (.head _)) (sub_r (sub_sk (sub_two (sub_l sub_id) (sub_r (sub_sk sub_id))))))) q h
theorem mem_r2 {α : Type} {A B R : List α} {x : α} {q : α} (h : q ∈ A ++ (B ++ R)) : q ∈ B ++ (A ++ x :: R) := sub_two (sub_r (sub_l sub_id)) (sub_two (sub_l sub_id) (sub_r (sub_r (sub_sk sub_id)))) q h
inductive Rs9 (l : List (Addr × Obj)) : Prop
  | mk (R9 : List (Addr × Obj)) (h1 : ∀ q ∈ l, q.1 ≠ 194 → q ∈ R9) (h2 : ∀ q ∈ R9, q ∈ l ∧ q.1 ≠ 194) : Rs9 l
theorem rs9 (l : List (Addr × Obj)) : Rs9 l := ⟨l.filter (fun q => decide (q.1 ≠ 194)), fun q hq h => List.mem_filter.mpr ⟨hq, decide_eq_true h⟩, fun q hq => ⟨(List.mem_filter.mp hq).1, of_decide_eq_true (List.mem_filter.mp hq).2⟩⟩
theorem far {D L l x : Addr} (hx : @Ne Nat D x) (h1 : @Ne Nat 194 x) (hl : @LT.lt Nat _ x l) : ∀ q : Addr × Obj, (q.1 = D ∨ q.1 = 194 ∨ @LT.lt Nat _ l q.1) → q.1 ≠ x := by
  intro q hq
  rcases hq with h | h | h
  · rw [h]; exact hx
  · rw [h]; exact h1
  · exact Nat.ne_of_gt (Nat.lt_trans hl h)
theorem st_rest {w : World} {oc dV kV doc pm cdv ct : Value} {an od : Option Addr} {osl : Array (Option Value)} {name qual : Str} {params : Arguments} {body bd : List Stmt} {scope : Scope}
  {p : Program} {loose : List Str} {mean : ExcName → Option Value} {mg mb : Str → Option Value} {base h₀ : Heap} {L : Addr} {m : Str → Option Value} {s : Shared} {cd : Value} {fa : Addr}
  {l D : Addr} {tk0 : Tok} {n0 : Nat} {ys : List Value} {ns : List Int} {o1 o2 o3 o4 : Obj} {Q : Flow → Shared → Prop} {E : Value → Shared → Prop}
  (B : Below callerA base [] h₀) (X : (hd.heap_39 w.params).In h₀) (T : Top p loose mean mg mb h₀) (hC : CodeHd base 198 194)
  (F : Fr h₀ L s.heap m)
  (N : News h₀ L s.heap ((L + 1, o1) :: (L + 1 + 1, o2) :: (L + 1 + 1 + 1, o3) :: (L + 1 + 1 + 1 + 1, o4) :: (l, W.listOf #[.ref D, .int 0 tk0] n0) :: (D, lst ys) :: (194, tabObj #[]) :: []))
  (c1 : @LT.lt Nat _ 194 L) (c2 : @LT.lt Nat _ (L + 1 + 1 + 1 + 1) l) (c3 : @LT.lt Nat _ D l) (nD2 : @Ne Nat D (L + 1 + 1)) (nD3 : @Ne Nat D (L + 1 + 1 + 1)) (nD4 : @Ne Nat D (L + 1 + 1 + 1 + 1))
  (d1 : o1.data = .cell (some (.ref l))) (d2 : o2.data = .cell none) (d3 : o3.data = .cell none) (d4 : o4.data = .cell none) (hys : IntsAre ys ns) (h14 : ns.length ≤ 14) (hbd : body.drop 1 = bd)
  (hret : ∀ m' h' tk', Fr h₀ L h' m' → GrownAt 194 h' → Q (.ret (.bool true)) { s with heap := h', toks := tk' }) :
  (hd.heap_39 w.params).lookup 204 = some ⟨oc, od, .func (fnOf name qual params body scope dV kV doc pm an cdv ct), osl⟩ →
  wpAny (model PySem.Challenge.rw_rh0207_01.row.prog w) (callerA.deeper (envOfC qual scope L fa cd)) (execs bd (envOfC qual scope L fa cd)) Q E s := by
  k_fill
  intro ho
  have hb : Bd body := by
    have e9 := fn_is (by k_is) ho
    cases e9
    exact Bd.mk _ _ _ _ _ _ _ _ _ _ _ _ _ _
  cases hb with | mk b0 b1 b2 b3 b4 b5 b6 b7 b8 b9 b10 k p1 p2 => ?_
  change [b1, b2, b3, b4, b5, b6, b7, b8, b9, b10, _] = bd at hbd
  subst hbd
  refine wpAny_mono (E := fun _ _ => False) ?_ (fun _ _ z => z) (fun _ _ f => f.elim)
  have hl4 : @LT.lt Nat _ (L + 1 + 1 + 1 + 1) l := c2
  refine wpAny_execs_cons ?_
  refine st_ends B X T F N ?hr rfl d2 ?_ ho
  case hr =>
    intro q hq
    simp only [List.mem_cons, List.not_mem_nil, or_false] at hq
    rcases hq with h | h | h <;> rw [h] <;> (show ¬ (@Eq Nat _ _)) <;> dsimp only <;> omega
  intro e0 rs h1 tk1 o2' hab F1 N1 d2' l1 l2
  have hrs : rs.length = 6 := by simpa using congrArg List.length hab
  have hl0 : @LT.lt Nat _ l e0 := l1 (l, W.listOf #[.ref D, .int 0 tk0] n0) (List.mem_of_getElem? (i := 4) rfl)
  replace N1 : News h₀ L h1 ((L + 1, o1) :: (L + 1 + 1, o2') :: (L + 1 + 1 + 1, o3) :: (L + 1 + 1 + 1 + 1, o4) :: (l, W.listOf #[.ref D, .int 0 tk0] n0) :: ((e0, lst (rs.map Pd.v)) :: (rs.map Pd.o ++ [(D, lst ys), (194, tabObj #[])]))) := cb_drop N1 (fun q hq => mem_r1 (A := [(L + 1, o1), (L + 1 + 1, o2'), (L + 1 + 1 + 1, o3), (L + 1 + 1 + 1 + 1, o4)]) (R := [(D, lst ys), (194, tabObj #[])]) hq)
  have p1 : ∀ q ∈ (e0, lst (rs.map Pd.v)) :: (rs.map Pd.o ++ [(D, lst ys), (194, tabObj #[])]), q.1 = D ∨ q.1 = 194 ∨ @LT.lt Nat _ l q.1 := by
    intro q hq
    simp only [List.mem_cons, List.mem_append, List.not_mem_nil, or_false] at hq
    rcases hq with h | h | h | h
    · rw [h]; exact .inr (.inr hl0)
    · obtain ⟨r, hr, rfl⟩ := List.mem_map.mp h
      exact .inr (.inr (Nat.lt_trans hl0 (l2 r hr)))
    · rw [h]; exact .inl rfl
    · rw [h]; exact .inr (.inl rfl)
  have me : (e0, W.listOf (rs.map Pd.v).toArray rs.length) ∈ (e0, lst (rs.map Pd.v)) :: (rs.map Pd.o ++ [(D, lst ys), (194, tabObj #[])]) := by
    have e9 : W.listOf (rs.map Pd.v).toArray rs.length = lst (rs.map Pd.v) := by unfold lst; rw [List.length_map]
    rw [e9]; exact .head _
  have mr : ∀ r ∈ rs, r.o ∈ (e0, lst (rs.map Pd.v)) :: (rs.map Pd.o ++ [(D, lst ys), (194, tabObj #[])]) := fun r hr => .tail _ (List.mem_append_left _ (List.mem_map_of_mem hr))
  have mD : (D, lst ys) ∈ (e0, lst (rs.map Pd.v)) :: (rs.map Pd.o ++ [(D, lst ys), (194, tabObj #[])]) := .tail _ (List.mem_append_right _ (.head _))
  have m194 : (194, tabObj #[]) ∈ (e0, lst (rs.map Pd.v)) :: (rs.map Pd.o ++ [(D, lst ys), (194, tabObj #[])]) := .tail _ (List.mem_append_right _ (.tail _ (.head _)))
  generalize (e0, lst (rs.map Pd.v)) :: (rs.map Pd.o ++ [(D, lst ys), (194, tabObj #[])]) = R1 at N1 p1 me mr mD m194
  have offl : ∀ q : Addr × Obj, (q.1 = D ∨ q.1 = 194 ∨ @LT.lt Nat _ l q.1) → q.1 ≠ l := by
    intro q hq
    rcases hq with h | h | h
    · rw [h]; exact Nat.ne_of_lt c3
    · rw [h]; exact Nat.ne_of_lt (Nat.lt_trans c1 (by omega))
    · exact Nat.ne_of_gt h
  have off3 := far (L := L) (x := L + 1 + 1 + 1) (l := l) nD3 (Nat.ne_of_lt (by omega)) (by omega)
  have off4 := far (L := L) (x := L + 1 + 1 + 1 + 1) (l := l) nD4 (Nat.ne_of_lt (by omega)) c2
  have hsz : (rs.map Pd.v).length ≤ sizeLine := by rw [List.length_map, hrs]; exact Nat.le_of_ble_eq_true rfl
  clear l1 l2 N F
  show wpAny _ _ (execs _ _) _ _ _
  refine wpAny_execs_cons ?_
  refine st_home B X T F1 N1 (fun q hq => off3 q (p1 q hq)) (fun q hq => offl q (p1 q hq)) rfl d1 d2' d3 hys h14 mD me mr hab hrs hl4 hsz ?_ ho
  intro rest2 hD qs o3' tki h2 tk2 F2 N2 s2 q2 hT hql hq d3'
  have p2 : ∀ q ∈ rest2, q.1 = D ∨ q.1 = 194 ∨ @LT.lt Nat _ l q.1 := fun q hq => (q2 q hq).elim (p1 q) fun z => .inr (.inr z)
  have me2 := s2 _ me
  have mr2 : ∀ r ∈ rs, r.o ∈ rest2 := fun r hr => s2 _ (mr r hr)
  have mD2 := s2 _ mD
  have m1942 := s2 _ m194
  clear F1 N1 p1 me mr mD m194 q2 s2
  show wpAny _ _ (execs _ _) _ _ _
  refine wpAny_execs_cons ?_
  refine st_links B X T F2 N2 rfl d2' d3' me2 mr2 hab hrs hsz hT hql hq ?_ ho
  intro rest3 lD T1 T2 v1 v2 h3 tk3 F3 N3 s3 q3 hI3 mT1 mT2 P1 P2
  have p3 : ∀ q ∈ rest3, q.1 = D ∨ q.1 = 194 ∨ @LT.lt Nat _ l q.1 := fun q hq => (q3 q hq).elim (p2 q) fun z => .inr (.inr z)
  have me3 := s3 _ me2
  have mr3 : ∀ r ∈ rs, r.o ∈ rest3 := fun r hr => s3 _ (mr2 r hr)
  have mD3 := s3 _ mD2
  have m1943 := s3 _ m1942
  have hT3 := hT.mono s3
  clear F2 N2 p2 me2 mr2 mD2 m1942 q3 s3 hT
  show wpAny _ _ (execs _ _) _ _ _
  refine wpAny_execs_cons ?_
  refine st_cuts B X T F3 N3 (fun q hq => offl q (p3 q hq)) rfl d1 hys h14 mD3 hl4 ?_ ho
  intro cD cv tk4i h4 tk4 F4 N4 n1 n2 hcv
  show wpAny _ _ (execs _ _) _ _ _
  refine wpAny_execs_cons ?_
  refine st_hops B X T F4 N4 ?hrl ?hr4 rfl d1 d4 hys h14 (.tail _ mD3) hl4 ?_ ho
  case hrl =>
    intro q hq
    rcases List.mem_cons.mp hq with h | hq
    · rw [h]; exact n1
    · exact offl q (p3 q hq)
  case hr4 =>
    intro q hq
    rcases List.mem_cons.mp hq with h | hq
    · rw [h]; exact n2
    · exact off4 q (p3 q hq)
  intro rest5 oD a b c o4' tk5i h5 tk5 F5 N5 s5 q5 hH ma mb' mc d4' ia ga ib gb ic gc
  have s35 : ∀ q ∈ rest3, q ∈ rest5 := fun q hq => s5 q (.tail _ hq)
  have mcD := s5 _ (.head _)
  have me5 := s35 _ me3
  have mr5 : ∀ r ∈ rs, r.o ∈ rest5 := fun r hr => s35 _ (mr3 r hr)
  have m1945 := s35 _ m1943
  have hT5 := hT3.mono s35
  have hI5 := hI3.mono s35
  have mT15 := s35 _ mT1
  have mT25 := s35 _ mT2
  have P15 := P1.mono s35
  have P25 := P2.mono s35
  clear F3 N3 p3 me3 mr3 mD3 m1943 hT3 hI3 mT1 mT2 P1 P2 F4 N4 n1 n2 s5 q5 s35
  have s6 : ∀ q ∈ rest5, q ∈ (L + 1, o1) :: (L + 1 + 1, o2') :: (L + 1 + 1 + 1, o3') :: (L + 1 + 1 + 1 + 1, o4') :: (l, W.listOf #[.ref D, .int 14 tk5i] n0) :: rest5 := fun q hq => .tail _ (.tail _ (.tail _ (.tail _ (.tail _ hq))))
  show wpAny _ _ (execs _ _) _ _ _
  refine wpAny_execs_cons ?_
  refine st_net B X T F5 N5 rfl rfl (hI5.mono s6) ?_ ho
  intro n dn lc wt ld w2 w3 w6 od9 t1 t2 t3 t4 t5 t6 h6 tk6 F6 N6 q1 q2 q3 q4 q5 hod lo
  show wpAny _ _ (execs _ _) _ _ _
  refine wpAny_execs_cons ?_
  refine st_cutloop (cs := selC (fun j => drawV ns j 3) 2) B X T F6 N6 rfl rfl rfl (s6 _ mcD) hcv (selC2 _) q1 q2 q3 q4 q5 ?_ ho
  intro m7 wt' cv' k2 t1' t2' t3' t4' t5' t6' h7 tk7 hm7 F7 N7 hcv'
  replace N7 : News h₀ L h7 ((L + 1, o1) :: (L + 1 + 1, o2') :: (L + 1 + 1 + 1, o3') :: (L + 1 + 1 + 1 + 1, o4') :: ((lc, W.listOf cv'.toArray k2) :: (ld, od9) :: (n, instObj 181 dn) :: (dn, netD w ld lc wt' w2 w3 w6 t1' t2' t3' t4' t5' t6') :: rest5)) := cb_drop N7 (fun q hq => mem_r2 (A := [(L + 1, o1), (L + 1 + 1, o2'), (L + 1 + 1 + 1, o3'), (L + 1 + 1 + 1 + 1, o4')]) (B := [(lc, W.listOf cv'.toArray k2), (ld, od9), (n, instObj 181 dn), (dn, netD w ld lc wt' w2 w3 w6 t1' t2' t3' t4' t5' t6')]) hq)
  have s8i : ∀ q ∈ rest5, q ∈ (lc, W.listOf cv'.toArray k2) :: (ld, od9) :: (n, instObj 181 dn) :: (dn, netD w ld lc wt' w2 w3 w6 t1' t2' t3' t4' t5' t6') :: rest5 := fun q hq => .tail _ (.tail _ (.tail _ (.tail _ hq)))
  have hNet : NetOk w ((lc, W.listOf cv'.toArray k2) :: (ld, od9) :: (n, instObj 181 dn) :: (dn, netD w ld lc wt' w2 w3 w6 t1' t2' t3' t4' t5' t6') :: rest5) n (selP (fun j => drawV ns j 3) 1 6) (selP (fun j => drawV ns j 3) 2 6) (selC (fun j => drawV ns j 3) 2) :=
    ⟨ld, lc, T1, T2, v1, v2, cv', k2, ⟨dn, _, _, _, _, _, _, _, _, _, _, _, _, _, _, _, _, _, .tail _ (.tail _ (.head _)), .tail _ (.tail _ (.tail _ (.head _)))⟩, ⟨lo, od9, .tail _ (.head _), hod⟩, s8i _ mT15, s8i _ mT25, P15.mono s8i, P25.mono s8i, .head _, hcv'⟩
  have mNet : m7 (Str.ofString "net") = some (.ref n) := (hm7 _ (by decide)).trans rfl
  have mCuts : m7 (Str.ofString "cuts") = some (.ref cD) := (hm7 _ (by decide)).trans rfl
  clear F5 N5 F6 N6 q1 q2 q3 q4 q5 s6
  show wpAny _ _ (execs _ _) _ _ _
  refine wpAny_execs_cons ?_
  refine st_addr B X T F7 N7 rfl d2' (s8i _ me5) (fun r hr => s8i _ (mr5 r hr)) hab hrs hsz ?_ ho
  intro rest8 aD qs8 h8 tk8 F8 N8 s8 hT8 hql8 hq8
  have hNet8 := hNet.mono s8
  have m1948 := s8 _ (s8i _ m1945)
  have s58 : ∀ q ∈ rest5, q ∈ rest8 := fun q hq => s8 q (s8i q hq)
  -- the ledger without the code table
  obtain ⟨R9, hR1, hR2⟩ := rs9 ((L + 1, o1) :: (L + 1 + 1, o2') :: (L + 1 + 1 + 1, o3') :: (L + 1 + 1 + 1 + 1, o4') :: rest8)
  have K1 : ∀ q ∈ rest8, q.2.cls ≠ .none → q ∈ R9 := fun q hq hc => hR1 q (.tail _ (.tail _ (.tail _ (.tail _ hq)))) fun h => hc (by
    obtain ⟨x, o⟩ := q
    have hx : x = 194 := h
    subst hx
    have e := news_fun N8 (.tail _ (.tail _ (.tail _ (.tail _ hq)))) (.tail _ (.tail _ (.tail _ (.tail _ m1948))))
    show o.cls = _
    rw [e])
  have l194 : (L + 1 + 1 + 1 + 1, o4').1 ≠ 194 := by (show ¬ (@Eq Nat _ _)); dsimp only; omega
  have l193 : (L + 1 + 1 + 1, o3').1 ≠ 194 := by (show ¬ (@Eq Nat _ _)); dsimp only; omega
  have m4R : (L + 1 + 1 + 1 + 1, o4') ∈ R9 := hR1 _ (.tail _ (.tail _ (.tail _ (.head _)))) l194
  have m3R : (L + 1 + 1 + 1, o3') ∈ R9 := hR1 _ (.tail _ (.tail _ (.head _))) l193
  have N9 : News h₀ L h8 ((194, tabObj #[]) :: (L + 1 + 1 + 1 + 1, o4') :: R9) := cb_drop N8 (by
    intro q hq
    rcases List.mem_cons.mp hq with h | hq
    · rw [h]; exact .tail _ (.tail _ (.tail _ (.tail _ m1948)))
    · rcases List.mem_cons.mp hq with h | hq
      · rw [h]; exact .tail _ (.tail _ (.tail _ (.head _)))
      · exact (hR2 q hq).1)
  have hr9 : ∀ q ∈ (L + 1 + 1 + 1 + 1, o4') :: R9, q.1 ≠ 194 := fun q hq => by
    rcases List.mem_cons.mp hq with h | hq
    · rw [h]; exact l194
    · exact (hR2 q hq).2
  have K5 : ∀ q ∈ rest5, q.2.cls ≠ .none → q ∈ R9 := fun q hq => K1 q (s58 q hq)
  have hNet9 := hNet8.keep K1
  have hT9 := hT5.keep K5
  have hH9 := hH.keep K5
  have hT89 := hT8.keep K1
  have mr9 : ∀ r ∈ rs, r.o ∈ R9 := fun r hr => K5 _ (mr5 r hr) (by intro z; cases z)
  have mcD9 : (cD, lst cv) ∈ R9 := K5 _ mcD (by intro z; cases z)
  have ma9 : a.h ∈ R9 := K5 _ ma (by intro z; cases z)
  have mb9 : b.h ∈ R9 := K5 _ mb' (by intro z; cases z)
  have mc9 : c.h ∈ R9 := K5 _ mc (by intro z; cases z)
  clear F7 N7 hNet hNet8 hT5 hH hT8 mr5 mcD ma mb' mc me5 hI5 mT15 mT25 P15 P25 m1945 m1948 s8i s8 s58 hR1 hR2 K1 K5 N8
  show wpAny _ _ (execs _ _) _ _ _
  refine wpAny_execs_cons ?_
  refine st_world B X T hC F8 N9 hr9 rfl mNet rfl d4' hH9 hT89 mr9 hab hrs hql8 ?hz hq8 ?_ ho
  case hz => rw [homeXs_len hql8, hrs]; exact Nat.le_of_ble_eq_true rfl
  intro wd rd ed x1 x2 x3 rest10 h10 tk10 F10 N10 s10 hW hE hIr r1 r2 r3 g10
  have sR : ∀ q ∈ R9, q ∈ rest10 := fun q hq => s10 q (.tail _ hq)
  have hAt := home_at (d := fun j => drawV ns j 3) hab hrs hql hq
  have hd : ∀ j : Nat, 0 ≤ (fun j : Nat => drawV ns j 3) j ∧ (fun j : Nat => drawV ns j 3) j < 3 := fun j => ⟨drawV_lo (by decide), drawV_hi (by decide)⟩
  show wpAny _ _ (execs _ _) _ _ _
  refine wpAny_execs_cons ?_
  refine st_outer B X T F10 N10 rfl mCuts rfl (sR _ m3R) d3' (sR _ m4R) d4' (sR _ mcD9) hcv (hT9.mono sR) hW (hNet9.mono sR) hE hIr (hH9.mono sR) hAt ?hop ?_ ho
  case hop =>
    intro nm hn
    have pick : ∃ (q : Hp) (x : Addr) (k1 k2 : Int), valueAt [((1 : Int), Value.ref a.hp), (2, .ref b.hp), (3, .ref c.hp)] nm = some (.ref q.hp) ∧ q.h ∈ R9 ∧ valueAt [((1 : Int), Value.ref x1), (2, .ref x2), (3, .ref x3)] nm = some (.ref x) ∧ RouterAt w p loose mean mg mb rest10 x q.hp ∧ q.i = 1 + drawV ns k1 2 ∧ q.g = gOf (drawV ns k2 7) := by
      rcases hn with rfl | rfl | rfl
      · exact ⟨a, x1, 8, 9, rfl, ma9, rfl, r1, ia, ga⟩
      · exact ⟨b, x2, 10, 11, rfl, mb9, rfl, r2, ib, gb⟩
      · exact ⟨c, x3, 12, 13, rfl, mc9, rfl, r3, ic, gc⟩
    obtain ⟨q, x, k1, k2, z1, z2, z3, z4, z5, z6⟩ := pick
    obtain ⟨lk, e, t, y1, y2⟩ := hop_ok hAt hn (drawV_lo (by decide)) (drawV_hi (by decide)) z5
    exact ⟨q.hp, x, e, q.i, q.g, lk, q.ti, q.tg, t, z1, sR _ z2, z3, z4, y2, plain1 hn, plain2 hd y1 (by rw [z6]; exact gOf_in (drawV_lo (by decide)) (drawV_hi (by decide)))⟩
  intro m11 h11 tk11 F11 N11
  show wpAny _ _ (execs _ _) _ _ _
  refine wpAny_execs_cons (wpAny_Return_some (wpAny_Constant_bool ?_))
  exact hret m11 h11 tk11 F11 (g10.elim fun ps z => ⟨ps, (N11 _ z).1⟩)
end
-- part SH
section
open PySem PySem.W PySem.Spec PySem.Calls PyProof.Rows PySem.SeqAt
set_option linter.all false
set_option maxRecDepth 100000
set_option maxHeartbeats 8000000
open PyProof.Rows.LCg PyProof.Rows.LCt
theorem perm8 {α : Type} {a b c d e f g i : α} : ∀ q ∈ [g, f, e, d, a, b, i], q ∈ [a, b, c, d, e, f, g, i] :=
  sub_cons (List.mem_of_getElem? (i := 6) rfl) (sub_cons (List.mem_of_getElem? (i := 5) rfl) (sub_cons (List.mem_of_getElem? (i := 4) rfl) (sub_cons (List.mem_of_getElem? (i := 3) rfl) (sub_cons (List.mem_of_getElem? (i := 0) rfl) (sub_cons (List.mem_of_getElem? (i := 1) rfl) (sub_cons (List.mem_of_getElem? (i := 7) rfl) (List.forall_mem_nil _)))))))
section
theorem go : PySem.Challenge.rw_rh0207_01.Holds := by
  w_top off
  k_with_none
  k_with "ne" => first | assumption | (refine neN ?_; (try dsimp only); first | assumption | exact Nat.ne_of_lt (lt_mem (by assumption) (by k_mem)) | exact Nat.ne_of_gt (lt_mem (by assumption) (by k_mem)) | exact Nat.ne_of_gt (lt_mem2 (by assumption) (by assumption) (by k_mem)) | exact And.left (by assumption) | exact Ne.symm (And.left (by assumption)) | exact And.left (And.right (by assumption)) | exact Ne.symm (And.left (And.right (by assumption))) | exact And.left (And.right (And.right (by assumption))) | exact Ne.symm (And.left (And.right (And.right (by assumption)))) | exact And.left (And.right (And.right (And.right (by assumption)))) | exact Ne.symm (And.left (And.right (And.right (And.right (by assumption))))) | exact And.left (And.right (And.right (And.right (And.right (by assumption))))) | exact Ne.symm (And.left (And.right (And.right (And.right (And.right (by assumption)))))) | exact Ne.symm (And.left (And.right (And.right (And.right (And.right (And.right (by assumption)))))))  | exact Ne.symm (And.left (And.right (And.right (And.right (And.right (And.right (And.right (by assumption)))))))) | omega)
  k_with "all" => first | assumption | exact List.forall_mem_nil _ | (refine' List.forall_mem_cons.mpr ⟨?a, ?b⟩; (case a => k_ne); (case b => k_all)) | exact lt_ne (by assumption) | exact lt_ne_succ (by assumption) | exact fun p hp => Nat.ne_of_lt (lt_at (by assumption) (by k_mem))
  k_with "mem" => first | assumption | exact List.Mem.head _ | (refine' List.Mem.tail _ ?_; k_mem)
  k_with "room" => first | exact lim2 (by assumption) (Nat.le_of_ble_eq_true rfl) | exact lim1 (by assumption) (Nat.le_of_ble_eq_true rfl) | exact lim0 (by assumption)
  k_with "execs cons" => (k_here; (with_reducible show wpAny _ _ (execs (Stmt.Assign _ (Expr.ListComp _ _ _ _) _ :: _) _) _ _ _); refine held ?_)
  exact hd (by
    k_go0
    k_steps
    unfold Held
    rename News _ _ _ _ => N9
    rename Fr _ _ _ _ => F9
    rename CodeHd _ _ _ => hC9
    rename Below _ _ _ _ => B9
    have N10 := cb_drop N9 perm8
    refine' st_rest ?B ?X ?T ?hC ?F ?N ?c1 ?c2 ?c3 ?n2 ?n3 ?n4 ?d1 ?d2 ?d3 ?d4 ?hys ?h14 ?hbd ?rr ?ho
    case B => exact B9
    case X => k_asm
    case T => k_asm
    case hC => exact hC9
    case F => exact F9
    case N => exact N10
    case ho => k_is
    case hys => assumption
    case h14 => rw [List.length_map, List.length_take]; exact Nat.min_le_left ..
    case hbd => rfl
    case c1 => first | assumption | exact And.left (by assumption)
    case c2 => exact And.left (And.right (And.right (by assumption)))
    case c3 => exact And.left (by assumption)
    case n4 => exact Ne.symm (And.left (And.right (by assumption)))
    case n3 => exact Ne.symm (And.left (And.right (And.right (by assumption))))
    case n2 => exact Ne.symm (And.left (And.right (And.right (And.right (by assumption)))))
    case d1 => assumption
    case d2 => exact Eq.trans (by assumption) rfl
    case d3 => exact Eq.trans (by assumption) rfl
    case d4 => exact Eq.trans (by assumption) rfl
    case rr =>
      intro m9 h9 tk9 F9 G9
      refine ⟨⟨.inl ⟨.bool true, .bool true, [], rfl, fun _ => ?r1, .bool _, ?r2, fun _ => ⟨.nil, fun _ h => nomatch h⟩⟩, fun b o e => F9.keep b o e, ?r3, ?r4⟩, G9, True.intro⟩
      case r1 => rfl
      case r2 => wrow_post
      case r3 => rfl
      case r4 => assumption)
end
end
end
end Mine
theorem PySem.Challenge.cw_rh0207_01_holds : PySem.Challenge.rw_rh0207_01.Holds := by
  exact Mine.go
