import PyProof.Rows.All
import Wide.All
import OpenK.AllK
import Wide.FinOn
import Lean
import PySem.Challenge.RW_nz0268_01
open PySem PySem.W PyProof.Rows
set_option Elab.async false
set_option linter.unusedVariables false
set_option maxRecDepth 100000

-- part Hd
namespace Mine
set_option maxRecDepth 100000 in
set_option maxHeartbeats 8000000 in
open_top hd for PySem.Challenge.rw_nz0268_01
end Mine

-- part B1
namespace Mine
structure Lib (w : World) (mean : ExcName → Option Value) (mg mb : Str → Option Value) (h : Heap) : Prop where
  K : (Mine.hd.heap_39 w.params).In h
  T : Top Mine.hd.view_39 (looseW Mine.hd.view_39 [Str.ofString "PostError"]) mean mg mb h
theorem Lib.keeps {w : World} {mean : ExcName → Option Value} {mg mb : Str → Option Value} {h h' : Heap} (Z : Lib w mean mg mb h) (k : ∀ b o, h.get? b = some o → h'.get? b = some o) : Lib w mean mg mb h' :=
  ⟨Z.K.keeps k, Z.T.keeps k⟩

/-- a relation of addresses and objects that hold -/
abbrev Rel := Addr → Obj → Prop
def Rel.le (φ : Rel) (h : Heap) : Prop := ∀ a o, φ a o → h.get? a = some o
def Rel.plus (φ : Rel) (tl : List (Addr × Obj)) : Rel := fun a o => φ a o ∨ (a, o) ∈ tl
theorem Rel.plus_nil (φ : Rel) : φ.plus [] = φ := by funext a o; simp [Rel.plus]
theorem Rel.plus_plus (φ : Rel) (t u : List (Addr × Obj)) : (φ.plus t).plus u = φ.plus (u ++ t) := by
  funext a o; simp only [Rel.plus, List.mem_append, eq_iff_iff]
  constructor
  · rintro ((h | h) | h) <;> simp [h]
  · rintro (h | h | h) <;> simp [h]
theorem Rel.le.keeps {φ : Rel} {h h' : Heap} (x : φ.le h) (k : ∀ b o, h.get? b = some o → h'.get? b = some o) : φ.le h' := fun a o e => k a o (x a o e)
def NewIn (h h' : Heap) (tl : List (Addr × Obj)) : Prop := ∀ p ∈ tl, h.get? p.1 = none ∧ h'.get? p.1 = some p.2
theorem NewIn.nil {h h' : Heap} : NewIn h h' [] := fun _ x => nomatch x
theorem Rel.le.plus {φ : Rel} {h : Heap} {tl : List (Addr × Obj)} (x : φ.le h) (y : ∀ p ∈ tl, h.get? p.1 = some p.2) : (φ.plus tl).le h := by
  rintro a o (e | e)
  · exact x a o e
  · exact y _ e
def Ret (s : Shared) (φ : Rel) (R : Result → Shared → Prop) (G : Rel → Value → Prop) : Prop :=
  ∀ h' tk v tl, (∀ b o, s.heap.get? b = some o → h'.get? b = some o) → NewIn s.heap h' tl → G (φ.plus tl) v → R (.ok (.ret v)) { s with heap := h', toks := tk }
/-- the call of f upon args ends, and what it hands on is good -/
def Spec (prog : Program) (w : World) (A : Around) (f : Addr) (args : List Value) (s : Shared) (φ : Rel) (G : Rel → Value → Prop) : Prop :=
  ∀ R, Ret s φ R G → codeAny (model prog w) A (.call (.ref f) ⟨args, []⟩) R s

theorem none_of_keeps {h h' : Heap} (k : ∀ b o, h.get? b = some o → h'.get? b = some o) {a : Addr} (e : h'.get? a = none) : h.get? a = none := by
  cases q : h.get? a with
  | none => rfl
  | some o => rw [k a o q] at e; cases e

theorem Fr.grow {h₀ h h' : Heap} {L : Addr} {m : Str → Option Value} (F : Fr h₀ L h m) (k : ∀ b o, h.get? b = some o → h'.get? b = some o) : Fr h₀ L h' m :=
  ⟨F.ns.keeps k, fun b o e => k b o (F.keep b o e), F.above⟩
theorem News.grow {h₀ h h' : Heap} {L : Addr} {news : List (Addr × Obj)} (N : News h₀ L h news) (k : ∀ b o, h.get? b = some o → h'.get? b = some o) : News h₀ L h' news :=
  fun p hp => ⟨k _ _ (N p hp).1, (N p hp).2⟩
theorem Fr.newNe {h₀ h : Heap} {L a : Addr} {m : Str → Option Value} (F : Fr h₀ L h m) (e : h.get? a = none) : a ≠ L := by
  rintro rfl; obtain ⟨o, _, _, ho, _⟩ := F.ns; rw [e] at ho; cases ho
theorem Fr.newBase {h₀ h : Heap} {L a : Addr} {m : Str → Option Value} (F : Fr h₀ L h m) (e : h.get? a = none) : h₀.get? a = none := none_of_keeps F.keep e
theorem News.more' {h₀ h h' : Heap} {L : Addr} {m : Str → Option Value} {news tl : List (Addr × Obj)} (F : Fr h₀ L h m) (N : News h₀ L h news) (k : ∀ b o, h.get? b = some o → h'.get? b = some o) (n : NewIn h h' tl) : News h₀ L h' (tl ++ news) := by
  intro p hp
  rcases List.mem_append.mp hp with hp | hp
  · exact ⟨(n p hp).2, Fr.newNe F (n p hp).1, Fr.newBase F (n p hp).1⟩
  · exact News.grow N k p hp
theorem News.off {h₀ h h' : Heap} {L : Addr} {news tl : List (Addr × Obj)} (N : News h₀ L h news) (n : NewIn h h' tl) : ∀ p ∈ tl, ∀ q ∈ news, p.1 ≠ q.1 := fun p hp q hq e => by
  have := (n p hp).1; rw [e, (N q hq).1] at this; cases this

section
variable {prog : Program} {w : World} {A : Around} {E : Value → Shared → Prop} {s : Shared}
/-- a call in a frame, by what is known of the function -/
theorem call_by {h₀ : Heap} {L f : Addr} {m : Str → Option Value} {news : List (Addr × Obj)} {args : List Value} {φ : Rel} {G : Rel → Value → Prop} {Q : Value → Shared → Prop}
    (F : Fr h₀ L s.heap m) (N : News h₀ L s.heap news) (S : Spec prog w A f args s φ G)
    (h : ∀ h' tk v tl, Fr h₀ L h' m → News h₀ L h' (tl ++ news) → (∀ b o, s.heap.get? b = some o → h'.get? b = some o) → (∀ p ∈ tl, ∀ q ∈ news, p.1 ≠ q.1) → G (φ.plus tl) v → Q v { s with heap := h', toks := tk }) :
    wpAny (model prog w) A (call (.ref f) args) Q E s :=
  wpAny_call (S _ fun h' tk v tl k n g => h h' tk v tl (Fr.grow F k) (News.more' F N k n) k (News.off N n) g)

theorem call_by0 {h₀ : Heap} {L f : Addr} {m : Str → Option Value} {news : List (Addr × Obj)} {args : List Value} {φ : Rel} {P : Value → Prop} {Q : Value → Shared → Prop}
    (F : Fr h₀ L s.heap m) (N : News h₀ L s.heap news) (S : Spec prog w A f args s φ (fun _ v => P v))
    (h : ∀ h' tk v, Fr h₀ L h' m → News h₀ L h' news → (∀ b o, s.heap.get? b = some o → h'.get? b = some o) → P v → Q v { s with heap := h', toks := tk }) :
    wpAny (model prog w) A (call (.ref f) args) Q E s :=
  wpAny_call (S _ fun h' tk v tl k n g => h h' tk v (Fr.grow F k) (News.grow N k) k g)

theorem enter {K : Frag} {R : Result → Shared → Prop} {name qual : Str} {params : Arguments} {body : List Stmt} {scope : Scope} {dV kV doc pm cdv ct oc : Value} {an od : Option Addr} {osl : Array (Option Value)} {f : Addr} {args : Args} {binds : List (Str × Value)}
    (X : K.In s.heap) (hlim : s.heap.NoLimit)
    (ho : K.lookup f = some ⟨oc, od, .func (fnOf name qual params body scope dV kV doc pm an cdv ct), osl⟩) (hcd : codeIn K cdv qual = true) (hroom : A.depth < recursionLimit)
    (hbind : BindsTo s (fnOf name qual params body scope dV kV doc pm an cdv ct) args binds) (hloc : ∀ y ∈ binds, scope.names.lookup y.1 = some .local)
    (h : ∀ L' h₁, Fr s.heap L' h₁ (fun y => binds.reverse.lookup y) →
      wpAny (model prog w) (A.deeper (envOf qual scope L' f cdv)) (execs body (envOf qual scope L' f cdv))
        (fun fl s' => R (.ok (.ret (match fl with | .ret v => v | _ => .none))) s') (fun _ _ => False)
        { s with heap := h₁, toks := s.toks + binds.length })
    (hco : scope.isCoroutine = false := by rfl) (hgen : scope.isGenerator = false := by rfl) (hk : scope.kind = .function := by rfl)
    (hcell : ∀ x ∈ scope.names, x.2 ≠ .cell := by decide) : codeAny (model prog w) A (.call (.ref f) args) R s := by
  refine codeAny_call_def (fd := fnOf name qual params body scope dV kV doc pm an cdv ct) (body := body) (binds := binds) hroom (X _ _ ho) rfl hlim (codeRec_of X hcd) rfl hbind hcell hloc (fun h₁ hns hk₁ => ?_) hco hgen hk
  exact wpAny_mono (h _ h₁ ⟨hns, hk₁, Nat.le_refl _⟩) (fun _ _ x => x) (fun _ _ x => x.elim)
end

set_option hygiene false in
local macro_rules | `(tactic| walk_at "my enter") => `(tactic| ((case k1 => k_asm); (case k2 => exact Top.nolimit (by k_asm)); (case k6 => k_is); (case k7 => k_is); (case k8 => first | assumption | omega); (case k9 => exact BindsTo.of_eq rfl); (case c5 => decide); (case kB => exact locs rfl); (case c2 => exact rfl); (case c3 => exact rfl); (case c4 => exact rfl); k_whole; intro L h₁ F; (try dsimp only [List.reverse, List.reverseAux]); (have N : News s.heap L h₁ [] := News.nil)))
set_option pp.deepTerms false
set_option pp.deepTerms.threshold 4

/-- the text of an end -/
def endTxt (n : Int) : Str := if n = 0 then Str.ofString "*" else Str.ofString (toString n)
def pairTxt (p : Int × Int) : Str := if p.1 = p.2 then endTxt p.1 else endTxt p.1 ++ Str.ofString ":" ++ endTxt p.2
def Small (n : Int) : Prop := 0 ≤ n ∧ n < 10 ^ 10
theorem endTxt_pos {n : Int} (h : 0 ≤ n) : 1 ≤ (endTxt n).length := by
  unfold endTxt
  split
  · decide
  · rw [PySem.ofString_length]
    obtain ⟨k, rfl⟩ := Int.eq_ofNat_of_zero_le h
    show 1 ≤ (Nat.repr k).length
    exact Nat.length_repr_pos
theorem endTxt_le {n : Int} (h : Small n) : (endTxt n).length ≤ 11 := by
  unfold endTxt
  split
  · decide
  · rw [PySem.ofString_length]; exact int_text_length_le10 (by decide) (by have := h.1; have := h.2; omega)

/-- v is a pair -/
def PairR (φ : Rel) (v : Value) (p : Int × Int) : Prop := ∃ a t u n, v = .ref a ∧ φ a { cls := .type "tuple", data := .seq #[.int p.1 t, .int p.2 u] n }
theorem PairR.mono {φ ψ : Rel} (h : ∀ a o, φ a o → ψ a o) {v : Value} {p : Int × Int} : PairR φ v p → PairR ψ v p
  | ⟨a, t, u, n, e, x⟩ => ⟨a, t, u, n, e, h _ _ x⟩

set_option maxHeartbeats 4000000 in
theorem show_end_spec {w : World} {s : Shared} {A : Around} {mean : ExcName → Option Value} {mg mb : Str → Option Value} {n : Int} {t : Tok} {φ : Rel}
    (Z : Lib w mean mg mb s.heap) (hd : A.depth < recursionLimit) (h0 : Small n) :
    Spec PySem.Challenge.rw_nz0268_01.row.prog w A 68 [.int n t] s φ (fun _ v => ∃ t, v = .str (endTxt n) t) := by
  w_top off
  intro R hR
  obtain ⟨X, T⟩ := Z
  revert X; k_fill; intro X
  refine' enter (binds := [(Str.ofString "number", .int n t)]) ?k1 ?k2 ?k6 ?k7 ?k8 ?k9 ?kB ?_ ?c2 ?c3 ?c4 ?c5
  walk_at "my enter"
  obtain ⟨h0, h1⟩ := h0
  k_steps
  · exact hR _ _ _ [] F.keep .nil ⟨_, by rw [endTxt, if_pos (by assumption)]⟩
  · exact hR _ _ _ [] F.keep .nil ⟨_, by rw [endTxt, if_neg (by assumption)]⟩

local macro_rules | `(tactic| walk_at "call ref") => `(tactic| (k_here; (with_reducible show wpAny _ _ (call (Value.ref 68) [Value.int _ _]) _ _ _); (refine' call_by0 ?k1 ?k2 (show_end_spec (φ := fun _ _ => False) ?k3 ?k4 ?k5) ?_; (case k1 => k_asm); (case k2 => k_asm); (case k3 => exact Lib.mk (Frag.In.keeps (by k_asm) (Fr.keep (by k_asm))) (Top.keeps (by k_asm) (Fr.keep (by k_asm)))); (case k4 => first | assumption | (simp only [depth_deeper]; omega)); (case k5 => assumption); k_whole); intro h' tk' v' F' N' k' g'; clear k'; obtain ⟨t', e'⟩ := g'; subst e'; try k_sweep))
set_option maxHeartbeats 4000000 in
theorem show_pair_spec {w : World} {s : Shared} {A : Around} {mean : ExcName → Option Value} {mg mb : Str → Option Value} {p : Int × Int} {v : Value} {φ : Rel}
    (Z : Lib w mean mg mb s.heap) (hd : A.depth + 1 < recursionLimit) (hφ : φ.le s.heap) (hv : PairR φ v p) (h1 : Small p.1) (h2 : Small p.2) :
    Spec PySem.Challenge.rw_nz0268_01.row.prog w A 75 [v] s φ (fun _ v => ∃ t, v = .str (pairTxt p) t) := by
  intro R hR
  obtain ⟨X, T⟩ := Z
  obtain ⟨a, t, u, n, rfl, ha⟩ := hv
  obtain ⟨p, q⟩ := p
  have hP : IsTup s.heap a #[.int p t, .int q u] := ⟨_, hφ _ _ ha, rfl, _, rfl⟩
  revert X; k_fill; intro X
  refine' enter (binds := [(Str.ofString "pair", .ref a)]) ?k1 ?k2 ?k6 ?k7 ?k8 ?k9 ?kB ?_ ?c2 ?c3 ?c4 ?c5
  walk_at "my enter"
  dsimp only at h1 h2
  have l1 := endTxt_le h1
  have l2 := endTxt_le h2
  k_steps
  · rename Fr _ _ _ _ => F
    exact hR _ _ _ [] F.keep .nil ⟨_, by rw [pairTxt, if_pos (by assumption)]⟩
  · rename Fr _ _ _ _ => F
    exact hR _ _ _ [] F.keep .nil ⟨_, by rw [pairTxt, if_neg (by assumption)]⟩

def lawPair (c : Int) : Int × Int :=
  ([0, 7, 10, 4294967295, 1 + (c.fdiv 36).fmod 99999, 12345].getD (c.fmod 6).toNat 0, [0, 7, 10, 4294967295, 1 + (c.fdiv 36).fmod 99999, 12345].getD ((c.fdiv 6).fmod 6).toNat 0)
theorem small_getD {l : List Int} (h : ∀ x ∈ l, Small x) (i : Nat) : Small (l.getD i 0) := by
  rw [List.getD_eq_getElem?_getD]
  cases q : l[i]? with
  | none => exact ⟨by decide, by decide⟩
  | some x => exact h x (List.mem_of_getElem? q)
theorem lawPair_small (c : Int) : Small (lawPair c).1 ∧ Small (lawPair c).2 := by
  have h : ∀ x ∈ [0, 7, 10, 4294967295, 1 + (c.fdiv 36).fmod 99999, 12345], Small x := by
    have h1 := Int.fmod_nonneg_of_pos (c.fdiv 36) (b := 99999) (by decide)
    have h2 := Int.fmod_lt_of_pos (c.fdiv 36) (b := 99999) (by decide)
    intro x hx
    simp only [List.mem_cons, List.not_mem_nil, or_false] at hx
    rcases hx with rfl | rfl | rfl | rfl | rfl | rfl <;> exact ⟨by omega, by omega⟩
  exact ⟨small_getD h _, small_getD h _⟩

set_option maxHeartbeats 4000000 in
theorem law_pair_spec {w : World} {s : Shared} {A : Around} {mean : ExcName → Option Value} {mg mb : Str → Option Value} {c : Int} {t : Tok} {φ : Rel}
    (Z : Lib w mean mg mb s.heap) (hd : A.depth < recursionLimit) :
    Spec PySem.Challenge.rw_nz0268_01.row.prog w A 94 [.int c t] s φ (fun ψ v => PairR ψ v (lawPair c)) := by
  intro R hR
  obtain ⟨X, T⟩ := Z
  revert X; k_fill; intro X
  refine' enter (binds := [(Str.ofString "cell", .int c t)]) ?k1 ?k2 ?k6 ?k7 ?k8 ?k9 ?kB ?_ ?c2 ?c3 ?c4 ?c5
  walk_at "my enter"
  k_steps
  rename Fr _ _ _ _ => F
  rename News _ _ _ _ => N
  exact hR _ _ _ _ F.keep (fun p hp => ⟨(N p hp).2.2, (N p hp).1⟩) ⟨_, _, _, _, rfl, Or.inr (.head _)⟩
end Mine

-- part C1
namespace Mine
section
variable {prog : Program} {w : World} {A : Around} {s : Shared}

/-- here the walk stops -/
structure Stop (p : Prop) : Prop where
  go : p
/-- the value can be walked, item by item -/
def IterOf (prog : Program) (w : World) (A : Around) (xv : Value) (s₁ : Shared) (n : Nat) (P : Nat → Value → Prop) : Prop :=
  ∀ (Q E : Value → Shared → Prop), (∀ I fp St h, (∀ b o, s₁.heap.get? b = some o → h.get? b = some o) → s₁.heap.get? I = none → Walks prog w A I fp [I] n P St → (∀ i h, St i h → ∃ o, h.get? I = some o) → St 0 h →
    (∀ b ∈ fp, b < h.objs.size) → (∀ b ∈ fp, b ≠ I → ∃ o, s₁.heap.get? b = some o ∧ (o.cls = .type "tuple" ∨ o.cls = .type "list")) → Q (.ref I) { s₁ with heap := h }) → wpAny (model prog w) A (pyIter xv) Q E s₁

theorem get_none_size (h : Heap) : h.get? h.objs.size = none := by
  cases e : h.get? h.objs.size with
  | none => rfl
  | some o => exact absurd (Heap.lt_size e) (Nat.lt_irrefl _)

theorem IterOf.tuple (hh : A.handled = none) {a : Addr} {items : Array Value} (ht : IsTup s.heap a items) : IterOf prog w A (.ref a) s items.size (fun i v => items[i]? = some v) := by
  intro Q E h
  have hlt : a < s.heap.objs.size := ht.lt
  obtain ⟨o, ho, hc, n, hd⟩ := id ht
  refine wpAny_pyIter_tuple ht ?_
  refine h _ [s.heap.objs.size, a] _ _ (fun b o e => Heap.get?_push_of_some _ e) (get_none_size _) (Walks.tuple hh _ a (Nat.ne_of_lt hlt) items) (fun i h x => by obtain ⟨⟨o, e, _⟩, _⟩ := x; exact ⟨o, e⟩) ⟨⟨_, Heap.get?_push_size _ rfl, rfl, rfl⟩, ht.push _⟩ ?_ ?_
  · intro b hb
    rw [Heap.size_push]
    rcases List.mem_cons.mp hb with rfl | hb
    · exact Nat.lt_succ_self _
    · rw [List.mem_singleton.mp hb]; exact Nat.lt_succ_of_lt hlt
  · intro b hb hne
    rcases List.mem_cons.mp hb with rfl | hb
    · exact absurd rfl hne
    · rw [List.mem_singleton.mp hb]; exact ⟨o, ho, .inl hc⟩
theorem IterOf.list (hh : A.handled = none) {a : Addr} {items : Array Value} (ht : s.heap.IsList a items) : IterOf prog w A (.ref a) s items.size (fun i v => items[i]? = some v) := by
  intro Q E h
  obtain ⟨o, ho, hc, n, hd⟩ := id ht
  have hlt : a < s.heap.objs.size := Heap.lt_size ho
  refine wpAny_pyIter_list ht ?_
  refine h _ [s.heap.objs.size, a] _ _ (fun b o e => Heap.get?_push_of_some _ e) (get_none_size _) (Walks.list hh _ a (Nat.ne_of_lt hlt) items) (fun i h x => by obtain ⟨⟨o, e, _⟩, _⟩ := x; exact ⟨o, e⟩) ⟨⟨_, Heap.get?_push_size _ rfl, rfl, rfl⟩, ht.push _⟩ ?_ ?_
  · intro b hb
    rw [Heap.size_push]
    rcases List.mem_cons.mp hb with rfl | hb
    · exact Nat.lt_succ_self _
    · rw [List.mem_singleton.mp hb]; exact Nat.lt_succ_of_lt hlt
  · intro b hb hne
    rcases List.mem_cons.mp hb with rfl | hb
    · exact absurd rfl hne
    · rw [List.mem_singleton.mp hb]; exact ⟨o, ho, .inr hc⟩
theorem IterOf.range (hh : A.handled = none) {r : Addr} {a b c : Int} {t u v : Tok} {n : Nat} (hr : IsRange s.heap r a b c t u v) (hsm : Builtin.Range.small a b c = true) (hn : Builtin.Range.rangeSize a b c = (n : Int)) :
    IterOf prog w A (.ref r) s n (fun i v => ∃ t, v = .int (a + i * c) t) := by
  intro Q E h
  refine wpAny_pyIter_range hr hsm ?_
  refine h _ [s.heap.objs.size] _ _ (fun b o e => Heap.get?_push_of_some _ e) (get_none_size _) (Walks.range hh _ a c n) (fun i h x => ⟨_, x⟩) (by show IsRangeIter _ _ _ _ _; rw [hn]; simpa using Heap.get?_push_size _ rfl) ?_ ?_
  · intro b hb
    rw [Heap.size_push, List.mem_singleton.mp hb]; exact Nat.lt_succ_self _
  · intro b hb hne
    exact absurd (List.mem_singleton.mp hb) hne

theorem elt_news {h₀ h₁ h : Heap} {L C : Addr} {oC : Obj} {m : Str → Option Value} (F : Fr h₀ L h₁ m) (e : h.get? C = some oC) (hC : h₁.get? C = none) : News h₀ L h [(C, oC)] := fun p hp => by
  obtain rfl := List.mem_singleton.mp hp
  exact ⟨e, Fr.newNe F hC, Fr.newBase F hC⟩

theorem comp_loop {elt iter : Expr} {x : Str} {px : Pos} {scope : Scope} {pos : Pos} {I D : Addr} {fp : List Addr} {n : Nat} {P : Nat → Value → Prop} {St : Nat → Heap → Prop}
    {cenv : Env} {m : Str → Option Value} {R : Result → Shared → Prop} (W : Walks prog w A I fp [I] n P St) (hlive : ∀ i h, St i h → ∃ o, h.get? I = some o)
    (G : List (Addr × Obj) → Nat → Value → Prop) (hG : ∀ tl tl' i y, (∀ p ∈ tl, p ∈ tl') → G tl i y → G tl' i y)
    (hx : cenv.kindOf x = some .local) (hp : (cenv.scope.kind == .class || (cenv.scope.kind == .module && cenv.locals != cenv.globals)) = false)
    (hDC : D ≠ cenv.locals) (hDf : D ∉ fp) (hCf : cenv.locals ∉ fp)
    (hst : St 0 s.heap) (hacc : s.heap.PlainList D #[]) (hn : s.heap.Ns cenv.locals m)
    (helt : ∀ i v s₂ m₂, i < n → P i v → s₂.heap.Ns cenv.locals m₂ → m₂ x = some v → (∀ b o, b ≠ cenv.locals → b ≠ I → b ≠ D → s.heap.get? b = some o → s₂.heap.get? b = some o) → (∃ h tk, s₂ = { s with heap := h, toks := tk }) →
      wpAny (model prog w) A (eval elt cenv) (fun y s₃ => ∃ h' tk tl, s₃ = { s₂ with heap := h', toks := tk } ∧ (∀ b o, s₂.heap.get? b = some o → h'.get? b = some o) ∧ NewIn s₂.heap h' tl ∧ G tl i y) (notedBy (model prog w) A cenv fun e s' => R (.error e) s') s₂)
    (hR : ∀ h' tk m' (ys : List Value) tl, h'.Ns cenv.locals m' → h'.PlainList D ys.toArray → ys.length = n → (∀ p ∈ tl, p.1 ≠ cenv.locals ∧ p.1 ≠ I ∧ p.1 ≠ D ∧ s.heap.get? p.1 = none ∧ h'.get? p.1 = some p.2) → (∀ (j : Nat) y, ys[j]? = some y → G tl j y) →
      (∀ b o, b ≠ cenv.locals → b ≠ I → b ≠ D → s.heap.get? b = some o → h'.get? b = some o) → R (.ok .next) { s with heap := h', toks := tk })
    (hsz : n ≤ sizeLine) :
    codeAny (model prog w) A (.compLoop (.ListComp elt [⟨.Name x px, iter, [], 0⟩] scope pos) 0 (.ref I) (.ref D) cenv) R s := by
  have hIf : I ∈ fp := W.sub I (List.mem_singleton.mpr rfl)
  have hCI : cenv.locals ≠ I := fun e => hCf (e ▸ hIf)
  have hDI : D ≠ I := fun e => hDf (e ▸ hIf)
  refine codeAny_compLoop_tests
    (fun k s' => ∃ h' tk m' tl, ∃ ys : List Value, s' = { s with heap := h', toks := tk } ∧ St ys.length h' ∧ h'.PlainList D ys.toArray ∧ h'.Ns cenv.locals m' ∧ ys.length ≤ n ∧ k = n + 1 - ys.length ∧
      (∀ p ∈ tl, p.1 ≠ cenv.locals ∧ p.1 ≠ I ∧ p.1 ≠ D ∧ s.heap.get? p.1 = none ∧ h'.get? p.1 = some p.2) ∧ (∀ (j : Nat) y, ys[j]? = some y → G tl j y) ∧
      (∀ b o, b ≠ cenv.locals → b ≠ I → b ≠ D → s.heap.get? b = some o → h'.get? b = some o)) ?_ (n + 1)
    ⟨s.heap, s.toks, m, [], [], rfl, hst, hacc, hn, Nat.zero_le _, rfl, (fun _ h => nomatch h), (fun j y h => by simp at h), fun _ _ _ _ _ e => e⟩
  rintro k s' ⟨H, tk, m', tl, ys, rfl, hst', hacc', hn', hi, rfl, htl, hys, hk⟩
  by_cases hlt : ys.length < n
  · refine W.item ys.length _ _ _ hlt hst' fun v h₁ tk₁ hPv hst₁ hk₁ => ?_
    refine wpAny_assign_Name (wpAny_storeName_local hx (hn'.at' fun o e => hk₁ _ o (by simpa using hCI) e) (fun h₂ hn₂ hs₂ => ?_) hp)
    refine wpAny_tests_nil ?_
    simp only [if_true]
    have up₂ : ∀ b o, b ≠ cenv.locals → b ≠ I → H.get? b = some o → h₂.get? b = some o := fun b o hbC hbI e => hs₂.extBut b o hbC (hk₁ b o (by simpa using hbI) e)
    have hst₂ : St (ys.length + 1) h₂ := W.frame _ _ _ hst₁ fun b hb o e => hs₂.extBut b o (fun h => hCf (h ▸ hb)) e
    refine wpAny_mono (helt ys.length v _ _ hlt hPv hn₂ (by simp) (fun b o hbC hbI hbD e => up₂ b o hbC hbI (hk b o hbC hbI hbD e)) ⟨_, _, rfl⟩) (fun y s₃ h₃ => ?_) fun _ _ e => e
    obtain ⟨h₃, tk₃, tl₃, rfl, hk₃, hnew, hy⟩ := h₃
    have hst₃ : St (ys.length + 1) h₃ := W.frame _ _ _ hst₂ fun b _ o e => hk₃ b o e
    have hacc₂ : h₂.PlainList D ys.toArray := hacc'.at fun o e => up₂ D o hDC hDI e
    have hacc₃ : h₃.PlainList D ys.toArray := hacc₂.at fun o e => hk₃ _ o e
    have hn₃ := hn₂.keeps hk₃
    have hys' : ys.toArray.size ≤ sizeLine := by rw [List.size_toArray]; omega
    refine wpAny_list_append_plain (hsz := hys') hacc₃ fun h₅ hl₅ hs₅ => ?_
    have off : ∀ p ∈ tl₃, p.1 ≠ cenv.locals ∧ p.1 ≠ I ∧ p.1 ≠ D ∧ s.heap.get? p.1 = none := fun p hp => by
      have e0 := (hnew p hp).1
      refine ⟨fun q => ?_, fun q => ?_, fun q => ?_, ?_⟩
      · obtain ⟨o, _, _, ho, _⟩ := hn₂; rw [← q, e0] at ho; cases ho
      · obtain ⟨o, ho⟩ := hlive _ _ hst₂; rw [← q, e0] at ho; cases ho
      · obtain ⟨o, ho⟩ := hacc₂; rw [← q, e0] at ho; cases ho
      · cases e : s.heap.get? p.1 with
        | none => rfl
        | some o =>
          by_cases q1 : p.1 = cenv.locals
          · obtain ⟨o, _, _, ho, _⟩ := hn₂; rw [← q1, e0] at ho; cases ho
          · by_cases q2 : p.1 = I
            · obtain ⟨o, ho⟩ := hlive _ _ hst₂; rw [← q2, e0] at ho; cases ho
            · by_cases q3 : p.1 = D
              · obtain ⟨o, ho⟩ := hacc₂; rw [← q3, e0] at ho; cases ho
              · have := up₂ _ o q1 q2 (hk _ o q1 q2 q3 e); rw [e0] at this; cases this
    refine ⟨n + 1 - (ys.length + 1), by omega, h₅, tk₃, _, tl₃ ++ tl, ys ++ [y], rfl, ?_, ?_, hn₃.sameBut hs₅ (Ne.symm hDC), by rw [List.length_append, List.length_singleton]; exact hlt, by rw [List.length_append, List.length_singleton], ?_, ?_, ?_⟩
    · rw [List.length_append, List.length_singleton]
      exact W.frame _ _ h₅ hst₃ fun b hb o e => hs₅.extBut b o (fun h => hDf (h ▸ hb)) e
    · rw [← List.push_toArray]; exact hl₅
    · intro p hp
      rcases List.mem_append.mp hp with hp | hp
      · obtain ⟨a1, a2, a3, a4⟩ := off p hp
        exact ⟨a1, a2, a3, a4, hs₅.extBut _ _ a3 (hnew p hp).2⟩
      · obtain ⟨a1, a2, a3, a4, a5⟩ := htl p hp
        exact ⟨a1, a2, a3, a4, hs₅.extBut _ _ a3 (hk₃ _ _ (up₂ _ _ a1 a2 a5))⟩
    · intro j z hz
      rcases Nat.lt_trichotomy j ys.length with h | h | h
      · rw [List.getElem?_append_left h] at hz
        exact hG _ _ _ _ (fun p hp => List.mem_append_right _ hp) (hys j z hz)
      · subst h; simp at hz; subst hz
        exact hG _ _ _ _ (fun p hp => List.mem_append_left _ hp) hy
      · rw [List.getElem?_eq_none (by rw [List.length_append, List.length_singleton]; omega)] at hz; cases hz
    · exact fun b o hbC hbI hbD e => hs₅.extBut b o hbD (hk₃ b o (up₂ b o hbC hbI (hk b o hbC hbI hbD e)))
  · have hin : ys.length = n := by omega
    refine W.done _ _ _ (hin ▸ hst') fun h₁ tk₁ hk₁ => ?_
    exact hR h₁ tk₁ m' ys tl (hn'.at' fun o e => hk₁ _ o (by simpa using hCI) e) (hacc'.at fun o e => hk₁ _ o (by simpa using hDI) e) hin
      (fun p hp => by obtain ⟨a1, a2, a3, a4, a5⟩ := htl p hp; exact ⟨a1, a2, a3, a4, hk₁ _ _ (by simpa using a2) a5⟩) hys
      fun b o hbC hbI hbD e => hk₁ b o (by simpa using hbI) (hk b o hbC hbI hbD e)
end

section
variable {prog : Program} {w : World} {A : Around} {E : Value → Shared → Prop} {s : Shared} {env : Env}
/-- what an element's evaluation does -/
def EltOk (prog : Program) (w : World) (A : Around) (env : Env) (elt : Expr) (x : Str) (scope : Scope) (cl : List (Str × Addr)) (s₁ : Shared) (n : Nat) (P : Nat → Value → Prop) (G : List (Addr × Obj) → Nat → Value → Prop) : Prop :=
  ∀ i v C h tk m₂ (E' : Value → Shared → Prop), i < n → P i v → h.Ns C m₂ → m₂ x = some v → s₁.heap.get? C = none → (∀ b o, s₁.heap.get? b = some o → h.get? b = some o) →
    wpAny (model prog w) A (eval elt (compEnvC scope cl C env)) (fun y s₃ => Stop (∃ h' tk' tl, s₃ = { s₁ with heap := h', toks := tk' } ∧ (∀ b o, h.get? b = some o → h'.get? b = some o) ∧ NewIn h h' tl ∧ G tl i y)) E' { s₁ with heap := h, toks := tk }

theorem comp_block {elt iter : Expr} {x : Str} {px : Pos} {scope : Scope} {cl : List (Str × Addr)} {pos : Pos} {s₁ : Shared} {h₂ : Heap} {I : Addr} {fp : List Addr} {n : Nat} {P : Nat → Value → Prop}
    {St : Nat → Heap → Prop} (W : Walks prog w A I fp [I] n P St) (hlive : ∀ i h, St i h → ∃ o, h.get? I = some o) (hsz : n ≤ sizeLine) {RR : Value → Addr → Result → Shared → Prop}
    (G : List (Addr × Obj) → Nat → Value → Prop) (hG : ∀ tl tl' i y, (∀ p ∈ tl, p ∈ tl') → G tl i y → G tl' i y)
    (hcell : ∀ y ∈ scope.names, y.2 ≠ .cell) (hkind : scope.kind = .function) (hx : scope.names.lookup x = some .local) (hst : St 0 h₂) (hfp : ∀ b ∈ fp, b < h₂.objs.size)
    (hk₀ : ∀ b o, s₁.heap.get? b = some o → h₂.get? b = some o) (hI : s₁.heap.get? I = none)
    (hq : EltOk prog w A env elt x scope cl s₁ n P G)
    (hRR : ∀ D C h' tk m' (ys : List Value) tl, s₁.heap.get? D = none → s₁.heap.get? C = none → D ≠ C → h'.Ns C m' → h'.PlainList D ys.toArray → ys.length = n → (∀ p ∈ tl, p.1 ≠ C ∧ p.1 ≠ D ∧ s₁.heap.get? p.1 = none ∧ h'.get? p.1 = some p.2) → (∀ (j : Nat) y, ys[j]? = some y → G tl j y) →
      (∀ b o, s₁.heap.get? b = some o → h'.get? b = some o) → RR (.ref D) C (.ok .next) { s₁ with heap := h', toks := tk }) :
    wpAny (model prog w) A (newList []) (fun acc s₃ => wpAny (model prog w) A (newFunctionEnv scope env.globals cl [] env.qual none .none (some env)) (fun cenv s₄ =>
      codeAny (model prog w) A (.compStart (.ListComp elt [⟨.Name x px, iter, [], 0⟩] scope pos) 0 (.ref I) acc { cenv with scope := relabel scope env }) (RR acc cenv.locals) s₄) E s₃) E { s₁ with heap := h₂ } := by
  refine wpAny_newObj_type (wpAny_newFunctionEnv hcell (by intro y hy; simp at hy) (fun h₁ hns₁ hsb₁ => ?_) hkind)
  dsimp only at hns₁ hsb₁ ⊢
  generalize hH2 : h₂.push { cls := .type "list", dict := none, data := .seq ([] : List Value).toArray } = H2 at hns₁ hsb₁ ⊢
  have hC : H2.objs.size = h₂.objs.size + 1 := by rw [← hH2, Heap.size_push]
  have hDC : h₂.objs.size ≠ H2.objs.size := by rw [hC]; exact Nat.ne_of_lt (Nat.lt_succ_self _)
  have below : ∀ b, b < h₂.objs.size → b ≠ H2.objs.size ∧ b ≠ h₂.objs.size := fun b hb => ⟨by rw [hC]; exact Nat.ne_of_lt (Nat.lt_succ_of_lt hb), Nat.ne_of_lt hb⟩
  have hDf : h₂.objs.size ∉ fp := fun hm => Nat.lt_irrefl _ (hfp _ hm)
  have hCf : H2.objs.size ∉ fp := fun hm => by have := hfp _ hm; rw [hC] at this; exact Nat.lt_irrefl _ (Nat.lt_of_succ_lt this)
  have old : ∀ b o, h₂.get? b = some o → h₁.get? b = some o := fun b o e => hsb₁.extBut b o (below b (Heap.lt_size e)).1 (Heap.get?_push_of_some _ (hH2 ▸ Heap.get?_push_of_some _ e))
  have hacc : h₁.PlainList h₂.objs.size #[] := ⟨_, hsb₁.extBut _ _ hDC (Heap.get?_push_of_some _ (hH2 ▸ Heap.get?_push_size _ rfl))⟩
  have hst₁ : St 0 h₁ := W.frame _ _ _ hst fun b _ o e => old b o e
  have fresh : ∀ a, h₂.objs.size ≤ a → h₂.get? a = none := fun a ha => by
    cases e : h₂.get? a with
    | none => rfl
    | some o' => exact absurd (Heap.lt_size e) (Nat.not_lt.mpr ha)
  have fresh₀ : ∀ a, h₂.objs.size ≤ a → s₁.heap.get? a = none := fun a ha => none_of_keeps hk₀ (fresh a ha)
  have hCle : h₂.objs.size ≤ H2.objs.size := by rw [hC]; exact Nat.le_succ _
  have live₁ : ∀ b o, s₁.heap.get? b = some o → b ≠ H2.objs.size ∧ b ≠ I ∧ b ≠ h₂.objs.size := fun b o e => ⟨(below b (Heap.lt_size (hk₀ b o e))).1, (fun q => by rw [q, hI] at e; cases e), (below b (Heap.lt_size (hk₀ b o e))).2⟩
  have loop : ∀ s₃ : Shared, s₃ = { s₁ with heap := h₁, toks := s₁.toks + ([] : List (Str × Value)).length } →
      codeAny (model prog w) A (.compLoop (.ListComp elt [⟨.Name x px, iter, [], 0⟩] scope pos) 0 (.ref I) (.ref h₂.objs.size) (compEnvC scope cl H2.objs.size env))
        (RR (.ref h₂.objs.size) H2.objs.size) s₃ := by
    rintro s₃ rfl
    refine comp_loop (hsz := hsz) (cenv := compEnvC scope cl H2.objs.size env) W hlive G hG (lookup_relabel_local hx) (by simp [compEnvC, relabel, hkind]) hDC hDf hCf hst₁ hacc hns₁ ?_ ?_
    · rintro i v s₂ m₂ hi hv hn hm hk ⟨h, tk, rfl⟩
      refine wpAny_mono (hq i v _ h tk m₂ _ hi hv hn hm (fresh₀ _ hCle) (fun b o e => ?_)) (fun y s₃ hy => ?_) fun _ _ e => e
      · obtain ⟨a1, a2, a3⟩ := live₁ b o e
        exact hk b o a1 a2 a3 (old b o (hk₀ b o e))
      · obtain ⟨h', tk', tl, rfl, k, nw, g⟩ := hy.go
        exact ⟨h', tk', tl, rfl, k, nw, g⟩
    · intro h' tk m' ys tl hn hl hlen htl hys hk
      refine hRR _ _ h' tk m' ys tl (fresh₀ _ (Nat.le_refl _)) (fresh₀ _ hCle) hDC hn hl hlen (fun p hp => ?_) hys fun b o e => ?_
      · obtain ⟨a1, a2, a3, a4, a5⟩ := htl p hp
        exact ⟨a1, a3, none_of_keeps hk₀ (none_of_keeps old a4), a5⟩
      · obtain ⟨a1, a2, a3⟩ := live₁ b o e
        exact hk b o a1 a2 a3 (old b o (hk₀ b o e))
  exact codeAny_compStart_list (loop _ rfl) (W.self 0 _ _ _ hst₁ (loop _ rfl))

/-- a list comprehension of one clause, no test: as a value -/
theorem comp_eval {elt iter : Expr} {x : Str} {px : Pos} {scope : Scope} {cl : List (Str × Addr)} {pos : Pos} {Q : Value → Shared → Prop}
    (hclos : closureFor scope env = pure cl) (hcell : ∀ y ∈ scope.names, y.2 ≠ .cell) (hkind : scope.kind = .function)
    (hnames : ∀ y ∈ scope.names, y.2 = .local → scope.names.lookup y.1 = some .local) (hx : scope.names.lookup x = some .local)
    (h : wpAny (model prog w) A (eval iter env) (fun xv s₁ => Stop (∃ n P G, n ≤ sizeLine ∧ IterOf prog w A xv s₁ n P ∧ (∀ tl tl' i y, (∀ p ∈ tl, p ∈ tl') → G tl i y → G tl' i y) ∧ EltOk prog w A env elt x scope cl s₁ n P G ∧
      (∀ D h' tk (ys : List Value) tl, (∀ b o, s₁.heap.get? b = some o → h'.get? b = some o) → s₁.heap.get? D = none → h'.PlainList D ys.toArray → ys.length = n → NewIn s₁.heap h' tl → (∀ p ∈ tl, p.1 ≠ D) → (∀ (j : Nat) y, ys[j]? = some y → G tl j y) →
        Q (.ref D) { s₁ with heap := h', toks := tk }))) E s)
    (hs : ∀ x, foldedSetIterable iter env x = pure x := by intro _; rfl) :
    wpAny (model prog w) A (eval (.ListComp elt [⟨.Name x px, iter, [], 0⟩] scope pos) env) Q E s := by
  rw [eval_ListComp]
  refine wpAny_comprehension_free (use := none) rfl hs hclos hkind hnames (wpAny_mono h (fun xv s₁ h₁ => ?_) fun _ _ e => e)
  obtain ⟨n, P, G, hsz, hit, hG, helt, hQ⟩ := h₁.go
  refine hit _ _ fun I fp St h₂ hk₀ hI W hlive hst hfp _ => ?_
  refine comp_block (s₁ := s₁) (RR := fun acc C => compPost (model prog w) A E none Q acc C) W hlive hsz G hG hcell hkind hx hst hfp hk₀ hI helt ?_
  intro D C h' tk m' ys tl hD hC hDC hn hl hlen htl hys hk
  refine ⟨m', hn, fun h'' hs'' => hQ D h'' tk ys tl (fun b o e => hs''.extBut b o (fun q => by rw [q, hC] at e; cases e) (hk b o e)) hD (hl.extBut hs''.extBut hDC) hlen (fun p hp => ?_) (fun p hp => (htl p hp).2.1) hys⟩
  obtain ⟨a1, a2, a3, a4⟩ := htl p hp
  exact ⟨a3, hs''.extBut _ _ a1 a4⟩

/-- the same, bound to a local name -/
theorem comp_assign {elt iter : Expr} {x y : Str} {px py : Pos} {scope : Scope} {cl : List (Str × Addr)} {pos spos : Pos} {Q : Flow → Shared → Prop}
    (hsw : swapsWith (.ListComp elt [⟨.Name x px, iter, [], 0⟩] scope pos) (some (.Name y py)) spos.line env = pure true)
    (hclos : closureFor scope env = pure cl) (hcell : ∀ z ∈ scope.names, z.2 ≠ .cell) (hkind : scope.kind = .function)
    (hnames : ∀ z ∈ scope.names, z.2 = .local → scope.names.lookup z.1 = some .local) (hx : scope.names.lookup x = some .local)
    (hy : env.kindOf y = some .local) (hp : (env.scope.kind == .class || (env.scope.kind == .module && env.locals != env.globals)) = false)
    (h : wpAny (model prog w) A (eval iter env) (fun xv s₁ => Stop (∃ n P G m, n ≤ sizeLine ∧ IterOf prog w A xv s₁ n P ∧ (∀ tl tl' i y, (∀ p ∈ tl, p ∈ tl') → G tl i y → G tl' i y) ∧ EltOk prog w A env elt x scope cl s₁ n P G ∧ s₁.heap.Ns env.locals m ∧
      (∀ D h' tk (ys : List Value) tl, (∀ b o, b ≠ env.locals → s₁.heap.get? b = some o → h'.get? b = some o) → h'.Ns env.locals (fun z => if z = y then some (.ref D) else m z) → s₁.heap.get? D = none → h'.PlainList D ys.toArray → ys.length = n → NewIn s₁.heap h' tl → (∀ p ∈ tl, p.1 ≠ D) → (∀ (j : Nat) y, ys[j]? = some y → G tl j y) →
        Q .next { s₁ with heap := h', toks := tk }))) E s)
    (hs : ∀ x, foldedSetIterable iter env x = pure x := by intro _; rfl) :
    wpAny (model prog w) A (exec (.Assign [.Name y py] (.ListComp elt [⟨.Name x px, iter, [], 0⟩] scope pos) spos) env) Q E s := by
  rw [exec_Assign_Name_used _ _ _ _ hsw]
  refine wpAny_bind (wpAny_standAt (wpAny_bind ?_))
  show wpAny _ A (do let _ ← comprehension (.ListComp elt [⟨.Name x px, iter, [], 0⟩] scope pos) scope env _ (newList []) false (eval iter env) (some (assign (.Name y py) env))) _ _ s
  refine wpAny_bind (wpAny_mono (wpAny_comprehension_free (use := some (assign (.Name y py) env)) (Q := fun _ s' => Q .next s') rfl hs hclos hkind hnames
    (wpAny_mono h (fun xv s₁ h₁ => ?_) fun _ _ e => e)) (fun _ s' hq => wpAny_pure (wpAny_pure hq)) fun _ _ e => e)
  obtain ⟨n, P, G, m, hsz, hit, hG, helt, hns, hQ⟩ := h₁.go
  refine hit _ _ fun I fp St h₂ hk₀ hI W hlive hst hfp _ => ?_
  refine comp_block (s₁ := s₁) (RR := fun acc C => compPost (model prog w) A E (some (assign (.Name y py) env)) (fun _ s' => Q .next s') acc C) W hlive hsz G hG hcell hkind hx hst hfp hk₀ hI helt ?_
  intro D C h' tk m' ys tl hD hC hDC hn hl hlen htl hys hk
  have hLC : env.locals ≠ C := by rintro q; obtain ⟨o, _, _, ho, _⟩ := hns; rw [q, hC] at ho; cases ho
  have hLD : env.locals ≠ D := by rintro q; obtain ⟨o, _, _, ho, _⟩ := hns; rw [q, hD] at ho; cases ho
  have hLt : ∀ p ∈ tl, p.1 ≠ env.locals := fun p hp q => by have e := (htl p hp).2.2.1; obtain ⟨o, _, _, ho, _⟩ := hns; rw [← q, e] at ho; cases ho
  show wpAny _ A (assign (.Name y py) env (.ref D)) _ _ _
  refine wpAny_assign_Name (wpAny_storeName_local hy (hns.keeps hk) (fun h₃ hn₃ hs₃ => ?_) hp)
  refine ⟨m', hn.sameBut hs₃ (Ne.symm hLC), fun h₄ hs₄ => ?_⟩
  refine hQ D h₄ _ ys tl (fun b o hb e => hs₄.extBut b o (fun q => by rw [q, hC] at e; cases e) (hs₃.extBut b o hb (hk b o e))) (hn₃.sameBut hs₄ hLC) hD ((hl.extBut hs₃.extBut (Ne.symm hLD)).extBut hs₄.extBut hDC) hlen (fun p hp => ?_) (fun p hp => (htl p hp).2.1) hys
  obtain ⟨a1, a2, a3, a4⟩ := htl p hp
  exact ⟨a3, hs₄.extBut _ _ a1 (hs₃.extBut _ _ (hLt p hp) a4)⟩
end
end Mine

-- part S1
namespace Mine
set_option pp.deepTerms false
set_option pp.deepTerms.threshold 4
set_option hygiene false in
local macro_rules | `(tactic| walk_at "my enter") => `(tactic| ((case k1 => k_asm); (case k2 => exact Top.nolimit (by k_asm)); (case k6 => k_is); (case k7 => k_is); (case k8 => first | assumption | omega); (case k9 => exact BindsTo.of_eq rfl); (case c5 => decide); (case kB => exact locs rfl); (case c2 => exact rfl); (case c3 => exact rfl); (case c4 => exact rfl); k_whole; intro L h₁ F; (try dsimp only [List.reverse, List.reverseAux]); (have N : News s.heap L h₁ [] := News.nil)))

/-- a row of pairs -/
inductive PairsR (φ : Rel) : List Value → List (Int × Int) → Prop
  | nil : PairsR φ [] []
  | cons {v : Value} {vs : List Value} {p : Int × Int} {ps : List (Int × Int)} : PairR φ v p → PairsR φ vs ps → PairsR φ (v :: vs) (p :: ps)
theorem PairsR.mono {φ ψ : Rel} (h : ∀ a o, φ a o → ψ a o) {vs : List Value} {ps : List (Int × Int)} (x : PairsR φ vs ps) : PairsR ψ vs ps := by
  induction x with
  | nil => exact .nil
  | cons a _ ih => exact .cons (a.mono h) ih
theorem PairsR.length {φ : Rel} {vs : List Value} {ps : List (Int × Int)} (x : PairsR φ vs ps) : vs.length = ps.length := by
  induction x with
  | nil => rfl
  | cons _ _ ih => simp [ih]
theorem PairsR.get {φ : Rel} {vs : List Value} {ps : List (Int × Int)} (x : PairsR φ vs ps) : ∀ (i : Nat) (v : Value), vs[i]? = some v → ∃ p, ps[i]? = some p ∧ PairR φ v p := by
  induction x with
  | nil => intro i v h; simp at h
  | cons a _ ih =>
    intro i v h
    cases i with
    | zero => simp at h; subst h; exact ⟨_, rfl, a⟩
    | succ i => simpa using ih i v (by simpa using h)
/-- v is a tuple of pairs, its items vs -/
def SetR (φ : Rel) (v : Value) (vs : List Value) (ps : List (Int × Int)) : Prop := ∃ a n, v = .ref a ∧ φ a { cls := .type "tuple", data := .seq vs.toArray n } ∧ PairsR φ vs ps
theorem SetR.mono {φ ψ : Rel} (h : ∀ a o, φ a o → ψ a o) {v : Value} {vs : List Value} {ps : List (Int × Int)} : SetR φ v vs ps → SetR ψ v vs ps
  | ⟨a, n, e, x, y⟩ => ⟨a, n, e, h _ _ x, y.mono h⟩
def SmallP (p : Int × Int) : Prop := Small p.1 ∧ Small p.2
def setTxt (ps : List (Int × Int)) : Str := Str.join (Str.ofString ",") (ps.map pairTxt)

theorem pairTxt_le {p : Int × Int} (h : SmallP p) : (pairTxt p).length ≤ 23 := by
  have l1 := endTxt_le h.1
  have l2 := endTxt_le h.2
  unfold pairTxt
  split
  · omega
  · rw [Str.length_append, Str.length_append]; have : (Str.ofString ":").length = 1 := by decide
    omega
theorem pairTxt_pos {p : Int × Int} (h : SmallP p) : 1 ≤ (pairTxt p).length := by
  have l1 := endTxt_pos h.1.1
  unfold pairTxt
  split
  · omega
  · rw [Str.length_append, Str.length_append]; omega

/-- values that are the given texts -/
theorem texts_of {ys : List Value} {ts : List Str} (hl : ys.length = ts.length) (h : ∀ (j : Nat) y, ys[j]? = some y → ∃ x t, ts[j]? = some x ∧ y = .str x t) : ∃ l : List (Str × Tok), ys = strValues l ∧ l.map (·.1) = ts := by
  induction ys generalizing ts with
  | nil =>
    cases ts with
    | nil => exact ⟨[], rfl, rfl⟩
    | cons a b => cases hl
  | cons y ys ih =>
    cases ts with
    | nil => cases hl
    | cons a b =>
      obtain ⟨x, t, e, rfl⟩ := h 0 y rfl
      simp at e; subst e
      obtain ⟨l, e1, e2⟩ := ih (ts := b) (by simpa using hl) (fun j z hz => by simpa using h (j + 1) z (by simpa using hz))
      exact ⟨(a, t) :: l, by rw [e1]; rfl, by rw [List.map_cons, e2]⟩
theorem joinOk_of {ts : List Str} {B k : Nat} (hB : ∀ y ∈ ts, y.length ≤ B) (hk : ts.length ≤ k) (h : k * B + k ≤ 16777216) : JoinOk (Str.ofString ",") ts = true := by
  unfold JoinOk
  have e : (Str.ofString ",").length = 1 := by decide
  have h1 : ts.length * B ≤ k * B := Nat.mul_le_mul_right _ hk
  rw [StrLaws.joinFits hB (by rw [e]; omega)]; rfl

local macro_rules | `(tactic| walk_at "call ref") => `(tactic| (k_here; (with_reducible show wpAny _ _ (call (Value.ref 75) [_]) _ _ _); (refine' call_by0 ?k1 ?k2 (show_pair_spec ?k3 ?k4 ?k5 ?k6 ?k7 ?k8) ?_; (case k1 => k_asm); (case k2 => k_asm); (case k3 => exact Lib.mk (Frag.In.keeps (by k_asm) (Fr.keep (by k_asm))) (Top.keeps (by k_asm) (Fr.keep (by k_asm)))); (case k4 => first | assumption | (simp only [depth_deeper]; omega)); (case k6 => assumption); (case k5 => first | assumption | exact Rel.le.keeps (by assumption) (Fr.keep (by k_asm))); (case k7 => assumption); (case k8 => assumption); k_whole); intro h' tk' v' F' N' k' g'; obtain ⟨t', e'⟩ := g'; subst e'; try k_sweep))
local macro_rules | `(tactic| walk_at "eval ListComp") => `(tactic| (k_here; k_dflt (refine comp_eval (cl := []) (by rfl) (by decide) (by rfl) (by decide) (by rfl) ?_)))

set_option maxHeartbeats 4000000 in
theorem show_set_spec {w : World} {s : Shared} {A : Around} {mean : ExcName → Option Value} {mg mb : Str → Option Value} {ps : List (Int × Int)} {vs : List Value} {v : Value} {φ : Rel}
    (Z : Lib w mean mg mb s.heap) (hh : A.handled = none) (hd : A.depth + 2 < recursionLimit) (hφ : φ.le s.heap) (hv : SetR φ v vs ps) (hs : ∀ p ∈ ps, SmallP p) (hl : ps.length ≤ 10) :
    Spec PySem.Challenge.rw_nz0268_01.row.prog w A 80 [v] s φ (fun _ v => ∃ t, v = .str (setTxt ps) t) := by
  w_top off
  intro R hR
  obtain ⟨X, T⟩ := Z
  obtain ⟨a, n, rfl, ha, hp⟩ := hv
  have hP : IsTup s.heap a vs.toArray := ⟨_, hφ _ _ ha, rfl, _, rfl⟩
  revert X; k_fill; intro X
  refine' enter (binds := [(Str.ofString "some", .ref a)]) ?k1 ?k2 ?k6 ?k7 ?k8 ?k9 ?kB ?_ ?c2 ?c3 ?c4 ?c5
  walk_at "my enter"
  k_steps
  refine .mk ⟨vs.toArray.size, fun i v => vs.toArray[i]? = some v, fun tl i y => ∃ p t, ps[i]? = some p ∧ y = .str (pairTxt p) t, by rw [List.size_toArray, hp.length]; exact Nat.le_trans hl (by decide), IterOf.tuple (by exact hh) (hP.keeps F.keep), fun _ _ _ _ _ h => h, ?_, ?_⟩
  · intro i v C h tk m₂ E' hi hv hn hm hC hk
    obtain ⟨oC, heC, hoC⟩ := LCg.ns_obj hn
    replace N : News s.heap L h [(C, oC)] := elt_news F heC hC
    replace F := Fr.grow F hk
    obtain ⟨p, hip, hpr⟩ := hp.get i v (by simpa using hv)
    have hsp : SmallP p := hs p (List.mem_of_getElem? hip)
    obtain ⟨hs1, hs2⟩ := hsp
    k_steps
    exact .mk ⟨_, _, [], rfl, by assumption, .nil, p, _, hip, rfl⟩
  · intro D h' tk ys tl hk hD hDl hlen hnew hoff hys
    replace N : News s.heap L h' [] := News.nil
    replace F := Fr.grow F hk
    obtain ⟨l, rfl, hl'⟩ := texts_of (ts := ps.map pairTxt) (by rw [hlen, List.length_map, List.size_toArray, hp.length]) (fun j y hy => by
      obtain ⟨p, t, e1, e2⟩ := hys j y hy
      exact ⟨_, t, by rw [List.getElem?_map, e1]; rfl, e2⟩)
    have hDl' : h'.IsList D (strValues l).toArray := hDl.isList
    have hok : JoinOk (Str.ofString ",") (ps.map pairTxt) = true := joinOk_of (B := 23) (k := 10) (fun y hy => by
      obtain ⟨p, hp, rfl⟩ := List.mem_map.mp hy
      exact pairTxt_le (hs p hp)) (by rw [List.length_map]; exact hl) (by decide)
    k_steps
    exact hR _ _ _ [] F.keep .nil ⟨_, by rw [setTxt, ← StrLaws.glued_eq_join]; rfl⟩
end Mine

-- part S2
namespace Mine
set_option pp.deepTerms false
set_option pp.deepTerms.threshold 4
set_option hygiene false in
local macro_rules | `(tactic| walk_at "my enter") => `(tactic| ((case k1 => k_asm); (case k2 => exact Top.nolimit (by k_asm)); (case k6 => k_is); (case k7 => k_is); (case k8 => first | assumption | omega); (case k9 => exact BindsTo.of_eq rfl); (case c5 => decide); (case kB => exact locs rfl); (case c2 => exact rfl); (case c3 => exact rfl); (case c4 => exact rfl); k_whole; intro L h₁ F; (try dsimp only [List.reverse, List.reverseAux]); (have N : News s.heap L h₁ [] := News.nil)))
local macro_rules | `(tactic| walk_at "call ref") => `(tactic| (k_here; (with_reducible show wpAny _ _ (call (Value.ref 75) [_]) _ _ _); (refine' call_by0 ?k1 ?k2 (show_pair_spec ?k3 ?k4 ?k5 ?k6 ?k7 ?k8) ?_; (case k1 => k_asm); (case k2 => k_asm); (case k3 => exact Lib.mk (Frag.In.keeps (by k_asm) (Fr.keep (by k_asm))) (Top.keeps (by k_asm) (Fr.keep (by k_asm)))); (case k4 => first | assumption | (simp only [depth_deeper]; omega)); (case k6 => assumption); (case k5 => first | assumption | exact Rel.le.keeps (by assumption) (Fr.keep (by k_asm))); (case k7 => assumption); (case k8 => assumption); k_whole); intro h' tk' v' F' N' k' g'; obtain ⟨t', e'⟩ := g'; subst e'; try k_sweep))

theorem halt {p : Prop} (h : Stop p) : p := h.go

section
variable {prog : Program} {w : World} {A : Around} {E : Value → Shared → Prop} {s : Shared} {env : Env} {h₀ : Heap} {x : Str} {body : List Stmt} {Q : Flow → Shared → Prop}
/-- a loop over a range, by what holds before each turn -/
theorem range_loop {r : Addr} {a₀ b₀ c : Int} {t₀ u₀ v₀ : Tok} {n : Nat} {m₀ : Str → Option Value} {news : List (Addr × Obj)} (J : Nat → (Str → Option Value) → List (Addr × Obj) → Prop)
    (hh : A.handled = none) (hr : IsRange s.heap r a₀ b₀ c t₀ u₀ v₀) (hsmall : Builtin.Range.small a₀ b₀ c = true) (hsz : Builtin.Range.rangeSize a₀ b₀ c = (n : Int)) (F : Fr h₀ env.locals s.heap m₀) (N : News h₀ env.locals s.heap news) (hj : J 0 m₀ news)
    (turn : ∀ i t m₁ nx h tk own, i < n → OwnOff own (nx.map (·.1)) → J i m₁ nx →
      Fr h₀ env.locals h (fun y => if y = x then some (.int (a₀ + (i : Int) * c) t) else m₁ y) → News h₀ env.locals h (nx ++ own) →
      wpAny (model prog w) A (execs body env) (InvPostG h₀ env.locals (J (i + 1)) own { s with heap := h, toks := tk } Q) E { s with heap := h, toks := tk })
    (done : ∀ m₁ nx h tk, J n m₁ nx → Fr h₀ env.locals h m₁ → News h₀ env.locals h nx → Q .next { s with heap := h, toks := tk }) :
    wpAny (model prog w) A (pyIter (.ref r)) (fun it s₂ => LoopAtV prog w A h₀ env x body Q E it s₂) E s := by
  refine wpAny_pyIter_range hr hsmall ?_
  have W : Walks prog w A s.heap.objs.size [s.heap.objs.size] [s.heap.objs.size] n (fun i v => i < n ∧ ∃ t, v = .int (a₀ + i * c) t)
      (fun i h => IsRangeIter h s.heap.objs.size (a₀ + (i : Nat) * c) ((n : Int) - (i : Nat)) c) := (Walks.range hh _ a₀ c n).bound
  refine kdr_loop J W (fun _ h => h) (fun _ h => h) ?_ ?_ ?_ ?_ (by show IsRangeIter _ _ _ _ _; rw [hsz]; simpa using Heap.get?_push_size _ rfl) (F.push _) (fun p hp => ⟨Heap.get?_push_of_some _ (N p hp).1, (N p hp).2⟩) hj ?_ ?_
  · intro i h hi b hb
    rw [List.mem_singleton.mp hb]
    exact ⟨_, hi⟩
  · intro hm
    exact absurd F.ns.lt ((List.mem_singleton.mp hm) ▸ Nat.lt_irrefl _)
  · intro b hb
    rw [List.mem_singleton.mp hb]
    exact next_is_new F
  · intro p hp hI
    exact absurd (Heap.lt_size (N p hp).1) ((List.mem_singleton.mp hI) ▸ Nat.lt_irrefl _)
  · rintro i v m₁ nx h tk own hi ⟨_, t, rfl⟩ hoff hJ F₁ N₁
    exact turn i t m₁ nx h tk own hi hoff hJ F₁ N₁
  · intro m₁ nx h tk hJ F₁ N₁
    exact done m₁ nx h tk hJ F₁ N₁
end

/-- the greedy cut, one item more -/
structure Cut (α : Type) where
  pieces : List (List α)
  row : List α
  used : Int
def Cut.step {α : Type} (size : α → Int) (w : Int) (c : Cut α) (x : α) : Cut α :=
  if c.row ≠ [] ∧ w < c.used + 1 + size x then ⟨c.pieces ++ [c.row], [x], size x⟩
  else ⟨c.pieces, c.row ++ [x], (if c.row ≠ [] then c.used + 1 else c.used) + size x⟩
def Cut.fin {α : Type} (c : Cut α) : List (List α) := if c.row ≠ [] then c.pieces ++ [c.row] else c.pieces
def Cut.upto {α : Type} (size : α → Int) (w : Int) (xs : List α) : Cut α := xs.foldl (Cut.step size w) ⟨[], [], 0⟩
def cutL {α : Type} (size : α → Int) (w : Int) (xs : List α) : List (List α) := (Cut.upto size w xs).fin

def psize (x : Value × (Int × Int)) : Int := ((pairTxt x.2).length : Int)
abbrev tupOf (vs : List Value) : Obj := { cls := .type "tuple", data := .seq vs.toArray }
abbrev Item := Value × (Int × Int)

theorem Cut.upto_snoc {α : Type} (size : α → Int) (w : Int) (xs : List α) (x : α) : Cut.upto size w (xs ++ [x]) = Cut.step size w (Cut.upto size w xs) x := by
  simp [Cut.upto, List.foldl_append]
theorem Cut.row_le' {α : Type} (size : α → Int) (w : Int) : ∀ (xs : List α) (c : Cut α), (xs.foldl (Cut.step size w) c).row.length + (xs.foldl (Cut.step size w) c).pieces.length ≤ c.row.length + c.pieces.length + xs.length
  | [], c => Nat.le_refl _
  | x :: xs, c => by
    have h := Cut.row_le' size w xs (Cut.step size w c x)
    have e : (Cut.step size w c x).row.length + (Cut.step size w c x).pieces.length ≤ c.row.length + c.pieces.length + 1 := by
      unfold Cut.step
      split
      · rename_i q
        have := List.length_pos_iff.mpr q.1
        simp only [List.length_append, List.length_singleton]; omega
      · simp only [List.length_append, List.length_singleton]; omega
    rw [List.foldl_cons, List.length_cons]; omega
theorem Cut.row_le {α : Type} (size : α → Int) (w : Int) (xs : List α) : (Cut.upto size w xs).row.length + (Cut.upto size w xs).pieces.length ≤ xs.length := by
  have := Cut.row_le' size w xs ⟨[], [], 0⟩
  simpa [Cut.upto] using this
theorem News.swap {h₀ h : Heap} {L : Addr} {p q : Addr × Obj} (N : News h₀ L h [p, q]) : News h₀ L h [q, p] := fun x hx => N x (by
  simp only [List.mem_cons, List.not_mem_nil, or_false] at hx ⊢; exact hx.symm)

theorem Fr.know5 {h₀ h : Heap} {L : Addr} {m : Str → Option Value} (F : Fr h₀ L h m) {x1 x2 x3 x4 x5 : Str} {v1 v2 v3 v4 v5 : Value} (e1 : m x1 = some v1) (e2 : m x2 = some v2) (e3 : m x3 = some v3) (e4 : m x4 = some v4) (e5 : m x5 = some v5) :
    Fr h₀ L h (fun y => if y = x1 then some v1 else if y = x2 then some v2 else if y = x3 then some v3 else if y = x4 then some v4 else if y = x5 then some v5 else m y) := by
  have : (fun y => if y = x1 then some v1 else if y = x2 then some v2 else if y = x3 then some v3 else if y = x4 then some v4 else if y = x5 then some v5 else m y) = m := by
    funext y; (repeat' split) <;> simp_all
  rw [this]; exact F
theorem off_of_lt {d : Addr} {l : List (Addr × Obj)} (h : AllLt d l) : ∀ p ∈ l, p.1 ≠ d := by
  induction l with
  | nil => intro p hp; cases hp
  | cons a l ih =>
    intro p hp
    rcases List.mem_cons.mp hp with rfl | hp
    · exact Nat.ne_of_lt h.1
    · exact ih h.2 p hp

/-- what holds before a turn of split_set's loop -/
def SplitJ (a : Addr) (W : Int) (tw : Tok) (xs : List Item) (i : Nat) (m : Str → Option Value) (news : List (Addr × Obj)) : Prop :=
  ∃ (P Rw : Addr) (nP nR : Nat) (tu : Tok) (ts : List (Addr × List Item)),
    news = (P, PySem.W.listOf (ts.map fun q => Value.ref q.1).toArray nP) :: (Rw, PySem.W.listOf ((Cut.upto psize W (xs.take i)).row.map (·.1)).toArray nR) :: ts.map (fun q => (q.1, tupOf (q.2.map (·.1)))) ∧
    (Cut.upto psize W (xs.take i)).pieces = ts.map (·.2) ∧ (@Ne Nat P Rw) ∧ OwnOff (ts.map (fun q => (q.1, tupOf (q.2.map (·.1))))) [P, Rw] ∧
    m (Str.ofString "pieces") = some (.ref P) ∧ m (Str.ofString "row") = some (.ref Rw) ∧ m (Str.ofString "used") = some (.int (Cut.upto psize W (xs.take i)).used tu) ∧
    m (Str.ofString "some") = some (.ref a) ∧ m (Str.ofString "width") = some (.int W tw)

/-- a list of tuples: the pieces -/
def CutR (ψ : Rel) (r : Value) (cs : List (List Item)) : Prop := ∃ P n, ∃ ts : List (Addr × List Item), r = .ref P ∧ ψ P (PySem.W.listOf (ts.map fun q => Value.ref q.1).toArray n) ∧ (∀ q ∈ ts, ψ q.1 (tupOf (q.2.map (·.1)))) ∧ ts.map (·.2) = cs

theorem split_end {s₀ : Heap} {s₁ : Shared} {L a : Addr} {W : Int} {tw tu : Tok} {xs : List Item} {i nP nR tk : Nat} {h' : Heap} {m' : Str → Option Value} {news' own : List (Addr × Obj)} {P Rw : Addr} {ts : List (Addr × List Item)} {c' : Cut Item} {u : Int}
    (F : Fr s₀ L h' m') (N : News s₀ L h' news') (hu : Cut.upto psize W (xs.take (i + 1)) = c')
    (h1 : (P, PySem.W.listOf (ts.map fun q => Value.ref q.1).toArray nP) ∈ news') (h2 : (Rw, PySem.W.listOf (c'.row.map (·.1)).toArray nR) ∈ news') (h3 : ∀ q ∈ ts, (q.1, tupOf (q.2.map (·.1))) ∈ news') (h4 : c'.pieces = ts.map (·.2))
    (h5 : @Ne Nat P Rw) (h6 : ∀ q ∈ ts, q.1 ≠ P ∧ q.1 ≠ Rw) (h7 : ∀ p ∈ own, p ∈ news') (h8 : ∀ p ∈ own, p.1 ≠ P ∧ p.1 ≠ Rw ∧ ∀ q ∈ ts, p.1 ≠ q.1)
    (m1 : m' (Str.ofString "pieces") = some (.ref P)) (m2 : m' (Str.ofString "row") = some (.ref Rw)) (m3 : m' (Str.ofString "used") = some (.int u tu)) (hu' : c'.used = u)
    (m4 : m' (Str.ofString "some") = some (.ref a)) (m5 : m' (Str.ofString "width") = some (.int W tw)) :
    InvEndG s₀ L (SplitJ a W tw xs (i + 1)) own s₁ { s₁ with heap := h', toks := tk } := by
  subst hu'
  refine ⟨h', tk, m', news', (P, PySem.W.listOf (ts.map fun q => Value.ref q.1).toArray nP) :: (Rw, PySem.W.listOf (c'.row.map (·.1)).toArray nR) :: ts.map (fun q => (q.1, tupOf (q.2.map (·.1)))), rfl, F, N, ?_, h7, ?_, P, Rw, nP, nR, tu, ts, by rw [hu], by rw [hu, h4], h5, ?_, m1, m2, by rw [hu]; exact m3, m4, m5⟩
  · intro p hp
    rcases List.mem_cons.mp hp with rfl | hp
    · exact h1
    · rcases List.mem_cons.mp hp with rfl | hp
      · exact h2
      · obtain ⟨q, hq, rfl⟩ := List.mem_map.mp hp
        exact h3 q hq
  · intro p hp b hb
    obtain ⟨g1, g2, g3⟩ := h8 p hp
    obtain ⟨r, hr, rfl⟩ := List.mem_map.mp hb
    rcases List.mem_cons.mp hr with rfl | hr
    · exact g1
    · rcases List.mem_cons.mp hr with rfl | hr
      · exact g2
      · obtain ⟨q, hq, rfl⟩ := List.mem_map.mp hr
        exact g3 q hq
  · intro p hp b hb
    obtain ⟨q, hq, rfl⟩ := List.mem_map.mp hp
    rcases List.mem_cons.mp hb with rfl | hb
    · exact (h6 q hq).1
    · obtain rfl := List.mem_singleton.mp hb
      exact (h6 q hq).2

end Mine

-- part S3
namespace Mine
set_option pp.deepTerms false
set_option pp.deepTerms.threshold 4
set_option hygiene false in
local macro_rules | `(tactic| walk_at "my enter") => `(tactic| ((case k1 => k_asm); (case k2 => exact Top.nolimit (by k_asm)); (case k6 => k_is); (case k7 => k_is); (case k8 => first | assumption | omega); (case k9 => exact BindsTo.of_eq rfl); (case c5 => decide); (case kB => exact locs rfl); (case c2 => exact rfl); (case c3 => exact rfl); (case c4 => exact rfl); k_whole; intro L h₁ F; (try dsimp only [List.reverse, List.reverseAux]); (have N : News s.heap L h₁ [] := News.nil)))
local macro_rules | `(tactic| walk_at "pyIter ref") => `(tactic| (k_here; (with_reducible show wpAny _ _ (pyIter (Value.ref _)) (fun it s₂ => LoopAtV _ _ _ _ _ _ _ _ _ it s₂) _ _); refine halt ?_))
local macro_rules | `(tactic| walk_at "InvPostG") => `(tactic| (dsimp only [InvPostG]; refine halt ?_))

def innerL (W : Int) : List Int → List Int → Int → Int → Int
  | s :: rs, g :: gs, best, used => if used + 1 + s ≤ W then innerL W rs gs (min best (1 + g)) (used + 1 + s) else best
  | _, _, best, _ => best
def fewL (W n : Int) : List Int → List Int
  | [] => [0]
  | s :: rs => innerL W (s :: rs) (fewL W n rs) n (-1) :: fewL W n rs
theorem fewL_length (W n : Int) : ∀ l, (fewL W n l).length = l.length + 1
  | [] => rfl
  | s :: rs => by simp [fewL, fewL_length W n rs]

theorem innerL_go {W : Int} {zs f : List Int} {e : Nat} {best used : Int} (he : e < zs.length) (hf : e + 1 < f.length) (hc : used + 1 + zs.getD e 0 ≤ W) :
    innerL W (zs.drop e) (f.drop (e + 1)) best used = innerL W (zs.drop (e + 1)) (f.drop (e + 1 + 1)) (if 1 + f.getD (e + 1) 0 < best then 1 + f.getD (e + 1) 0 else best) (used + 1 + zs.getD e 0) := by
  have e1 : zs.getD e 0 = zs[e] := by rw [List.getD_eq_getElem?_getD, List.getElem?_eq_getElem he, Option.getD_some]
  have e2 : f.getD (e + 1) 0 = f[e + 1] := by rw [List.getD_eq_getElem?_getD, List.getElem?_eq_getElem hf, Option.getD_some]
  rw [e1] at hc
  rw [e1, e2, List.drop_eq_getElem_cons he, List.drop_eq_getElem_cons hf, innerL, if_pos hc]
  congr 1
  split <;> omega
theorem innerL_stop {W : Int} {zs f : List Int} {e : Nat} {best used : Int} (hc : zs.length ≤ e ∨ ¬ used + 1 + zs.getD e 0 ≤ W) : innerL W (zs.drop e) (f.drop (e + 1)) best used = best := by
  by_cases he : e < zs.length
  · have hc' := hc.resolve_left (by omega)
    rw [List.getD_eq_getElem?_getD, List.getElem?_eq_getElem he, Option.getD_some] at hc'
    rw [List.drop_eq_getElem_cons he]
    cases f.drop (e + 1) with
    | nil => rfl
    | cons g gs => rw [innerL, if_neg hc']
  · rw [List.drop_of_length_le (by omega)]; rfl
theorem few_set {W : Int} {zs f : List Int} {k : Nat} {n best : Int} (hk : k < zs.length) (hf : List.replicate (k + 1) 0 ++ fewL W n (zs.drop (k + 1)) = f) (hb : best = innerL W (zs.drop k) (f.drop (k + 1)) n (-1)) :
    f.set k best = List.replicate k 0 ++ fewL W n (zs.drop k) := by
  have hd : f.drop (k + 1) = fewL W n (zs.drop (k + 1)) := by
    rw [← hf, List.drop_append_of_le_length (by rw [List.length_replicate]; exact Nat.le_refl _), List.drop_of_length_le (by rw [List.length_replicate]; exact Nat.le_refl _), List.nil_append]
  rw [hd, List.drop_eq_getElem_cons hk] at hb
  rw [List.drop_eq_getElem_cons hk, fewL, ← hb, ← hf, List.replicate_succ', List.append_assoc]
  rw [List.set_append_right _ _ (by rw [List.length_replicate]; exact Nat.le_refl _), List.length_replicate, Nat.sub_self]
  rfl

/-- a list of ints -/
def IntsR (φ : Rel) (v : Value) (zs : List Int) : Prop := ∃ a ys n, v = .ref a ∧ φ a (PySem.W.listOf ys n) ∧ IntsAre ys.toList zs

def FewJ (a : Addr) (W : Int) (tw : Tok) (zs : List Int) (i : Nat) (m : Str → Option Value) (news : List (Addr × Obj)) : Prop :=
  ∃ (Fw : Addr) (nF : Nat) (fs : List Value), news = [(Fw, PySem.W.listOf fs.toArray nF)] ∧ IntsAre fs (List.replicate (zs.length - i) 0 ++ fewL W zs.length (zs.drop (zs.length - i))) ∧
    m (Str.ofString "fewest") = some (.ref Fw) ∧ m (Str.ofString "sizes") = some (.ref a) ∧ m (Str.ofString "width") = some (.int W tw)
theorem Fr.know3 {h₀ h : Heap} {L : Addr} {m : Str → Option Value} (F : Fr h₀ L h m) {x1 x2 x3 : Str} {v1 v2 v3 : Value} (e1 : m x1 = some v1) (e2 : m x2 = some v2) (e3 : m x3 = some v3) :
    Fr h₀ L h (fun y => if y = x1 then some v1 else if y = x2 then some v2 else if y = x3 then some v3 else m y) := by
  have : (fun y => if y = x1 then some v1 else if y = x2 then some v2 else if y = x3 then some v3 else m y) = m := by
    funext y; (repeat' split) <;> simp_all
  rw [this]; exact F
theorem Fr.know7 {h₀ h : Heap} {L : Addr} {m : Str → Option Value} (F : Fr h₀ L h m) {x1 x2 x3 x4 x5 x6 x7 : Str} {v1 v2 v3 v4 v5 v6 v7 : Value} (e1 : m x1 = some v1) (e2 : m x2 = some v2) (e3 : m x3 = some v3) (e4 : m x4 = some v4) (e5 : m x5 = some v5) (e6 : m x6 = some v6) (e7 : m x7 = some v7) :
    Fr h₀ L h (fun y => if y = x1 then some v1 else if y = x2 then some v2 else if y = x3 then some v3 else if y = x4 then some v4 else if y = x5 then some v5 else if y = x6 then some v6 else if y = x7 then some v7 else m y) := by
  have : (fun y => if y = x1 then some v1 else if y = x2 then some v2 else if y = x3 then some v3 else if y = x4 then some v4 else if y = x5 then some v5 else if y = x6 then some v6 else if y = x7 then some v7 else m y) = m := by
    funext y; (repeat' split) <;> simp_all
  rw [this]; exact F
def InnJ (Fw a : Addr) (nF : Nat) (fs : List Value) (own : List (Addr × Obj)) (W : Int) (tw t : Tok) (zs f : List Int) (k : Nat) (n' : Nat) (m : Str → Option Value) (news : List (Addr × Obj)) : Prop :=
  ∃ (e : Nat) (best used : Int) (tb tu te : Tok), e ≤ zs.length ∧ k ≤ e ∧ n' = zs.length - e ∧ innerL W (zs.drop e) (f.drop (e + 1)) best used = innerL W (zs.drop k) (f.drop (k + 1)) zs.length (-1) ∧
    news = (Fw, PySem.W.listOf fs.toArray nF) :: own ∧ m (Str.ofString "best") = some (.int best tb) ∧ m (Str.ofString "used") = some (.int used tu) ∧ m (Str.ofString "end") = some (.int e te) ∧
    m (Str.ofString "fewest") = some (.ref Fw) ∧ m (Str.ofString "sizes") = some (.ref a) ∧ m (Str.ofString "width") = some (.int W tw) ∧ m (Str.ofString "at") = some (.int k t)
local macro_rules | `(tactic| walk_at "WhileStep") => `(tactic| (refine halt ?_))
local macro_rules | `(tactic| walk_at "call builtin:min") => `(tactic| ((with_reducible show wpAny _ _ (call (Value.builtin _) [Value.int _ _, Value.int _ _]) _ _ _); (with_reducible rename News _ _ _ _ => N'); (with_unfolding_all apply min_two_N); (case hh => assumption); (case N => exact N'); (case F => assumption); clear N'; intro _ _ _ _))
local macro_rules | `(tactic| walk_at "unpackItems ref") => `(tactic| (k_here; k_dflt (refine' unpackItemsN_ ?k1 ?k2 ?k3 ?k4 ?k5 ?_; (case k1 => k_asm); (case k2 => k_asm); (case k3 => exact News.isTup (by k_asm) (by k_mem)); (case k4 => assumption); (case k5 => exact rfl); k_whole); intro h' F' N'; (try k_sweep)))
local macro_rules | `(tactic| walk_at "exec While") => `(tactic| (k_here; refine halt ?_))
local macro_rules | `(tactic| walk_at "exec While BoolOp") => `(tactic| (k_here; refine halt ?_))

set_option maxHeartbeats 4000000 in
theorem law_fewest_spec {w : World} {s : Shared} {A : Around} {mean : ExcName → Option Value} {mg mb : Str → Option Value} {zs : List Int} {v : Value} {W : Int} {tw : Tok} {φ : Rel}
    (Z : Lib w mean mg mb s.heap) (hh : A.handled = none) (hd : A.depth + 2 < recursionLimit) (hφ : φ.le s.heap) (hv : IntsR φ v zs) (hl : zs.length ≤ 10) :
    Spec PySem.Challenge.rw_nz0268_01.row.prog w A 101 [v, .int W tw] s φ (fun ψ v => ∃ t, v = .int ((fewL W zs.length zs).headD 0) t) := by
  w_top off
  intro R hR
  obtain ⟨X, T⟩ := Z
  obtain ⟨a, ys, n, rfl, ha, hi⟩ := hv
  obtain ⟨ys⟩ := ys
  replace hi : IntsAre ys zs := hi
  have hL : s.heap.IsList a ys.toArray := ⟨_, hφ _ _ ha, rfl, _, rfl⟩
  have hvl : ys.length ≤ 10 := by rw [IntsAre.length hi]; exact hl
  have hsz : ys.toArray.size ≤ 10 := by rw [List.size_toArray]; exact hvl
  revert X; k_fill; intro X
  refine' enter (binds := [(Str.ofString "sizes", .ref a), (Str.ofString "width", .int W tw)]) ?k1 ?k2 ?k6 ?k7 ?k8 ?k9 ?kB ?_ ?c2 ?c3 ?c4 ?c5
  walk_at "my enter"
  k_steps
  rename_i _ _ _ D _ i1 _ _ _ _ _ _ _ _ _ _ _ _ _ _ hRg F2 N2 _
  refine .mk (range_loop (n := zs.length) (FewJ a W tw zs) (by exact hh) hRg (small_down (by omega) (by omega) (by decide) (by decide)) (by rw [rangeSize_downNat]; omega) F2 (news := [_]) (fun p hp => N2 p (List.mem_singleton.mp hp ▸ .head _)) ⟨D, _, _, rfl, ?_, rfl, rfl, rfl⟩ ?_ ?_)
  · rw [List.flatten_replicate_singleton, List.flatten_replicate_singleton] at i1
    rw [Nat.sub_zero, List.drop_length, fewL, ← List.replicate_succ', List.flatten_replicate_singleton]
    exact i1
  · intro i t m₁ nx h tk own hin hoff hJ F N
    obtain ⟨Fw, nF, fs, rfl, hfi, m1, m2, m3⟩ := hJ
    obtain ⟨k, hk⟩ : ∃ k, k + i + 1 = zs.length := ⟨zs.length - 1 - i, by omega⟩
    rw [show zs.length - i = k + 1 by omega] at hfi
    rw [show ((zs.length : Int) - 1 + (i : Int) * (-1)) = (k : Int) by omega] at F
    have flen : (List.replicate (k + 1) 0 ++ fewL W zs.length (zs.drop (k + 1))).length = zs.length + 1 := by
      rw [List.length_append, List.length_replicate, fewL_length, List.length_drop]; omega
    generalize hf : List.replicate (k + 1) 0 ++ fewL W zs.length (zs.drop (k + 1)) = f at *
    replace F : Fr s.heap L h _ := F
    replace N : News s.heap L h ((Fw, PySem.W.listOf fs.toArray nF) :: own) := N
    replace F := Fr.know3 F ((if_neg (by decide)).trans m1) ((if_neg (by decide)).trans m2) ((if_neg (by decide)).trans m3)
    have hown : OwnOff own [Fw] := hoff
    k_sweep
    show wpAny _ _ _ _ _ _
    k_steps
    rename_i F3 N3
    refine .mk (While_inv (InnJ Fw a nF fs own W tw t zs f k) (n₀ := zs.length - k) F3 (fun p hp => N3 p (List.mem_cons_of_mem _ hp)) ⟨k, zs.length, -1, _, _, _, by omega, Nat.le_refl _, rfl, rfl, rfl, rfl, rfl, rfl, rfl, rfl, rfl, rfl⟩ ?_)
    rintro n' m₂ nx₂ h₂ tk₂ F₂ N₂ ⟨e, best, used, tb, tu, te, he, hke, rfl, htgt, rfl, b1, b2, b3, b4, b5, b6, b7⟩
    replace F₂ := Fr.know7 F₂ b1 b2 b3 b4 b5 b6 b7
    k_sweep
    k_steps
    · rename_i c1 _ c2 _ _ _ _ _ _ _ _ _ _ _ _ _ F1 N1
      rw [Int.toNat_natCast] at c2
      refine .mk (WhileStep.intro F1 (fun p hp => N1 p (List.mem_cons_of_mem _ hp)) (n' := zs.length - (e + 1)) (by omega) ⟨e + 1, _, used + 1 + zs.getD e 0, _, _, _, by omega, by omega, rfl, ?_, rfl, rfl, rfl, rfl, rfl, rfl, rfl, rfl⟩)
      rw [← htgt, innerL_go (by omega) (by omega) c2]
      rfl
    · rename_i c1 _ c2 _ F1 N1 hI _ _
      rw [Int.toNat_natCast] at c2 hI N1
      rw [innerL_stop (.inr c2)] at htgt
      rw [few_set (by omega) hf htgt] at hI
      refine .mk ⟨_, _, _, _, [(Fw, PySem.W.listOf (fs.set k (Value.int best tb)).toArray nF)], rfl, F1, N1, (fun p hp => List.mem_singleton.mp hp ▸ .head _), (fun p hp => .tail _ hp), hown, Fw, nF, _, rfl, ?_, rfl, rfl, rfl⟩
      rw [show zs.length - (i + 1) = k by omega]; exact hI
    · rename_i c1 _ F1 N1 hI _ _
      rw [Int.toNat_natCast] at hI N1
      rw [innerL_stop (.inl (by omega))] at htgt
      rw [few_set (by omega) hf htgt] at hI
      refine .mk ⟨_, _, _, _, [(Fw, PySem.W.listOf (fs.set k (Value.int best tb)).toArray nF)], rfl, F1, N1, (fun p hp => List.mem_singleton.mp hp ▸ .head _), (fun p hp => .tail _ hp), hown, Fw, nF, _, rfl, ?_, rfl, rfl, rfl⟩
      rw [show zs.length - (i + 1) = k by omega]; exact hI
  · intro m₁ nx h tk hJ F N
    obtain ⟨Fw, nF, fs, rfl, hfi, m1, m2, m3⟩ := hJ
    rw [Nat.sub_self] at hfi
    replace hfi : IntsAre fs (fewL W zs.length zs) := hfi
    have flen := fewL_length W zs.length zs
    replace F : Fr s.heap L h _ := F
    replace N : News s.heap L h _ := N
    replace F := Fr.know3 F m1 m2 m3
    k_sweep
    show wpAny _ _ _ _ _ _
    k_steps
    have e : (fewL W zs.length zs).headD 0 = (fewL W zs.length zs).getD 0 0 := by cases fewL W zs.length zs <;> rfl
    refine hR _ _ _ [] F.keep .nil ?_
    show ∃ t, _ = _
    rw [e]; exact ⟨_, rfl⟩
end Mine

-- part R1
namespace Mine
set_option pp.deepTerms false
set_option pp.deepTerms.threshold 4

abbrev faultMro : List Value := [.ref 46, .type "Exception", .type "BaseException", .type "object"]
/-- the class of the fault stands in the heap -/
structure FaultCls (h : Heap) : Prop where
  cls : ∃ nm q bs hdct sn sub ab col dd k0 k1 k2 k3 k5, h.get? 59 = some (excClassObj nm q 59 58 bs faultMro hdct sn sub ab col dd k0 k1 k2 k3 k5 "Exception.__new__") ∧ hdct = true
theorem fault_cls {w : World} {h : Heap} (X : (Mine.hd.heap_39 w.params).In h) : FaultCls h := by
  revert X
  intro X
  exact ⟨⟨_, _, _, _, _, _, _, _, _, _, _, _, _, _, X 59 _ rfl, rfl⟩⟩

section
variable {prog : Program} {w : World} {A : Around} {E : Value → Shared → Prop} {h : Heap} {g : Array GenState} {d : Drawn} {t : Nat} {os : OsState}
variable {nm q : Str} {bs : List Value} {hdct : Bool} {sn : List Str} {sub : List Value} {ab : Bool} {col : Option Bool} {dd : Option Addr} {k0 k1 k2 k3 k5 : Option Value}
theorem fault_new_ok {M : Model} {rest : List Value} {Q : Unit → Shared → Prop} (hC : h.get? 59 = some (excClassObj nm q 59 58 bs faultMro hdct sn sub ab col dd k0 k1 k2 k3 k5 "Exception.__new__"))
    (hq : Q () ⟨h, g, d, t, os⟩) : wpAny M A (checkBuiltinCall "Exception.__new__" ⟨.ref 59 :: rest, []⟩) Q E ⟨h, g, d, t, os⟩ := by
  have F := PySem.F.excBase_Exception
  have hcont : (Value.ref 59 :: faultMro).contains (.type "Exception") = true := by decide +kernel
  have hstar := F.noStar
  simp only [checkBuiltinCall, F.newKind, F.newSplit, F.newRow]
  repeat (first | refine wpAny_loadPart_at hC ?_ | (refine wpAny_isSubtype_exc hC ?_; rw [hcont]) | refine wpAny_staticBase_exc hC ?_ | refine wpAny_madeBy_exc hC ?_ | simp only [bne_self_eq_false, Bool.false_eq_true, if_false] | wp_step)
  exact hq
theorem fault_new {rest : List Value} {R : Result → Shared → Prop} (hC : h.get? 59 = some (excClassObj nm q 59 58 bs faultMro hdct sn sub ab col dd k0 k1 k2 k3 k5 "Exception.__new__"))
    (hq : R (.ok (.ret (.ref (h.objs.size + 1)))) ⟨(h.push { cls := .type "tuple", data := .seq rest.toArray }).push
      { cls := .ref 59, data := .fields #[.ref h.objs.size, .none, .none, .none, .bool false, .none] }, g, d, t, os⟩) (hrest : rest.length ≤ sizeLine) :
    codeAny (model prog w) A (.builtin "Exception.__new__" ⟨.ref 59 :: rest, []⟩) R ⟨h, g, d, t, os⟩ := by
  have F := PySem.F.excBase_Exception
  have hends := F.ends
  have hcB : (Value.ref 59 :: faultMro).contains (.type "Exception") = true := by decide +kernel
  have hcA : (Value.ref 59 :: faultMro).contains (.type "AttributeError") = false := by decide +kernel
  have hcN : (Value.ref 59 :: faultMro).contains (.type "NameError") = false := by decide +kernel
  refine codeAny_builtinAt F.entry ?_
  unfold Builtin.«BaseException.__new__»
  refine PySem.wpAt_bind ?_
  show PySem.wpAt _ _ _ (stack >>= _) _ _ _
  refine PySem.wpAt_bind (PySem.wpAt_stack fun p below => PySem.wpAt_of_wpAny ?_)
  wp_walk
  refine PySem.wpAt_of_wpAny ?_
  rw [F.owner]
  repeat (first | with_reducible refine wpAny_madeHere_exc F.canon hC ?_ | with_reducible refine wpAny_loadPart_at hC ?_ | (with_reducible refine wpAny_isSubtype_exc hC ?_; first | rw [hcB] | rw [hcA] | rw [hcN]) | wp_step)
  show R _ _
  rw [Heap.size_push]
  exact hq

/-- the call of the fault's class: __new__, then the __init__ that its base writes -/
theorem fault_call {w : World} {rest : List Value} {Q : Value → Shared → Prop} (X : (Mine.hd.heap_39 w.params).In h) (hrest : rest.length ≤ sizeLine)
    (hq : ∀ h' e, Heap.MadeExcOf h h' e (.ref 59) rest →
      codeAny (model PySem.Challenge.rw_nz0268_01.row.prog w) (A.under (.builtin "type.__call__" ⟨.ref 59 :: rest, []⟩)) (.call (.ref 36) ⟨.ref e :: rest, []⟩) (InitBack e fun r s' => match r with | .ok (.ret v) => Q v s' | .ok _ => False | .error x => E x s') ⟨h', g, d, t, os⟩) :
    wpAny (model PySem.Challenge.rw_nz0268_01.row.prog w) A (call (.ref 59) rest) Q E ⟨h, g, d, t, os⟩ := by
  obtain ⟨nm, q, bs, hdct, sn, sub, ab, col, dd, k0, k1, k2, k3, k5, hC, rfl⟩ := (fault_cls X).cls
  have f1 := tc_lookup
  have f2 := tc_bind (.ref 59)
  have hT : (⟨h, g, d, t, os⟩ : Shared).TypeIs (.ref 59) "type" := ⟨_, hC, rfl⟩
  refine wpAny_call (codeAny_of_tree ?_)
  show wpAny _ _ (callAny (.ref 59) _) _ _ _
  repeat (any_goals (first | assumption | with_reducible refine wpAny_loadPart_at hC ?_ | wp_step))
  refine ⟨rfl, ?_⟩
  refine codeAny_call_builtin_at (Code.quiet_builtin _ (by decide +kernel)) entry_typeCall (wpAny_check_type_call_sub hC ?_)
  repeat (first | with_reducible refine wpAny_loadPart_at hC ?_ | with_reducible refine wpAny_madeBy_exc hC ?_ | wp_step)
  have F := PySem.F.excBase_Exception
  refine codeAny_call_builtin_code (Code.quiet_builtin _ F.quiet) (fault_new_ok hC ?_)
  refine fault_new hC ?_ hrest
  show wpAny _ _ _ _ _ _
  have hk : ∀ b o, h.get? b = some o → ((h.push { cls := .type "tuple", data := .seq rest.toArray }).push { cls := .ref 59, data := .fields #[.ref h.objs.size, .none, .none, .none, .bool false, .none] }).get? b = some o := fun b o e => Heap.get?_push_of_some _ (Heap.get?_push_of_some _ e)
  have hC₁ := hk _ _ hC
  have X₁ := X.keeps hk
  have hget : ((h.push { cls := .type "tuple", data := .seq rest.toArray }).push { cls := .ref 59, data := .fields #[.ref h.objs.size, .none, .none, .none, .bool false, .none] }).get? (h.objs.size + 1) = some { cls := .ref 59, data := .fields #[.ref h.objs.size, .none, .none, .none, .bool false, .none] } := by heap_get
  have hM : Heap.MadeExcOf h ((h.push { cls := .type "tuple", data := .seq rest.toArray }).push { cls := .ref 59, data := .fields #[.ref h.objs.size, .none, .none, .none, .bool false, .none] }) (h.objs.size + 1) (.ref 59) rest := ⟨hk, Heap.get?_none_of_le (Nat.le_succ _), h.objs.size, hget, Heap.get?_none_of_le (Nat.le_refl _), Heap.get?_push_of_some _ (Heap.get?_push_at rfl rfl)⟩
  have hcC : (Value.ref 59 :: faultMro).contains (.ref 59) = true := by simp
  unfold isInstance
  repeat (first | with_reducible refine wpAny_loadPart_at hget ?_ | (with_reducible refine wpAny_isSubtype_exc hC₁ ?_; rw [hcC]) | wp_step)
  refine wpAny_isSubtype_exc hC₁ ?_
  rw [hcC]
  repeat (first | with_reducible refine wpAny_loadPart_at hget ?_ | wp_step)
  show wpAny _ _ (typeLookup (.ref 59) _) _ _ _
  have hlook : findIn (Mine.hd.heap_39 w.params) (.ref 59) "__init__" = some (some (.ref 36)) := by kernel_rfl
  have hfn : typeIn (Mine.hd.heap_39 w.params) (.ref 36) = some (.type "function") := by kernel_rfl
  refine (looks_findIn X₁ hlook).here ?_
  refine wpAny_holding (wpAny_bind ((bind_fn X₁ _ hfn).here ?_))
  refine wpAny_bind (wpAny_call (codeAny_mono (hq _ _ hM) fun r s' z => ?_))
  rcases r with e | (v | _ | _ | _) <;> first | exact z | exact z.elim | skip
  obtain ⟨rfl, z⟩ := z
  wp_walk
  exact z
end

section
variable {prog : Program} {w : World} {A : Around} {s : Shared}
/-- a call that may change the objects of news -/
theorem enterN {K : Frag} {R : Result → Shared → Prop} {name qual : Str} {params : Arguments} {body : List Stmt} {scope : Scope} {dV kV doc pm cdv ct oc : Value} {an od : Option Addr} {osl : Array (Option Value)} {f : Addr} {args : Args} {binds : List (Str × Value)}
    (news : List (Addr × Obj)) (hN : ∀ p ∈ news, s.heap.get? p.1 = some p.2) (X : K.In (hideAll s.heap (news.map (·.1)))) (hlim : (hideAll s.heap (news.map (·.1))).NoLimit)
    (ho : K.lookup f = some ⟨oc, od, .func (fnOf name qual params body scope dV kV doc pm an cdv ct), osl⟩) (hcd : codeIn K cdv qual = true) (hroom : A.depth < recursionLimit)
    (hbind : BindsTo s (fnOf name qual params body scope dV kV doc pm an cdv ct) args binds) (hloc : ∀ y ∈ binds, scope.names.lookup y.1 = some .local)
    (h : ∀ L' h₁, Fr (hideAll s.heap (news.map (·.1))) L' h₁ (fun y => binds.reverse.lookup y) → News (hideAll s.heap (news.map (·.1))) L' h₁ news →
      wpAny (model prog w) (A.deeper (envOf qual scope L' f cdv)) (execs body (envOf qual scope L' f cdv))
        (fun fl s' => R (.ok (.ret (match fl with | .ret v => v | _ => .none))) s') (fun _ _ => False)
        { s with heap := h₁, toks := s.toks + binds.length })
    (hco : scope.isCoroutine = false := by rfl) (hgen : scope.isGenerator = false := by rfl) (hk : scope.kind = .function := by rfl)
    (hcell : ∀ x ∈ scope.names, x.2 ≠ .cell := by decide) : codeAny (model prog w) A (.call (.ref f) args) R s := by
  have st : ∀ b o, (hideAll s.heap (news.map (·.1))).get? b = some o → s.heap.get? b = some o := fun b o e => of_hideAll _ e
  refine codeAny_call_def (fd := fnOf name qual params body scope dV kV doc pm an cdv ct) (body := body) (binds := binds) hroom (st _ _ (X _ _ ho)) rfl (hlim.keeps st) (codeRec_of (X.keeps st) hcd) rfl hbind hcell hloc (fun h₁ hns hk₁ => ?_) hco hgen hk
  refine wpAny_mono (h _ h₁ ⟨hns, fun b o e => hk₁ b o (st b o e), Nat.le_of_eq (hideAll_size _ _)⟩ fun p hp => ⟨hk₁ _ _ (hN p hp), Nat.ne_of_lt (Heap.lt_size (hN p hp)), hideAll_none _ (List.mem_map_of_mem hp)⟩) (fun _ _ x => x) (fun _ _ x => x.elim)
end
set_option hygiene false in
local macro_rules | `(tactic| walk_at "my enterN") => `(tactic| ((case k1 => k_asm); (case k2 => exact Top.nolimit (by k_asm)); (case k6 => k_is); (case k7 => k_is); (case k8 => first | assumption | omega); (case k9 => exact binds_K (Frag.In.keeps (by k_asm) (fun b o e => of_hideAll _ e)) rfl (by k_is) rfl rfl rfl); (case c5 => decide); (case kB => exact locs rfl); (case c2 => exact rfl); (case c3 => exact rfl); (case c4 => exact rfl); k_whole; intro L h₁ F N; (try dsimp only [List.map] at F N)))

abbrev excObj (dx : Option Addr) (t : Addr) (tb : Value) : Obj := { cls := .ref 59, dict := dx, data := .fields #[.ref t, tb, .none, .none, .bool false, .none] }
section
variable {prog : Program} {w : World} {A : Around} {E : Value → Shared → Prop} {h : Heap} {g : Array GenState} {d : Drawn} {t : Nat} {os : OsState}
variable {nm q : Str} {bs : List Value} {hdct : Bool} {sn : List Str} {sub : List Value} {ab : Bool} {col : Option Bool} {dd : Option Addr} {k0 k1 k2 k3 k5 : Option Value}
theorem exc_init_call {e tt : Addr} {dx : Option Addr} {rest : List Value} {Q : Value → Shared → Prop} (hC : h.get? 59 = some (excClassObj nm q 59 58 bs faultMro hdct sn sub ab col dd k0 k1 k2 k3 k5 "Exception.__new__"))
    (he : h.get? e = some (excObj dx tt .none)) (hrest : rest.length ≤ sizeLine)
    (hq : ∀ h', Heap.SameBut e (h.push { cls := .type "tuple", data := .seq rest.toArray }) h' → h'.get? e = some (excObj dx h.objs.size .none) → Q .none ⟨h', g, d, t, os⟩) :
    wpAny (model prog w) A (call (.builtin "Exception.__init__") (.ref e :: rest)) Q E ⟨h, g, d, t, os⟩ := by
  have F := PySem.F.excBase_Exception
  have hcB : (Value.ref 59 :: faultMro).contains (.type "Exception") = true := by decide +kernel
  have hshort := F.noStar
  refine wpAny_call (codeAny_call_builtin F.init.plain F.initEntry ?_)
  simp only [checkBuiltinCall, F.initKind, F.initSplit, F.initRow]
  repeat (first | with_reducible refine wpAny_loadPart_at he ?_ | with_reducible refine wpAny_loadPart_at hC ?_ | (refine wpAny_isSubtype_exc hC ?_; rw [hcB]) | wp_step)
  refine wpAny_onRaise ?_
  rw [show ∀ (a b : String) (n : Nat), Bind.check ⟨.positional, "*", "Exception", .self, [⟨"args", .varPos, false⟩]⟩ a b n (List.map (fun x => x.fst) ({ pos := Value.ref e :: rest } : Args).kw) = pure () from
    fun a b n => check_star_args _ _ _ _ _ _]
  refine wpAny_pure ?_
  wp_walk
  exact hq _ (Heap.SameBut.update ..) ((Heap.get?_update_self _ (Heap.get?_push_of_some _ he) rfl).trans rfl)
end

section
variable {prog : Program} {A : Around} {E : Value → Shared → Prop} {s : Shared}
/-- Exception.__init__(self, what), by the ledger -/
theorem exc_init_N {w : World} {h₀ : Heap} {L e tt : Addr} {m : Str → Option Value} {dx : Option Addr} {rest : List Value} {Q : Value → Shared → Prop} (X : (Mine.hd.heap_39 w.params).In h₀)
    (F : Fr h₀ L s.heap m) (N : News h₀ L s.heap [(e, excObj dx tt .none)]) (hrest : rest.length ≤ sizeLine)
    (h : ∀ h' t', Fr h₀ L h' m → News h₀ L h' [(e, excObj dx t' .none)] → Q .none { s with heap := h' }) :
    wpAny (model prog w) A (call (.builtin "Exception.__init__") (.ref e :: rest)) Q E s := by
  obtain ⟨hh, g, d, t, os⟩ := s
  obtain ⟨nm, q, bs, hdct, sn, sub, ab, col, dd, k0, k1, k2, k3, k5, hC, rfl⟩ := (fault_cls (X.keeps F.keep)).cls
  have z := N _ (.head _)
  have F₁ := F.push { cls := .type "tuple", data := .seq rest.toArray }
  refine exc_init_call hC z.1 hrest fun h' hs he => h h' hh.objs.size (F₁.change hs z.2.1 z.2.2) fun p hp => ?_
  obtain rfl := List.mem_singleton.mp hp
  exact ⟨he, z.2⟩
end
end Mine

-- part R2
namespace Mine
open PySem.Builtin PySem.Builtin.ObjectAttr
set_option pp.deepTerms false
set_option pp.deepTerms.threshold 4

theorem refuse_fault (self : Value) : refuseLoop self "__setattr__" (.ref 59 :: faultMro) = pure () := by
  rw [refuseLoop_ref, refuseLoop_ref]
  exact PySem.F.store_Exception.passes self

section
variable {A : Around} {E : Value → Shared → Prop} {s : Shared} {w : World}
/-- object.__setattr__ upon the fault comes to the store in its own dict -/
theorem fault_setter {e t : Addr} {dx : Option Addr} {od : Option Obj} {tb : Value} {name : Str} {v : Value} {Q : Unit → Shared → Prop} (X : (Mine.hd.heap_39 w.params).In s.heap)
    (I : PySem.W.InstAt s.heap e (excObj dx t tb) 59 od)
    (hf : findIn (Mine.hd.heap_39 w.params) (.ref 59) name = some none)
    (h : wpAny (model PySem.Challenge.rw_nz0268_01.row.prog w) A.in1 (storeInOwnDict (.ref e) (.ref 59) (.str name s.toks) name v false)
      (fun fin s' => match fin with | .done (.ret _) => Q () s' | _ => False) (fun x s' => E x s') { s with toks := s.toks + 1 }) :
    wpAny (model PySem.Challenge.rw_nz0268_01.row.prog w) A (setAttr (.ref e) name v) Q E s := by
  refine set_plain X I (by kernel_rfl) ?_
  have SF := PySem.F.store_object
  have hm : Looks (model PySem.Challenge.rw_nz0268_01.row.prog w) s.heap (mroOf (.ref 59)) (.ref 59 :: faultMro) := by
    obtain ⟨nm, q, bs, hdct, sn, sub, ab, col, dd, k0, k1, k2, k3, k5, hC, rfl⟩ := (fault_cls X).cls
    intro A Q E s' k q'
    obtain ⟨hh, g, d, tt, os⟩ := s'
    exact wpAny_mroOf_exc (k _ _ hC) q'
  have sub : Looks (model PySem.Challenge.rw_nz0268_01.row.prog w) s.heap (isInstance (.ref e) (.type "object")) true := I.type.andThen (looks_mroIn X (by kernel_rfl))
  refine codeAny_call_builtin SF.slot.plain SF.entry (@check_slot (model PySem.Challenge.rw_nz0268_01.row.prog w) _ _ { s with toks := s.toks + 1 } "object.__setattr__" "object" "__setattr__" (.ref e) [.str name s.toks, v] [] _ SF.kind SF.split sub (SF.args (.ref e) (.str name s.toks) v) ?_)
  rw [osa_eq, refuse_eq]
  refine wpAny_bind (wpAny_bind (Looks.here (s := { s with toks := s.toks + 1 }) I.type (wpAny_bind (Looks.here (s := { s with toks := s.toks + 1 }) hm ?_))))
  rw [refuse_fault]
  refine wpAny_pure (wpAny_bind (Looks.here (s := { s with toks := s.toks + 1 }) I.type (wpAny_bind (Looks.here (s := { s with toks := s.toks + 1 }) (looks_findIn X hf) (wpAny_bind (wpAny_pure ?_))))))
  refine wpAny_mono h (fun fin s' z => ?_) fun _ _ z => z
  cases fin with
  | again c => exact z.elim
  | done f => cases f <;> first | exact z | exact z.elim

theorem fault_store_new {e t : Addr} {tb : Value} {name : Str} {v : Value} {Q : Unit → Shared → Prop} (X : (Mine.hd.heap_39 w.params).In s.heap)
    (he : s.heap.get? e = some (excObj none t tb)) (hf : findIn (Mine.hd.heap_39 w.params) (.ref 59) name = some none)
    (hq : ∀ h' D tk', h'.get? e = some (excObj (some D) t tb) → h'.Ns1 D (fun y => if y = name then some v else none) → s.heap.get? D = none → D ≠ e → (∀ b o, b ≠ e → s.heap.get? b = some o → h'.get? b = some o) → Q () { s with heap := h', toks := tk' }) :
    wpAny (model PySem.Challenge.rw_nz0268_01.row.prog w) A (setAttr (.ref e) name v) Q E s := by
  refine fault_setter (od := none) X ⟨he, rfl, rfl, trivial⟩ hf ?_
  obtain ⟨nm, q, bs, hdct, sn, sub, ab, col, dd, k0, k1, k2, k3, k5, hC, rfl⟩ := (fault_cls X).cls
  obtain ⟨h, g, d, tk, os⟩ := s
  dsimp only at he hC hq ⊢
  unfold storeInOwnDict ownStreamTells
  repeat ((fail_if_success (with_reducible show wpAny _ _ (nsSet _ _ _) _ _ _)); first | with_reducible refine wpAny_loadPart_at he ?_ | with_reducible refine wpAny_loadPart_at hC ?_ | wp_step)
  have hxs : e ≠ h.objs.size := Nat.ne_of_lt (Heap.lt_size he)
  have hx₁ : (h.push { cls := .type "dict", data := .dict #[] }).get? e = some (excObj none t tb) := Heap.get?_push_of_some _ he
  have hnd : ((h.push { cls := .type "dict", data := .dict #[] }).update e fun o => { cls := o.cls, dict := some h.objs.size, data := o.data, slots := o.slots }).Ns h.objs.size (fun _ => none) :=
    ⟨_, #[], _, (Heap.get?_update_ne _ _ _ _ hxs.symm).trans (Heap.get?_push_at rfl rfl), rfl, fun e he => absurd he (by simp), fun _ => rfl⟩
  refine wpAny_nsSet1 (Heap.Ns1.of_empty hnd) fun h' hn' hs => ?_
  obtain ⟨oD, esD, epD, hoD, hdD, hcD⟩ := hn'.count (Within.cons name v Within.nil)
  refine wpAny_bind (wpAny_lookBehind hoD (by rw [hdD]; exact pastItsLine_dict (Nat.le_trans hcD (by rw [List.length_cons, List.length_nil, sizeLine_eq]; omega))) ?_)
  wp_walk
  refine hq h' h.objs.size _ ((hs.2 e hxs).trans ((Heap.get?_update_self _ hx₁ rfl).trans rfl)) hn' (Heap.get?_none_of_le (Nat.le_refl _)) hxs.symm fun b o hb ho => ?_
  exact (hs.2 b (Nat.ne_of_lt (Heap.lt_size ho))).trans ((Heap.get?_update_ne _ _ _ _ hb).trans (Heap.get?_push_of_some _ ho))

theorem fault_store_old {e t D : Addr} {tb : Value} {name : Str} {v : Value} {mD : Str → Option Value} {ns : List Str} {Q : Unit → Shared → Prop} (X : (Mine.hd.heap_39 w.params).In s.heap)
    (he : s.heap.get? e = some (excObj (some D) t tb)) (hD : s.heap.Ns1 D mD) (hne : D ≠ e) (hw : Within mD ns) (hsz : ns.length ≤ 100) (hf : findIn (Mine.hd.heap_39 w.params) (.ref 59) name = some none)
    (hq : ∀ h' tk', h'.get? e = some (excObj (some D) t tb) → h'.Ns1 D (fun y => if y = name then some v else mD y) → (∀ b o, b ≠ D → s.heap.get? b = some o → h'.get? b = some o) → Q () { s with heap := h', toks := tk' }) :
    wpAny (model PySem.Challenge.rw_nz0268_01.row.prog w) A (setAttr (.ref e) name v) Q E s := by
  obtain ⟨oD, hoD⟩ : ∃ o, s.heap.get? D = some o := let ⟨o, _, _, ho, _⟩ := hD; ⟨o, ho⟩
  refine fault_setter (od := some oD) X ⟨he, rfl, rfl, hoD⟩ hf ?_
  obtain ⟨nm, q, bs, hdct, sn, sub, ab, col, dd, k0, k1, k2, k3, k5, hC, rfl⟩ := (fault_cls X).cls
  obtain ⟨h, g, d, tk, os⟩ := s
  dsimp only at he hC hq hD ⊢
  unfold storeInOwnDict ownStreamTells
  repeat ((fail_if_success (with_reducible show wpAny _ _ (nsSet _ _ _) _ _ _)); first | with_reducible refine wpAny_loadPart_at he ?_ | with_reducible refine wpAny_loadPart_at hC ?_ | wp_step)
  refine wpAny_nsSet1 hD fun h' hn' hs => ?_
  obtain ⟨oD, esD, epD, hoD, hdD, hcD⟩ := hn'.count (Within.cons name v hw)
  refine wpAny_bind (wpAny_lookBehind hoD (by rw [hdD]; exact pastItsLine_dict (Nat.le_trans hcD (by rw [List.length_cons, sizeLine_eq]; omega))) ?_)
  wp_walk
  exact hq h' _ ((hs.2 e hne.symm).trans he) hn' fun b o hb ho => (hs.2 b hb).trans ho
end

/-- the object is a dict of these names -/
def NsO (o : Obj) (m : Str → Option Value) : Prop := ∃ es ep, o.data = .dict es ep ∧ StrKeys es ∧ UniqKeys es ∧ ∀ name, nsFind es name = m name
theorem NsO.ns1 {h : Heap} {a : Addr} {o : Obj} {m : Str → Option Value} (x : NsO o m) (e : h.get? a = some o) : h.Ns1 a m := let ⟨es, ep, d, r⟩ := x; ⟨o, es, ep, e, d, r⟩
theorem nsO_of {h : Heap} {a : Addr} {m : Str → Option Value} (x : h.Ns1 a m) : ∃ o, h.get? a = some o ∧ NsO o m := let ⟨o, es, ep, e, d, r⟩ := x; ⟨o, e, es, ep, d, r⟩

section
variable {A : Around} {E : Value → Shared → Prop} {s : Shared} {w : World} {h₀ : Heap} {L e t : Addr} {m : Str → Option Value} {name : Str} {v : Value} {Q : Unit → Shared → Prop}
theorem fault_new_N (X : (Mine.hd.heap_39 w.params).In h₀) (F : Fr h₀ L s.heap m) (N : News h₀ L s.heap [(e, excObj none t .none)]) (hf : findIn (Mine.hd.heap_39 w.params) (.ref 59) name = some none)
    (h : ∀ h' D oD tk', Fr h₀ L h' m → News h₀ L h' [(e, excObj (some D) t .none), (D, oD)] → D ≠ e → NsO oD (fun y => if y = name then some v else none) → Q () { s with heap := h', toks := tk' }) :
    wpAny (model PySem.Challenge.rw_nz0268_01.row.prog w) A (setAttr (.ref e) name v) Q E s := by
  have z := N _ (.head _)
  refine fault_store_new (X.keeps F.keep) z.1 hf fun h' D tk' he hD hn hne hk => ?_
  obtain ⟨oD, hoD, hN⟩ := nsO_of hD
  have hDL : D ≠ L := Fr.newNe F hn
  have hkL : ∀ o, s.heap.get? L = some o → h'.get? L = some o := fun o ho => hk L o (Ne.symm z.2.1) ho
  refine h h' D oD tk' ⟨F.ns.at' hkL, fun b o ho => hk b o (fun q => by rw [q, z.2.2] at ho; cases ho) (F.keep b o ho), F.above⟩ (fun p hp => ?_) hne hN
  rcases List.mem_cons.mp hp with rfl | hp
  · exact ⟨he, z.2⟩
  · obtain rfl := List.mem_singleton.mp hp
    exact ⟨hoD, hDL, Fr.newBase F hn⟩
theorem fault_old_N {D : Addr} {oD : Obj} {mD : Str → Option Value} {ns : List Str} (X : (Mine.hd.heap_39 w.params).In h₀) (F : Fr h₀ L s.heap m) (N : News h₀ L s.heap [(e, excObj (some D) t .none), (D, oD)]) (hne : D ≠ e) (hD : NsO oD mD)
    (hw : Within mD ns) (hsz : ns.length ≤ 100) (hf : findIn (Mine.hd.heap_39 w.params) (.ref 59) name = some none)
    (h : ∀ h' oD' tk', Fr h₀ L h' m → News h₀ L h' [(e, excObj (some D) t .none), (D, oD')] → NsO oD' (fun y => if y = name then some v else mD y) → Q () { s with heap := h', toks := tk' }) :
    wpAny (model PySem.Challenge.rw_nz0268_01.row.prog w) A (setAttr (.ref e) name v) Q E s := by
  have z := N _ (.head _)
  have z' := N (D, oD) (.tail _ (.head _))
  refine fault_store_old (X.keeps F.keep) z.1 (hD.ns1 z'.1) hne hw hsz hf fun h' tk' he hD' hk => ?_
  obtain ⟨oD', hoD, hN⟩ := nsO_of hD'
  refine h h' oD' tk' ⟨F.ns.at' fun o ho => hk L o (Ne.symm z'.2.1) ho, fun b o ho => hk b o (fun q => by rw [q, z'.2.2] at ho; cases ho) (F.keep b o ho), F.above⟩ (fun p hp => ?_) hN
  rcases List.mem_cons.mp hp with rfl | hp
  · exact ⟨he, z.2⟩
  · obtain rfl := List.mem_singleton.mp hp
    exact ⟨hoD, z'.2⟩
end

set_option hygiene false in
local macro_rules | `(tactic| walk_at "my enterN") => `(tactic| ((case k1 => k_asm); (case k2 => exact Top.nolimit (by k_asm)); (case k6 => k_is); (case k7 => k_is); (case k8 => first | assumption | omega); (case k9 => exact binds_K (Frag.In.keeps (by k_asm) (fun b o e => of_hideAll _ e)) rfl (by k_is) rfl rfl rfl); (case c5 => decide); (case kB => exact locs rfl); (case c2 => exact rfl); (case c3 => exact rfl); (case c4 => exact rfl); k_whole; intro L h₁ F N; (try dsimp only [List.map] at F N)))
theorem meta_Exc : typeOf (.type "Exception") = pure (.type "type") := by kernel_rfl
local macro_rules | `(tactic| walk_at "getMethod type:Exception") => `(tactic| (k_here; refine' method_type ?F ?X ?m (by decide +kernel) ?e ?h ?_; (case F => k_asm); (case X => k_asm); (case m => exact meta_Exc); (case e => k_dflt k_is); (case h => k_handed)))
local macro_rules | `(tactic| walk_at "call builtin:Exception.__init__") => `(tactic| (k_here; refine' exc_init_N ?X ?F ?N ?z ?_; (case X => k_asm); (case F => k_asm); (case N => k_asm); (case z => exact Nat.le_of_ble_eq_true rfl); intro h' t' F' N'; (try k_sweep)))
local macro_rules | `(tactic| walk_at "setAttr ref") => `(tactic| (k_here; first
  | (refine' fault_new_N ?X ?F ?N ?f ?_; (case X => k_asm); (case F => k_asm); (case N => k_asm); (case f => kernel_rfl); intro h' D' o' tk' F' N' ne' d'; (try k_sweep))
  | (refine' fault_old_N ?X ?F ?N ?ne ?d ?w ?z ?f ?_; (case X => k_asm); (case F => k_asm); (case N => k_asm); (case ne => assumption); (case d => assumption); (case w => exact Within.cons _ _ Within.nil); (case z => decide); (case f => kernel_rfl); intro h' o' tk' F' N' d'; (try k_sweep))))

set_option maxHeartbeats 4000000 in
theorem fault_init {s : Shared} {A : Around} {w : World} {mean : ExcName → Option Value} {mg mb : Str → Option Value} {e t : Addr} {msg : Str} {t1 t2 : Tok} {i : Int} {R : Result → Shared → Prop}
    (Z : Lib w mean mg mb (hideAll s.heap [e])) (hd : A.depth < recursionLimit) (he : s.heap.get? e = some (excObj none t .none))
    (hR : ∀ h' tk D t' oD mD, (∀ b o, b ≠ e → s.heap.get? b = some o → h'.get? b = some o) → h'.get? e = some (excObj (some D) t' .none) → h'.get? D = some oD → s.heap.get? D = none → NsO oD mD → mD (Str.ofString "at") = some (.int i t2) → R (.ok (.ret .none)) { s with heap := h', toks := tk }) :
    codeAny (model PySem.Challenge.rw_nz0268_01.row.prog w) A (.call (.ref 36) ⟨[.ref e, .str msg t1, .int i t2], []⟩) R s := by
  w_top off
  obtain ⟨X, T⟩ := Z
  revert X; k_fill; intro X
  refine' enterN (binds := [(Str.ofString "self", .ref e), (Str.ofString "what", .str msg t1), (Str.ofString "at", .int i t2)]) [(e, excObj none t .none)] (fun p hp => by obtain rfl := List.mem_singleton.mp hp; exact he) ?k1 ?k2 ?k6 ?k7 ?k8 ?k9 ?kB ?_ ?c2 ?c3 ?c4 ?c5
  walk_at "my enterN"
  k_steps
  rename_i D _ _ ne _ _ oD _ F1 N1 hD
  refine hR _ _ D _ oD _ (fun b o hb ho => F1.keep b o (hideAll_get [e] ho (by simpa using hb))) (N1 _ (.head _)).1 (N1 (D, oD) (.tail _ (.head _))).1 ?_ hD rfl
  cases q : s.heap.get? D with
  | none => rfl
  | some o => have := (N1 (D, oD) (.tail _ (.head _))).2.2; rw [hideAll_get [e] q (by simpa using ne)] at this; cases this

section
variable {A : Around} {E : Value → Shared → Prop} {s : Shared} {w : World}
/-- SetFault(what, at): a new fault, its dict tells where -/
theorem fault_made {mean : ExcName → Option Value} {mg mb : Str → Option Value} {msg : Str} {t1 t2 : Tok} {i : Int} {Q : Value → Shared → Prop} (Z : Lib w mean mg mb s.heap) (hd : A.depth + 1 < recursionLimit)
    (h : ∀ h' tk e D t oD mD, (∀ b o, s.heap.get? b = some o → h'.get? b = some o) → s.heap.get? e = none → s.heap.get? D = none → D ≠ e → h'.get? e = some (excObj (some D) t .none) → h'.get? D = some oD → NsO oD mD → mD (Str.ofString "at") = some (.int i t2) → Q (.ref e) { s with heap := h', toks := tk }) :
    wpAny (model PySem.Challenge.rw_nz0268_01.row.prog w) A (call (.ref 59) [.str msg t1, .int i t2]) Q E s := by
  obtain ⟨hh, g, d, tk, os⟩ := s
  refine fault_call Z.K (Nat.le_of_ble_eq_true rfl) fun h' e hm => ?_
  obtain ⟨t, ht, -, -⟩ := hm.there
  have hk : ∀ b o, hh.get? b = some o → (hideAll h' [e]).get? b = some o := fun b o ho => hideAll_get [e] (hm.keeps b o ho) (by
    intro q; rw [List.mem_singleton.mp q, hm.new] at ho; cases ho)
  refine fault_init (s := ⟨h', g, d, tk, os⟩) (Z.keeps hk) ?_ ht fun h'' tk' D t' oD mD k he hD hDn hN hat => ?_
  · simp only [depth_under_make]; exact hd
  · have hDn' : hh.get? D = none := none_of_keeps hm.keeps hDn
    refine ⟨rfl, h h'' tk' e D t' oD mD (fun b o ho => k b o (fun q => by rw [q, hm.new] at ho; cases ho) (hm.keeps b o ho)) hm.new hDn' ?_ he hD hN hat⟩
    rintro rfl; rw [ht] at hDn; cases hDn
end
end Mine

-- part R3
namespace Mine
set_option pp.deepTerms false
set_option pp.deepTerms.threshold 4

/-- the fault in flight, its dict told, over what stays -/
structure Fly (B : Heap) (l : List Env) (e D t : Addr) (fl : Value) (h : Heap) : Prop where
  stays : B.StaysIn h
  enew : B.get? e = none
  frames : h.FunFrames B l
  exc : ∃ T oT ts, h.get? e = some (excObj (some D) t (.ref T)) ∧ B.get? T = none ∧ T ≠ e ∧ h.get? T = some oT ∧ oT.data = .fields ts ∧ ts[3]? = some fl

section
variable {M : Model} {A : Around} {E : Value → Shared → Prop} {s : Shared} {B : Heap} {env : Env} {outer l : List Env} {L e D t : Addr} {fl : Value} {Q : Unit → Shared → Prop}
/-- a new entry of the traceback -/
theorem fly_entry {tb head : Value} {hadNext : Bool} (hfr : A.frames = some (env :: outer)) (hl : s.heap.FunFrames B (env :: outer)) (hf : env.frame = some L) (he : s.heap.get? e = some (excObj (some D) t tb)) (hB : B.StaysIn s.heap) (hen : B.get? e = none)
    (h : ∀ h', Fly B (env :: outer) e D t (rawInt L) h' → s.heap.UpToSlots h' → Q () { s with heap := h' }) :
    wpAny M A (do let a ← frameOf env; let pl ← entryPlaceOf L hadNext; let b ← EntryCells.newEntry head a .none (rawInt L) .none pl; setField (.ref e) 1 b) Q E s := by
  have hene : e ∉ (env :: outer).filterMap (·.frame) := fun hm => by
    obtain ⟨_, o, ho, hnf⟩ := hl.mem hm
    rw [he] at ho; injection ho with ho; subst ho; exact hnf _ rfl
  refine wpAny_bind (wpAny_frameOf_fun hfr hl hf fun h₁ hs₁ => wpAny_bind (wpAny_entryPlaceOf fun pl hpl => ?_))
  unfold EntryCells.newEntry newFields
  refine wpAny_bind (wpAny_newObj_type ?_ (hpl.sizeOk5 _ _ _ _ _))
  have e1 : h₁.get? e = some (excObj (some D) t tb) := (hs₁.2.1 e hene).trans he
  have kB : B.StaysIn h₁ := fun b o hb => (hs₁.2.1 b fun hm => by rw [(hl.mem hm).1] at hb; cases hb).trans (hB b o hb)
  refine wpAny_setField (Heap.get?_push_of_some _ e1) rfl (show 1 < 6 from by decide) (h _ ?_ fun b o hb hnf => ?_)
  · have hTe : h₁.objs.size ≠ e := Nat.ne_of_gt (Heap.lt_size e1)
    refine ⟨fun b o hb => ?_, hen, hl.of_keeps fun b o hb hnf => ?_, h₁.objs.size, _, _, (Heap.get?_update_self _ (Heap.get?_push_of_some _ e1) rfl).trans rfl, kB.fresh, hTe, (Heap.get?_update_other _ _ (Ne.symm hTe)).trans (Heap.get?_push_size h₁ rfl), rfl, ?_⟩
    · rw [Heap.get?_update_other _ _ (fun q => by rw [← q, hen] at hb; cases hb)]
      exact Heap.get?_push_of_some _ (kB b o hb)
    · obtain ⟨sl, hs⟩ := hs₁.2.2 b o hb
      refine ⟨_, (Heap.get?_update_other _ _ fun q => ?_).trans (Heap.get?_push_of_some _ hs), rfl⟩
      rw [← q, he] at hb; cases hb; exact hnf _ rfl
    · first | (simp; done) | (rcases hpl with rfl | ⟨_, _, _, _, _, _, _, rfl⟩ <;> simp)
  · obtain ⟨sl, hs⟩ := hs₁.2.2 b o hb
    refine ⟨sl, (Heap.get?_update_other _ _ fun q => ?_).trans (Heap.get?_push_of_some _ hs)⟩
    rw [← q, he] at hb; cases hb; exact hnf _ rfl
/-- the first frame notes it -/
theorem fly_note1 (hfr : A.frames = some (env :: outer)) (hl : s.heap.FunFrames B (env :: outer)) (hf : env.frame = some L) (he : s.heap.get? e = some (excObj (some D) t .none)) (hB : B.StaysIn s.heap) (hen : B.get? e = none)
    (h : ∀ h', Fly B (env :: outer) e D t (rawInt L) h' → s.heap.UpToSlots h' → Q () { s with heap := h' }) : wpAny M A (noteFrame (.ref e) env) Q E s := by
  unfold noteFrame
  simp only [hf]
  refine wpAny_bind (wpAny_field (x := .none) he rfl rfl ?_)
  rw [if_neg (by decide)]
  exact fly_entry hfr hl hf he hB hen h
/-- a frame further out notes it -/
theorem fly_note2 (hfr : A.frames = some (env :: outer)) (hf : env.frame = some L) (x : Fly B (env :: outer) e D t .none s.heap)
    (h : ∀ h', Fly B (env :: outer) e D t (rawInt L) h' → s.heap.UpToSlots h' → Q () { s with heap := h' }) : wpAny M A (noteFrame (.ref e) env) Q E s := by
  obtain ⟨hB, hen, hl, T, oT, ts, he, hTB, hTe, hT, hTd, h3⟩ := x
  unfold noteFrame
  simp only [hf]
  refine wpAny_bind (wpAny_field (x := .ref T) he rfl rfl ?_)
  rw [if_pos (show (Value.ref T != Value.none) = true from by simp)]
  refine wpAny_bind (wpAny_field hT hTd h3 ?_)
  rw [if_neg (show ¬ ((Value.none == rawInt L) = true) from by simp [rawInt])]
  refine wpAny_bind (wpAny_setField hT hTd (Array.getElem?_eq_some_iff.mp h3).1 ?_)
  have other : ∀ b, b ≠ T → (s.heap.update T (Obj.mapFields (·.setIfInBounds 3 Value.none))).get? b = s.heap.get? b := fun b hb => Heap.get?_update_other _ _ (Ne.symm hb)
  have notT : ∀ b o, s.heap.get? b = some o → (∀ vs, o.data ≠ .fields vs) → b ≠ T := fun b o hb hnf q => by
    rw [q, hT] at hb; cases hb; exact hnf _ hTd
  refine fly_entry hfr (hl.of_keeps fun b o hb hnf => ⟨o, (other b (notT b o hb hnf)).trans hb, rfl⟩) hf ((other e (Ne.symm hTe)).trans he) (fun b o hb => (other b fun q => by rw [q, hTB] at hb; cases hb).trans (hB b o hb)) hen fun h' y k => ?_
  exact h h' y fun b o hb hnf => k b o ((other b (notT b o hb hnf)).trans hb) hnf
/-- the frame that has noted it notes nothing more -/
theorem fly_again (hf : env.frame = some L) (x : Fly B l e D t (rawInt L) s.heap) (h : Q () s) : wpAny M A (noteFrame (.ref e) env) Q E s := by
  obtain ⟨_, _, _, T, oT, ts, he, hTB, hTe, hT, hTd, h3⟩ := x
  unfold noteFrame
  simp only [hf]
  refine wpAny_bind (wpAny_field (x := .ref T) he rfl rfl ?_)
  rw [if_pos (show (Value.ref T != Value.none) = true from by simp)]
  refine wpAny_bind (wpAny_field hT hTd h3 ?_)
  rw [if_pos (show (rawInt L == rawInt L) = true from by simp)]
  exact wpAny_pure h
theorem fly_lands (x : Fly B l e D t fl s.heap) (h : ∀ h', Fly B l e D t .none h' → s.heap.UpToSlots h' → Q () { s with heap := h' }) : wpAny M A (setFlight (.ref e) none) Q E s := by
  obtain ⟨hB, hen, hl, T, oT, ts, he, hTB, hTe, hT, hTd, h3⟩ := x
  have other : ∀ b, b ≠ T → (s.heap.update T (Obj.mapFields (·.setIfInBounds 3 ((none : Option Addr).elim Value.none fun f => rawInt f)))).get? b = s.heap.get? b :=
    fun b hb => Heap.get?_update_other _ _ (Ne.symm hb)
  have notT : ∀ b o, s.heap.get? b = some o → (∀ vs, o.data ≠ .fields vs) → b ≠ T := fun b o hb hnf q => by
    rw [q, hT] at hb; cases hb; exact hnf _ hTd
  have h3' := (Array.getElem?_eq_some_iff.mp h3).1
  unfold setFlight
  refine wpAny_bind (wpAny_field (x := .ref T) he rfl rfl ?_)
  rw [if_pos (show (Value.ref T != Value.none) = true from by simp)]
  refine wpAny_setField hT hTd h3' (h _ ⟨fun b o hb => (other b fun q => by rw [q, hTB] at hb; cases hb).trans (hB b o hb), hen, hl.of_keeps fun b o hb hnf => ⟨o, (other b (notT b o hb hnf)).trans hb, rfl⟩,
    T, _, _, (other e (Ne.symm hTe)).trans he, hTB, hTe, Heap.get?_update_self _ hT (Obj.isFreed_of_fields (Obj.data_mapFields hTd _)), Obj.data_mapFields hTd _, by simp [h3']⟩ fun b o hb hnf => ⟨o.slots, (other b (notT b o hb hnf)).trans hb⟩)
/-- the fault leaves the frame that made it -/
theorem fly_leaves (hfr : A.frames = some (env :: outer)) (hl : s.heap.FunFrames B (env :: outer)) (hf : env.frame = some L) (he : s.heap.get? e = some (excObj (some D) t .none)) (hB : B.StaysIn s.heap) (hen : B.get? e = none)
    (h : ∀ h', Fly B outer e D t .none h' → s.heap.UpToSlots h' → Q () { s with heap := h' }) : wpAny M A (leaving env (.ref e)) Q E s := by
  unfold leaving
  refine wpAny_bind (fly_note1 hfr hl hf he hB hen fun h' x k => fly_lands x fun h'' y k' => h h'' ?_ (k.trans k'))
  obtain ⟨a, b, ⟨_, _, c⟩, d⟩ := y
  exact ⟨a, b, c, d⟩
end

section
variable {A : Around} {E : Value → Shared → Prop} {s : Shared} {w : World} {env : Env} {Q : Flow → Shared → Prop}
/-- raise upon an expression that makes the fault -/
theorem Raise_fault {x : Expr} {pos : Pos} (hh : A.handled = none)
    (h : wpAny (model PySem.Challenge.rw_nz0268_01.row.prog w) A (eval x env) (fun v s₁ => Stop (∃ e D t, v = .ref e ∧ (Mine.hd.heap_39 w.params).In s₁.heap ∧ s₁.heap.get? e = some (excObj (some D) t .none) ∧ E (.ref e) s₁)) E s) :
    wpAny (model PySem.Challenge.rw_nz0268_01.row.prog w) A (exec (.Raise (some x) none pos) env) Q E s := by
  show wpAny _ A (do standAt pos; raiseStmt env (some (do let v ← eval x env; standAt pos; pure v)) none) Q E s
  refine wpAny_bind (wpAny_standAt ?_)
  unfold raiseStmt
  dsimp only
  refine wpAny_bind (wpAny_bind (wpAny_mono h (fun v s₁ h₁ => wpAny_bind (wpAny_standAt (wpAny_pure ?_))) fun _ _ x => x))
  obtain ⟨e, D, t, rfl, X, he, hE⟩ := h₁.go
  obtain ⟨nm, q, bs, hdct, sn, sub, ab, col, dd, k0, k1, k2, k3, k5, hC, rfl⟩ := (fault_cls X).cls
  have hcB : (Value.ref 59 :: faultMro).contains (.type "BaseException") = true := by decide +kernel
  obtain ⟨hp, g, d, tk, os⟩ := s₁
  dsimp only at he hC
  repeat (first | with_reducible refine wpAny_loadPart_at he ?_ | with_reducible refine wpAny_loadPart_at hC ?_ | (refine wpAny_isSubtype_exc hC ?_; rw [hcB]) | wp_step)
  exact wpAny_raiseNew_none hh hE
end
section
variable {prog : Program} {w : World} {A : Around} {s : Shared}
/-- a call that may raise -/
theorem enterR {K : Frag} {R : Result → Shared → Prop} {name qual : Str} {params : Arguments} {body : List Stmt} {scope : Scope} {dV kV doc pm cdv ct oc : Value} {an od : Option Addr} {osl : Array (Option Value)} {f : Addr} {args : Args} {binds : List (Str × Value)}
    (X : K.In s.heap) (hlim : s.heap.NoLimit)
    (ho : K.lookup f = some ⟨oc, od, .func (fnOf name qual params body scope dV kV doc pm an cdv ct), osl⟩) (hcd : codeIn K cdv qual = true) (hroom : A.depth < recursionLimit)
    (hbind : BindsTo s (fnOf name qual params body scope dV kV doc pm an cdv ct) args binds) (hloc : ∀ y ∈ binds, scope.names.lookup y.1 = some .local)
    (h : ∀ L' h₁, Fr s.heap L' h₁ (fun y => binds.reverse.lookup y) →
      wpAny (model prog w) (A.deeper (envOf qual scope L' f cdv)) (execs body (envOf qual scope L' f cdv))
        (fun fl s' => R (.ok (.ret (match fl with | .ret v => v | _ => .none))) s') (fun e s' => wpAny (model prog w) (A.deeper (envOf qual scope L' f cdv)) (leaving (envOf qual scope L' f cdv) e) (fun _ s'' => R (.error e) s'') (fun e' s'' => R (.error e') s'') s')
        { s with heap := h₁, toks := s.toks + binds.length })
    (hco : scope.isCoroutine = false := by rfl) (hgen : scope.isGenerator = false := by rfl) (hk : scope.kind = .function := by rfl)
    (hcell : ∀ x ∈ scope.names, x.2 ≠ .cell := by decide) : codeAny (model prog w) A (.call (.ref f) args) R s := by
  refine codeAny_call_def (fd := fnOf name qual params body scope dV kV doc pm an cdv ct) (body := body) (binds := binds) hroom (X _ _ ho) rfl hlim (codeRec_of X hcd) rfl hbind hcell hloc (fun h₁ hns hk₁ => ?_) hco hgen hk
  exact h _ h₁ ⟨hns, hk₁, Nat.le_refl _⟩
end
end Mine

-- part S4
namespace Mine
set_option pp.deepTerms false
set_option pp.deepTerms.threshold 4
set_option hygiene false in
local macro_rules | `(tactic| walk_at "my enter") => `(tactic| ((case k1 => k_asm); (case k2 => exact Top.nolimit (by k_asm)); (case k6 => k_is); (case k7 => k_is); (case k8 => first | assumption | omega); (case k9 => exact BindsTo.of_eq rfl); (case c5 => decide); (case kB => exact locs rfl); (case c2 => exact rfl); (case c3 => exact rfl); (case c4 => exact rfl); k_whole; intro L h₁ F; (try dsimp only [List.reverse, List.reverseAux]); (have N : News s.heap L h₁ [] := News.nil)))
local macro_rules | `(tactic| walk_at "call ref") => `(tactic| (k_here; (with_reducible show wpAny _ _ (call (Value.ref 75) [_]) _ _ _); (refine' call_by0 ?k1 ?k2 (show_pair_spec ?k3 ?k4 ?k5 ?k6 ?k7 ?k8) ?_; (case k1 => k_asm); (case k2 => k_asm); (case k3 => exact Lib.mk (Frag.In.keeps (by k_asm) (Fr.keep (by k_asm))) (Top.keeps (by k_asm) (Fr.keep (by k_asm)))); (case k4 => first | assumption | (simp only [depth_deeper]; omega)); (case k6 => assumption); (case k5 => first | assumption | exact Rel.le.keeps (by assumption) (Fr.keep (by k_asm))); (case k7 => assumption); (case k8 => assumption); k_whole); intro h' tk' v' F' N' k' g'; obtain ⟨t', e'⟩ := g'; subst e'; try k_sweep))
local macro_rules | `(tactic| walk_at "pyIter ref") => `(tactic| (k_here; (with_reducible show wpAny _ _ (pyIter (Value.ref _)) (fun it s₂ => LoopAtV _ _ _ _ _ _ _ _ _ it s₂) _ _); refine halt ?_))
local macro_rules | `(tactic| walk_at "InvPostG") => `(tactic| (dsimp only [InvPostG]; refine halt ?_))
local macro_rules | `(tactic| walk_at "subscriptTail") => `(tactic| (k_here; (with_reducible show wpAny _ _ (subscriptTail _ _ (Value.ref _) (Value.int _ _)) _ _ _); k_dflt (refine' item_tupleT ?t ?a ?b ?c ?d ?_; (case t => exact IsTup.keeps (by assumption) (Fr.keep (by k_asm))); (case a => omega); (case b => omega); (case c => assumption); (case d => assumption); k_whole)))
local macro_rules | `(tactic| walk_at "call type:tuple") => `(tactic| (k_here; (with_reducible show wpAny _ _ (call (Value.type _) [Value.ref _]) _ _ _); k_dflt (refine' kde_tupleOf ?k1 ?k2 ?k3 ?k4 ?k5 ?_; (case k1 => k_asm); (case k2 => k_asm); (case k3 => exact News.isList (by k_asm) (by k_mem)); (case k4 => rw [List.size_toArray, List.length_map]; omega); (case k5 => exact List.toList_toArray); k_whole); intro D' h' F' N' l1; (try k_lt l1); (try k_sweep)))
local macro_rules | `(tactic| walk_at "call builtin:len") => `(tactic| (k_here; (with_reducible show wpAny _ _ (call (Value.builtin "len") [Value.ref _]) _ _ _); k_dflt (refine' call_len_list ?l ?f ?_; (case l => exact News.isList (by k_asm) (by k_mem)); (case f => omega); k_whole)))
local macro_rules | `(tactic| k_all) => `(tactic| first | exact off_of_lt (by assumption) | exact off_of_lt (And.right (by assumption)) | exact off_of_lt (And.right (And.right (by assumption))) | exact off_of_lt (And.right (And.right (And.right (by assumption)))) | exact off_of_lt (And.right (And.right (And.right (And.right (by assumption))))))

local macro_rules | `(tactic| walk_at "call ref") => `(tactic| (k_here; (with_reducible show wpAny _ _ (call (Value.ref 59) [_, _]) _ _ _); (refine' fault_made ?k3 ?k4 ?_; (case k3 => exact Lib.mk (Frag.In.keeps (by k_asm) (Fr.keep (by k_asm))) (Top.keeps (by k_asm) (Fr.keep (by k_asm)))); (case k4 => first | assumption | (simp only [depth_deeper]; omega)); k_whole); intro h' tk' e' D' t' oD' mD' kp ne1 ne2 ne3 he' hD' hN' hat'; refine halt ?_))
local macro_rules | `(tactic| walk_at "exec Raise some none") => `(tactic| (k_here; (refine' Raise_fault ?hh ?_; (case hh => assumption); k_whole)))

def SplitJ2 (a : Addr) (W : Int) (tw : Tok) (xs : List Item) (i : Nat) (m : Str → Option Value) (news : List (Addr × Obj)) : Prop := SplitJ a W tw xs i m news ∧ ∀ x ∈ xs.take i, psize x ≤ W
theorem split_end2 {s₀ : Heap} {L a : Addr} {W : Int} {tw : Tok} {xs : List Item} {i : Nat} {own : List (Addr × Obj)} {s₁ s₂ : Shared} (x : InvEndG s₀ L (SplitJ a W tw xs i) own s₁ s₂) (y : ∀ x ∈ xs.take i, psize x ≤ W) : InvEndG s₀ L (SplitJ2 a W tw xs i) own s₁ s₂ := by
  obtain ⟨h', tk, m', news', nx, e, F, N, a1, a2, a3, J⟩ := x
  exact ⟨h', tk, m', news', nx, e, F, N, a1, a2, a3, J, y⟩
/-- what a fault out of split_set is, as the caller sees it -/
def FaultOut (s : Shared) (outer : List Env) (W : Int) (xs : List Item) (R : Result → Shared → Prop) : Prop :=
  ∀ (j : Nat) (e D t : Addr) (tj : Tok) (h' : Heap) (tk : Nat) (oD : Obj) (mD : Str → Option Value), (∀ x ∈ xs.take j, psize x ≤ W) → (∃ x, xs[j]? = some x ∧ W < psize x) →
    Fly (hideAll s.heap (outer.filterMap (·.frame))) outer e D t .none h' → s.heap.UpToSlots h' → s.heap.get? D = none → h'.get? D = some oD → NsO oD mD → mD (Str.ofString "at") = some (.int j tj) → R (.error (.ref e)) { s with heap := h', toks := tk }

theorem fault_out {s : Shared} {h : Heap} {A : Around} {prog : Program} {w : World} {E : Value → Shared → Prop} {name : Str} {scope : Scope} {L a e D t : Addr} {cd : Value} {outer : List Env} {m : Str → Option Value} {tk : Nat} {Q : Unit → Shared → Prop}
    (hfr : A.frames = some outer) (hfun : s.heap.FunFrames (hideAll s.heap (outer.filterMap (·.frame))) outer) (hk : scope.kind = .function)
    (F : Fr s.heap L h m) (he : h.get? e = some (excObj (some D) t .none)) (hen : s.heap.get? e = none)
    (hQ : ∀ h', Fly (hideAll s.heap (outer.filterMap (·.frame))) outer e D t .none h' → h.UpToSlots h' → Q () { s with heap := h', toks := tk }) :
    wpAny (model prog w) (A.deeper (envOf name scope L a cd)) (leaving (envOf name scope L a cd) (.ref e)) Q E { s with heap := h, toks := tk } := by
  have none_hide : ∀ {b}, s.heap.get? b = none → (hideAll s.heap (outer.filterMap (·.frame))).get? b = none := fun {b} q => by
    cases z : (hideAll s.heap (outer.filterMap (·.frame))).get? b with
    | none => rfl
    | some o => rw [of_hideAll _ z] at q; cases q
  have hL : s.heap.get? L = none := by
    cases z : s.heap.get? L with
    | none => rfl
    | some o => exact absurd (Nat.lt_of_lt_of_le (Heap.lt_size z) F.above) (Nat.lt_irrefl _)
  refine fly_leaves (L := L) (B := hideAll s.heap (outer.filterMap (·.frame))) (Around.frames_deeper hfr) (.cons (by show scope.kind ≠ .module; rw [hk]; decide) rfl F.ns (none_hide hL) (hfun.of_keeps fun b o e _ => ⟨o, F.keep b o e, rfl⟩)) rfl he (fun b o q => F.keep b o (of_hideAll _ q)) (none_hide hen) hQ

set_option maxHeartbeats 4000000 in
theorem split_set_core {w : World} {s : Shared} {A : Around} {mean : ExcName → Option Value} {mg mb : Str → Option Value} {ps : List (Int × Int)} {vs : List Value} {v : Value} {W : Int} {tw : Tok} {φ : Rel}
    (Z : Lib w mean mg mb s.heap) (hh : A.handled = none) (hd : A.depth + 2 < recursionLimit) (hφ : φ.le s.heap) (hv : SetR φ v vs ps) (hs : ∀ p ∈ ps, SmallP p) (hl : ps.length ≤ 10)
    {outer : List Env} {R : Result → Shared → Prop} (hfr : A.frames = some outer) (hfun : s.heap.FunFrames (hideAll s.heap (outer.filterMap (·.frame))) outer)
    (hR : (∀ x ∈ vs.zip ps, psize x ≤ W) → Ret s φ R (fun ψ v => CutR ψ v (cutL psize W (vs.zip ps)))) (hF : FaultOut s outer W (vs.zip ps) R) :
    codeAny (model PySem.Challenge.rw_nz0268_01.row.prog w) A (.call (.ref 87) ⟨[v, .int W tw], []⟩) R s := by
  w_top off
  obtain ⟨X, T⟩ := Z
  obtain ⟨a, n, rfl, ha, hp⟩ := hv
  have hP : IsTup s.heap a vs.toArray := ⟨_, hφ _ _ ha, rfl, _, rfl⟩
  have hvl : vs.length ≤ 10 := by rw [hp.length]; exact hl
  have hsz : vs.toArray.size ≤ 10 := by rw [List.size_toArray]; exact hvl
  revert X; k_fill; intro X
  refine' enterR (binds := [(Str.ofString "some", .ref a), (Str.ofString "width", .int W tw)]) ?k1 ?k2 ?k6 ?k7 ?k8 ?k9 ?kB ?_ ?c2 ?c3 ?c4 ?c5
  walk_at "my enter"
  k_steps
  rename_i P _ _ _ _ Rw _ hPR _ _ _ _ _ _ _ _ _ hRg F2 N2 _
  refine .mk (range_loop (n := vs.length) (SplitJ2 a W tw (vs.zip ps)) (by exact hh) hRg (small_one (by decide) (by decide) (by omega) (by omega)) (by rw [rangeSize_one, List.size_toArray]; split <;> omega) F2 (News.swap N2) ⟨⟨P, Rw, _, _, _, [], rfl, rfl, Nat.ne_of_lt hPR, (fun _ h => nomatch h), rfl, rfl, rfl, rfl, rfl⟩, fun _ h => nomatch h⟩ ?_ ?_)
  · intro i t m₁ nx h tk own hi hoff hJ F N
    obtain ⟨⟨P, Rw, nP, nR, tu, ts, rfl, hpc, hPR, hts, m1, m2, m3, m4, m5⟩, hJW⟩ := hJ
    obtain ⟨p, hip, hpr⟩ := hp.get i vs[i] (by simp [hi])
    have hvi : vs[i]? = some vs[i] := by simp [hi]
    obtain ⟨hs1, hs2⟩ := hs p (List.mem_of_getElem? hip)
    have hpl := pairTxt_le ⟨hs1, hs2⟩
    have hpp := pairTxt_pos ⟨hs1, hs2⟩
    have hxl : (vs.zip ps).length = vs.length := by rw [List.length_zip, hp.length, Nat.min_self]
    have hxi : (vs.zip ps).take (i + 1) = (vs.zip ps).take i ++ [(vs[i], p)] := by
      have e : (vs.zip ps)[i]? = some (vs[i], p) := List.getElem?_zip_eq_some.mpr ⟨hvi, hip⟩
      rw [List.take_add_one, e]; rfl
    have hxe : (vs.zip ps)[i]? = some (vs[i], p) := List.getElem?_zip_eq_some.mpr ⟨hvi, hip⟩
    have hrl := Cut.row_le psize W ((vs.zip ps).take i)
    rw [List.length_take] at hrl
    replace F : Fr s.heap L h _ := F
    replace N : News s.heap L h _ := N
    generalize hc : Cut.upto psize W ((vs.zip ps).take i) = c at *
    have hrs : (c.row.map (·.1)).toArray.size ≤ 10 := by rw [List.size_toArray, List.length_map]; omega
    have hps' : (ts.map fun q => Value.ref q.1).toArray.size ≤ 10 := by rw [List.size_toArray, List.length_map, ← List.length_map (f := (·.2)), ← hpc]; omega
    have hsi : seqIndex? (i : Int) vs.length = some i := by rw [seqIndex_at (by omega) (by omega)]; rfl
    generalize vs[i] = vi at *
    have hown : OwnOff (ts.map (fun q => (q.1, tupOf (q.2.map (·.1)))) ++ own) [P, Rw] := by
      intro q hq b hb
      rcases List.mem_append.mp hq with hq | hq
      · exact hts q hq b hb
      · exact hoff q hq b (by rcases List.mem_cons.mp hb with rfl | hb; · exact .head _
                              · obtain rfl := List.mem_singleton.mp hb; exact .tail _ (.head _))
    rw [List.cons_append, List.cons_append] at N
    generalize htl : ts.map (fun q => (q.1, tupOf (q.2.map (·.1)))) ++ own = tl at *
    rw [show (0 : Int) + (i : Int) * 1 = i by omega] at F
    replace F := Fr.know5 F ((if_neg (by decide)).trans m1) ((if_neg (by decide)).trans m2) ((if_neg (by decide)).trans m3) ((if_neg (by decide)).trans m4) ((if_neg (by decide)).trans m5)
    k_sweep
    show wpAny _ _ _ _ _ _
    (try k_fold)
    have hts1 : ∀ q ∈ ts, (q.1, tupOf (q.2.map (·.1))) ∈ tl := fun q hq => by rw [← htl]; exact List.mem_append_left _ (List.mem_map.mpr ⟨q, hq, rfl⟩)
    have hown1 : ∀ q ∈ own, q ∈ tl := fun q hq => by rw [← htl]; exact List.mem_append_right _ hq
    have hown2 : ∀ p ∈ own, ∀ q ∈ ts, p.1 ≠ q.1 := fun p hp q hq => hoff p hp q.1 (List.mem_map.mpr ⟨(q.1, tupOf (q.2.map (·.1))), List.mem_cons_of_mem _ (List.mem_cons_of_mem _ (List.mem_map.mpr ⟨q, hq, rfl⟩)), rfl⟩)
    have hupto : Cut.upto psize W ((vs.zip ps).take (i + 1)) = Cut.step psize W c (vi, p) := by rw [hxi, Cut.upto_snoc, hc]
    by_cases hWi : ((pairTxt p).length : Int) ≤ W
    case neg =>
      k_steps
      rename_i h' tk' e D t' oD mD kp ne1 ne2 ne3 he' hD' hN' hat'
      rename Fr _ _ _ _ => F1
      refine .mk (.mk ⟨e, D, t', rfl, X.keeps fun b o ho => kp b o (F1.keep b o ho), he', ?_⟩)
      refine fault_out (s := s) hfr hfun rfl (Fr.grow F1 kp) he' (none_of_keeps F1.keep ne1) fun h'' fly up => ?_
      obtain ⟨sl, hD2⟩ := up D oD hD' (fun vs q => by obtain ⟨es, ep, d, _⟩ := hN'; rw [d] at q; cases q)
      exact hF i e D t' _ h'' _ _ mD hJW ⟨_, hxe, Int.not_le.mp hWi⟩ fly (((Heap.UpToSlots.of_keeps F1.keep).trans (Heap.UpToSlots.of_keeps kp)).trans up) (none_of_keeps F1.keep ne2) hD2 hN' hat'
    have hJW2 : ∀ x ∈ (vs.zip ps).take (i + 1), psize x ≤ W := by
      intro x hx
      rw [hxi] at hx
      rcases List.mem_append.mp hx with hx | hx
      · exact hJW x hx
      · obtain rfl := List.mem_singleton.mp hx; exact hWi
    k_steps
    · rename_i a1 a2 _ D _ l1 _ _ R2 _ l2 _ _ _ _ _ _ F1 N1
      have hne : c.row ≠ [] := by rintro e; rw [e] at a1; simp at a1
      have e : Cut.step psize W c (vi, p) = ⟨c.pieces ++ [c.row], [(vi, p)], psize (vi, p)⟩ := if_pos ⟨hne, a2⟩
      refine .mk (split_end2 (split_end (ts := ts ++ [(D, c.row)]) (nP := nP + 1) F1 N1 (hupto.trans e) (P := P) (Rw := R2) ?_ (.head _) ?_ ?_ ?_ ?_ ?_ ?_ rfl rfl rfl ?_ rfl rfl) hJW2)
      · rw [List.map_append, List.map_singleton, ← List.push_toArray]; exact .tail _ (.tail _ (.head _))
      · intro q hq
        rcases List.mem_append.mp hq with hq | hq
        · exact .tail _ (.tail _ (.tail _ (.tail _ (hts1 q hq))))
        · obtain rfl := List.mem_singleton.mp hq; exact .tail _ (.head _)
      · rw [List.map_append, ← hpc]; rfl
      · exact Nat.ne_of_lt l2.2.1
      · intro q hq
        rcases List.mem_append.mp hq with hq | hq
        · exact ⟨hown _ (hts1 q hq) P (.head _), off_of_lt l2.2.2.2 _ (hts1 q hq)⟩
        · obtain rfl := List.mem_singleton.mp hq; exact ⟨Nat.ne_of_gt l1.1, Nat.ne_of_lt l2.1⟩
      · exact fun p hp => .tail _ (.tail _ (.tail _ (.tail _ (hown1 p hp))))
      · intro q hq
        refine ⟨hown q (hown1 q hq) P (.head _), off_of_lt l2.2.2.2 q (hown1 q hq), fun z hz => ?_⟩
        rcases List.mem_append.mp hz with hz | hz
        · exact hown2 q hq z hz
        · obtain rfl := List.mem_singleton.mp hz; exact off_of_lt l1.2.2 q (hown1 q hq)
      · show ((pairTxt p).length : Int) = 0 + ((pairTxt p).length : Int); omega
    · rename_i a1 a2 _ _ _ _ _ F1 N1
      have hne : c.row ≠ [] := by rintro e; rw [e] at a1; simp at a1
      have e : Cut.step psize W c (vi, p) = ⟨c.pieces, c.row ++ [(vi, p)], c.used + 1 + psize (vi, p)⟩ := by
        unfold Cut.step; rw [if_neg (fun q => a2 q.2), if_pos hne]
      refine .mk (split_end2 (split_end (ts := ts) (nR := nR + 1) F1 N1 (hupto.trans e) (P := P) (Rw := Rw) (.head _) ?_ ?_ hpc hPR ?_ ?_ ?_ rfl rfl rfl rfl rfl rfl) hJW2)
      · rw [List.map_append, List.map_singleton, ← List.push_toArray]; exact .tail _ (.head _)
      · exact fun q hq => .tail _ (.tail _ (hts1 q hq))
      · exact fun q hq => ⟨hown _ (hts1 q hq) P (.head _), hown _ (hts1 q hq) Rw (.tail _ (.head _))⟩
      · exact fun p hp => .tail _ (.tail _ (hown1 p hp))
      · exact fun q hq => ⟨hown q (hown1 q hq) P (.head _), hown q (hown1 q hq) Rw (.tail _ (.head _)), hown2 q hq⟩
    · rename_i F1 N1
      have a1 : ¬ (0 : Int) < ((c.row.map (·.1)).toArray.size : Int) := by assumption
      have hemp : c.row = [] := by
        cases q : c.row with
        | nil => rfl
        | cons y ys => rw [q] at a1; simp at a1
      have e : Cut.step psize W c (vi, p) = ⟨c.pieces, c.row ++ [(vi, p)], c.used + psize (vi, p)⟩ := by
        unfold Cut.step; rw [if_neg (fun q => q.1 hemp), if_neg (fun q => q hemp)]
      refine .mk (split_end2 (split_end (ts := ts) (nR := nR + 1) F1 N1 (hupto.trans e) (P := P) (Rw := Rw) (.head _) ?_ ?_ hpc hPR ?_ ?_ ?_ rfl rfl rfl rfl rfl rfl) hJW2)
      · rw [List.map_append, List.map_singleton, ← List.push_toArray]; exact .tail _ (.head _)
      · exact fun q hq => .tail _ (.tail _ (hts1 q hq))
      · exact fun q hq => ⟨hown _ (hts1 q hq) P (.head _), hown _ (hts1 q hq) Rw (.tail _ (.head _))⟩
      · exact fun p hp => .tail _ (.tail _ (hown1 p hp))
      · exact fun q hq => ⟨hown q (hown1 q hq) P (.head _), hown q (hown1 q hq) Rw (.tail _ (.head _)), hown2 q hq⟩
  · intro m₁ nx h tk hJ F N
    obtain ⟨⟨P, Rw, nP, nR, tu, ts, rfl, hpc, hPR, hts, m1, m2, m3, m4, m5⟩, hJW⟩ := hJ
    have hxl : (vs.zip ps).length = vs.length := by rw [List.length_zip, hp.length, Nat.min_self]
    rw [List.take_of_length_le (Nat.le_of_eq hxl)] at *
    have hall := hJW
    have hrl := Cut.row_le psize W (vs.zip ps)
    have hcut : cutL psize W (vs.zip ps) = (Cut.upto psize W (vs.zip ps)).fin := rfl
    generalize Cut.upto psize W (vs.zip ps) = c at *
    have hrs : (c.row.map (·.1)).toArray.size ≤ 10 := by rw [List.size_toArray, List.length_map]; omega
    have hps' : (ts.map fun q => Value.ref q.1).toArray.size ≤ 10 := by rw [List.size_toArray, List.length_map, ← List.length_map (f := (·.2)), ← hpc]; omega
    generalize htl : ts.map (fun q => (q.1, tupOf (q.2.map (·.1)))) = tl at *
    replace F : Fr s.heap L h _ := F
    replace N : News s.heap L h _ := N
    have F := Fr.know5 F m1 m2 m3 m4 m5
    k_sweep
    have hts1 : ∀ q ∈ ts, (q.1, tupOf (q.2.map (·.1))) ∈ tl := fun q hq => by rw [← htl]; exact (List.mem_map.mpr ⟨q, hq, rfl⟩)
    show wpAny _ _ _ _ _ _
    k_steps
    · rename_i a1 _ D _ l1 _ F1 N1
      have hne : c.row ≠ [] := by rintro e; rw [e] at a1; simp at a1
      refine hR hall _ _ _ _ F1.keep (fun p hp => ⟨(N1 p hp).2.2, (N1 p hp).1⟩) ⟨P, nP + 1, ts ++ [(D, c.row)], rfl, Or.inr ?_, ?_, ?_⟩
      · rw [List.map_append, List.map_singleton, ← List.push_toArray]; exact .tail _ (.head _)
      · intro q hq
        rcases List.mem_append.mp hq with hq | hq
        · exact Or.inr (.tail _ (.tail _ (.tail _ (hts1 q hq))))
        · obtain rfl := List.mem_singleton.mp hq; exact Or.inr (.head _)
      · rw [hcut, Cut.fin, if_pos hne, List.map_append, ← hpc]; rfl
    · rename_i a1
      have hemp : c.row = [] := by
        cases q : c.row with
        | nil => rfl
        | cons y ys => rw [q] at a1; simp at a1
      refine hR hall _ _ _ _ F.keep (fun p hp => ⟨(N p hp).2.2, (N p hp).1⟩) ⟨P, nP, ts, rfl, Or.inr (.head _), fun q hq => Or.inr (.tail _ (.tail _ (hts1 q hq))), ?_⟩
      rw [hcut, Cut.fin, if_neg (fun q => q hemp), hpc]
end Mine

-- part L0
namespace Mine
theorem call_byN {prog : Program} {w : World} {A : Around} {E : Value → Shared → Prop} {s : Shared} {h₀ : Heap} {L f : Addr} {m : Str → Option Value} {news : List (Addr × Obj)} {args : List Value} {φ : Rel} {G : Rel → Value → Prop} {Q : Value → Shared → Prop}
    (F : Fr h₀ L s.heap m) (N : News h₀ L s.heap news) (S : Spec prog w A f args s φ G)
    (h : ∀ h' tk v tl, Fr h₀ L h' m → News h₀ L h' (tl ++ news) → (∀ b o, s.heap.get? b = some o → h'.get? b = some o) → NewIn s.heap h' tl → G (φ.plus tl) v → Q v { s with heap := h', toks := tk }) :
    wpAny (model prog w) A (call (.ref f) args) Q E s :=
  wpAny_call (S _ fun h' tk v tl k n g => h h' tk v tl (Fr.grow F k) (News.more' F N k n) k n g)
/-- what is in a list of objects -/
def InL (tl : List (Addr × Obj)) : Rel := fun a o => (a, o) ∈ tl
theorem pairs_of {φ : Rel} : ∀ {ys : List Value} {ps : List (Int × Int)}, ys.length = ps.length → (∀ (j : Nat) y, ys[j]? = some y → ∃ p, ps[j]? = some p ∧ PairR φ y p) → PairsR φ ys ps
  | [], [], _, _ => .nil
  | [], _ :: _, h, _ => by simp at h
  | _ :: _, [], h, _ => by simp at h
  | y :: ys, p :: ps, h, g => by
    obtain ⟨q, e, r⟩ := g 0 y rfl
    simp at e; subst e
    exact .cons r (pairs_of (by simpa using h) fun j z hz => by simpa using g (j + 1) z (by simpa using hz))
theorem allLt_append {d : Addr} : ∀ {l r : List (Addr × Obj)}, AllLt d l → AllLt d r → AllLt d (l ++ r)
  | [], _, _, h => h
  | _ :: _, _, g, h => ⟨g.1, allLt_append g.2 h⟩
theorem News.comp2 {h₀ h0 h : Heap} {L D D0 c : Addr} {o0 oc o : Obj} {tl : List (Addr × Obj)} (N0 : News h₀ L h0 [(D0, o0), (c, oc)]) (N : News h₀ L h ((D, o) :: tl ++ [(D0, o0), (c, oc)])) (hD : h0.get? D = none) (hn : NewIn h0 h tl) :
    News h₀ L h ((D, o) :: (c, oc) :: tl) ∧ D ≠ c ∧ ∀ p ∈ tl, p.1 ≠ c := by
  have hc := (N0 (c, oc) (.tail _ (.head _))).1
  refine ⟨fun p hp => N p ?_, ?_, ?_⟩
  · rcases List.mem_cons.mp hp with rfl | hp
    · exact .head _
    · rcases List.mem_cons.mp hp with rfl | hp
      · exact List.mem_append_right _ (.tail _ (.head _))
      · exact List.mem_append_left _ (.tail _ hp)
  · rintro rfl; rw [hD] at hc; cases hc
  · rintro p hp rfl; rw [(hn p hp).1] at hc; cases hc
def pd (p : Int × Int) : PyData := .tuple [.int p.1, .int p.2]
theorem reads_pairs {φ : Rel} {h : Heap} (k : φ.le h) {vs : List Value} {ps : List (Int × Int)} (x : PairsR φ vs ps) : ReadsAll h vs (ps.map pd) [] := by
  induction x with
  | nil => exact .nil
  | cons a _ ih =>
    obtain ⟨a, t, u, n, rfl, q⟩ := a
    exact readsAll_cons_val (reads_tuple_at (k _ _ q) rfl rfl (readsAll_cons_val (.int _ _) (readsAll_cons_val (.int _ _) .nil))) ih
theorem pd_lay : ∀ ps : List (Int × Int), PyData.canLayAll0 (ps.map pd) = true
  | [] => rfl
  | p :: ps => by simp [PyData.canLayAll0, PyData.canLay0, pd, pd_lay ps]
theorem pd_depth : ∀ ps : List (Int × Int), PyData.depthAll (ps.map pd) ≤ 1
  | [] => by simp [PyData.depthAll]
  | p :: ps => by
    have := pd_depth ps
    simp only [List.map_cons, PyData.depthAll, PyData.depth, pd]; omega
theorem pd_shaped (ps : List (Int × Int)) : SeqAt.shaped (.tuple (ps.map pd)) = true ∧ SeqAt.shaped (.list (ps.map pd)) = true := by
  have := pd_depth ps
  simp only [SeqAt.shaped, PyData.canLay0, PyData.depth, pd_lay ps, Bool.true_and]
  exact ⟨decide_eq_true (by omega), decide_eq_true (by omega)⟩
theorem pd_eqv : ∀ ps : List (Int × Int), PyData.eqvAll (ps.map pd) (ps.map pd) = true
  | [] => rfl
  | p :: ps => by simp [PyData.eqvAll, PyData.eqv, pd, pd_eqv ps]
theorem News.inL {h₀ h : Heap} {L : Addr} {news tl : List (Addr × Obj)} (N : News h₀ L h news) (hs : ∀ p ∈ tl, p ∈ news) : (InL tl).le h := fun a o q => (N _ (hs _ q)).1
theorem Fr.know1 {h₀ h : Heap} {L : Addr} {m : Str → Option Value} (F : Fr h₀ L h m) {x1 : Str} {v1 : Value} (e1 : m x1 = some v1) : Fr h₀ L h (fun y => if y = x1 then some v1 else m y) := by
  have : (fun y => if y = x1 then some v1 else m y) = m := by
    funext y; (repeat' split) <;> simp_all
  rw [this]; exact F
/-- some, as the law has it -/
def MidSome (h₀ : Heap) (L c : Addr) (oc : Obj) (sX : Shared) (fl : Flow) (s' : Shared) : Prop :=
  fl = .next ∧ ∃ h tk m T vs ps tl, s' = { sX with heap := h, toks := tk } ∧ Fr h₀ L h m ∧ m (Str.ofString "some") = some (.ref T) ∧ News h₀ L h ((T, tupOf vs) :: (c, oc) :: tl) ∧ PairsR (InL tl) vs ps ∧ (∀ p ∈ ps, SmallP p) ∧
    1 ≤ ps.length ∧ ps.length ≤ 10 ∧ T ≠ c ∧ ∀ p ∈ tl, p.1 ≠ c
theorem midSome {M : Model} {A : Around} {E : Value → Shared → Prop} {s : Shared} {t : Sem Flow} {Q : Flow → Shared → Prop} {h₀ : Heap} {L T D c : Addr} {o o2 oc : Obj} {tl : List (Addr × Obj)} (N : News h₀ L s.heap ((T, o) :: (D, o2) :: (c, oc) :: tl))
    (h1 : wpAny M A t (fun fl s' => Stop (MidSome h₀ L c oc s fl s')) E s) (h2 : ∀ s', MidSome h₀ L c oc s .next s' → Q .next s') : wpAny M A t Q E s :=
  wpAny_mono h1 (fun fl s' x => by
    have y := x.go
    obtain rfl := y.1
    exact h2 s' y) (fun _ _ x => x)
theorem eqv_empty (ps : List (Int × Int)) : PyData.eqv (.tuple (ps.map pd)) (.tuple []) = decide (ps = []) := by
  cases ps with
  | nil => rfl
  | cons p ps => simp [PyData.eqv, PyData.eqvAll]
theorem eq_empty {prog : Program} {w : World} {A : Around} {E : Value → Shared → Prop} {s : Shared} {h₀ : Heap} {L T e : Addr} {vs : List Value} {ps : List (Int × Int)} {tl news : List (Addr × Obj)} {Q : Value → Shared → Prop}
    (N : News h₀ L s.heap news) (hT : (T, tupOf vs) ∈ news) (hE : (e, tupOf []) ∈ news) (hps : PairsR (InL tl) vs ps) (hs : ∀ p ∈ tl, p ∈ news) (hu : A.units + 64 < cLine) (h : Q (.bool (decide (ps = []))) s) :
    wpAny (model prog w) A (compareOp .Eq (.ref T) (.ref e)) Q E s :=
  eq_dataH (reads_tuple_at (N _ hT).1 rfl rfl (reads_pairs (News.inL N hs) hps)) (reads_tuple_at (N _ hE).1 rfl rfl .nil) (pd_shaped _).1 (by rfl) hu (by rw [eqv_empty]; exact h)
theorem mid_three {h₀ h : Heap} {L T a1 a2 a3 c : Addr} {oc : Obj} {x y z : Addr × Obj} {tl : List (Addr × Obj)} {t1 t2 t3 t4 t5 t6 : Tok} {m : Str → Option Value} {sX : Shared} {tk : Nat} (F : Fr h₀ L h m) (hm : m (Str.ofString "some") = some (.ref T))
    (N : News h₀ L h ((T, tupOf [.ref a1, .ref a2, .ref a3]) :: (a3, tupOf [.int 30 t5, .int 30 t6]) :: (a2, tupOf [.int 0 t3, .int 0 t4]) :: (a1, tupOf [.int 1 t1, .int 2 t2]) :: x :: y :: z :: (c, oc) :: tl)) (hT : @LT.lt Nat _ c T) (h1 : @LT.lt Nat _ c a1) (h2 : @LT.lt Nat _ c a2) (h3 : @LT.lt Nat _ c a3) :
    MidSome h₀ L c oc sX .next { sX with heap := h, toks := tk } := by
  refine ⟨rfl, h, tk, m, T, [.ref a1, .ref a2, .ref a3], [(1, 2), (0, 0), (30, 30)], [(a1, tupOf [.int 1 t1, .int 2 t2]), (a2, tupOf [.int 0 t3, .int 0 t4]), (a3, tupOf [.int 30 t5, .int 30 t6])], rfl, F, hm, (fun p hp => N p ?_), ?_, ?_, by decide, by decide, Nat.ne_of_gt hT, ?_⟩
  · simp only [List.mem_cons, List.not_mem_nil, or_false] at hp ⊢
    rcases hp with rfl | rfl | rfl | rfl | rfl <;> simp
  · exact .cons ⟨a1, t1, t2, 0, rfl, .head _⟩ (.cons ⟨a2, t3, t4, 0, rfl, .tail _ (.head _)⟩ (.cons ⟨a3, t5, t6, 0, rfl, .tail _ (.tail _ (.head _))⟩ .nil))
  · intro p hp
    simp only [List.mem_cons, List.not_mem_nil, or_false] at hp
    rcases hp with rfl | rfl | rfl <;> exact ⟨⟨by decide, by decide⟩, ⟨by decide, by decide⟩⟩
  · intro p hp
    simp only [List.mem_cons, List.not_mem_nil, or_false] at hp
    rcases hp with rfl | rfl | rfl
    · exact Nat.ne_of_gt h1
    · exact Nat.ne_of_gt h2
    · exact Nat.ne_of_gt h3
theorem Fr.base_ne {h₀ h : Heap} {L b : Addr} {m : Str → Option Value} {o : Obj} (F : Fr h₀ L h m) (e : h₀.get? b = some o) : b ≠ L := by
  rintro rfl; exact absurd (Nat.lt_of_lt_of_le (Heap.lt_size e) F.above) (Nat.lt_irrefl _)
theorem Fr.assigned {h₀ h h' : Heap} {L : Addr} {m m' : Str → Option Value} (F : Fr h₀ L h m) (hk : ∀ b o, b ≠ L → h.get? b = some o → h'.get? b = some o) (hn : h'.Ns L m') : Fr h₀ L h' m' :=
  ⟨hn, fun b o e => hk b o (Fr.base_ne F e) (F.keep b o e), F.above⟩
theorem News.assigned {h₀ h h' : Heap} {L D : Addr} {m : Str → Option Value} {ys : List Value} {news : List (Addr × Obj)} (F : Fr h₀ L h m) (N : News h₀ L h news) (hk : ∀ b o, b ≠ L → h.get? b = some o → h'.get? b = some o) (hD : h.get? D = none) (hl : h'.PlainList D ys.toArray) :
    ∃ n, News h₀ L h' ((D, PySem.W.listOf ys.toArray n) :: news) ∧ ∀ p ∈ news, p.1 ≠ D := by
  obtain ⟨n, e⟩ := hl
  refine ⟨n, fun p hp => ?_, fun p hp q => by have := (N p hp).1; rw [q, hD] at this; cases this⟩
  rcases List.mem_cons.mp hp with rfl | hp
  · exact ⟨e, Fr.newNe F hD, Fr.newBase F hD⟩
  · exact ⟨hk _ _ (N p hp).2.1 (N p hp).1, (N p hp).2⟩
theorem ints_of {ys : List Value} {zs : List Int} (hl : ys.length = zs.length) (h : ∀ (j : Nat) y, ys[j]? = some y → ∃ z t, zs[j]? = some z ∧ y = .int z t) : IntsAre ys zs := by
  induction ys generalizing zs with
  | nil =>
    cases zs with
    | nil => exact .nil
    | cons a b => cases hl
  | cons y ys ih =>
    cases zs with
    | nil => cases hl
    | cons a b =>
      obtain ⟨x, t, e, rfl⟩ := h 0 y rfl
      simp at e; subst e
      exact .cons _ _ (ih (by simpa using hl) (fun j z hz => by simpa using h (j + 1) z (by simpa using hz)))
def sizesOf (ps : List (Int × Int)) : List Int := ps.map fun p => ((pairTxt p).length : Int)
end Mine

-- part L1
namespace Mine
def CellEnd (h₀ : Heap) (L c I : Addr) (oI : Obj) (nw : List (Addr × Obj)) (Mp : (Str → Option Value) → Prop) (s₁ : Shared) (fl : Flow) (s' : Shared) : Prop :=
  fl = .next ∧ ∃ h' tk' m' oc' v', s' = { s₁ with heap := h', toks := tk' } ∧ Fr h₀ L h' m' ∧ Mp m' ∧ News h₀ L h' ((c, oc') :: (I, oI) :: nw) ∧ oc'.data = .cell v'
section
variable {prog : Program} {w : World} {A : Around} {E : Value → Shared → Prop} {s : Shared} {Q : Flow → Shared → Prop} {h₀ : Heap} {L a c : Addr} {cn : Str} {cs : Scope} {ccd : Value} {cl : List (Str × Addr)}
/-- a loop over a list, its name a cell -/
theorem for_cell {x : Str} {px pos : Pos} {iter : Expr} {body : List Stmt} {mF : Str → Option Value} (hF : Fr h₀ L s.heap mF) (hh : A.handled = none) (hc : cl.lookup x = some c) (hk : cs.kind = .function) (hx : (envX cn cs L a ccd cl).kindOf x = some .cell)
    (h : wpAny (model prog w) A (eval iter (envX cn cs L a ccd cl)) (fun xv s₁ => Stop (∃ (l : Addr) (items : Array Value) (nl : Nat) (nw : List (Addr × Obj)) (Mp : (Str → Option Value) → Prop) (m : Str → Option Value) (oc : Obj) (v₀ : Option Value),
      xv = .ref l ∧ (l, PySem.W.listOf items nl) ∈ nw ∧ (∀ p ∈ nw, p.1 ≠ c) ∧ Fr h₀ L s₁.heap m ∧ Mp m ∧ News h₀ L s₁.heap ((c, oc) :: nw) ∧ oc.data = .cell v₀ ∧
      (∀ (i : Nat) v I oI h tk m oc, items[i]? = some v → I ≠ c → (∀ p ∈ nw, p.1 ≠ I) → Fr h₀ L h m → Mp m → News h₀ L h ((c, oc) :: (I, oI) :: nw) → oc.data = .cell (some v) →
        wpAny (model prog w) A (execs body (envX cn cs L a ccd cl)) (fun fl s' => Stop (CellEnd h₀ L c I oI nw Mp s₁ fl s')) E { s₁ with heap := h, toks := tk }) ∧
      (∀ h tk m oc v₀, Fr h₀ L h m → Mp m → News h₀ L h ((c, oc) :: nw) → oc.data = .cell v₀ → Q .next { s₁ with heap := h, toks := tk }))) E s)
    (hs : ∀ x, foldedSetIterable iter (envX cn cs L a ccd cl) x = pure x := by intro _; rfl)
    (hE : PassesOwn (model prog w) A (envX cn cs L a ccd cl) E := by passes_own) :
    wpAny (model prog w) A (exec (.For (.Name x px) iter body [] pos) (envX cn cs L a ccd cl)) Q E s := by
  refine wpAny_For (wpAny_mono h (fun xv s₁ h₁ => ?_) fun _ _ e => e) hs
  obtain ⟨l, items, nl, nw, Mp, m, oc, v₀, rfl, hl, hnw, F, hM, N, hd, turn, done⟩ := h₁.go
  have hll : s₁.heap.IsList l items := ⟨_, (N _ (.tail _ hl)).1, rfl, _, rfl⟩
  refine wpAny_pyIter_list hll ?_
  have hlt : l < s₁.heap.objs.size := let ⟨_, ho, _⟩ := hll; Heap.lt_size ho
  have W := Walks.list (prog := prog) (w := w) hh s₁.heap.objs.size l (Nat.ne_of_lt hlt) items
  have hI : s₁.heap.get? s₁.heap.objs.size = none := get_none_size _
  have hIL : s₁.heap.objs.size ≠ L := Fr.newNe F hI
  have hI0 : h₀.get? s₁.heap.objs.size = none := Fr.newBase F hI
  have hIc : s₁.heap.objs.size ≠ c := fun q => by have := (N (c, oc) (.head _)).1; rw [← q, hI] at this; cases this
  have hIn : ∀ p ∈ nw, p.1 ≠ s₁.heap.objs.size := fun p hp q => by have := (N p (.tail _ hp)).1; rw [q, hI] at this; cases this
  refine codeAny_forLoop (R := fun r s' => match r with | .ok f => Q f s' | .error e => cameBackBy (model prog w) A (envX cn cs L a ccd cl) E e s')
    (fun k s' => ∃ h' tk m' oc' v' i, s' = { s₁ with heap := h', toks := tk } ∧ (h'.IsListIter s₁.heap.objs.size l i ∧ h'.IsList l items) ∧ Fr h₀ L h' m' ∧ Mp m' ∧ News h₀ L h' ((c, oc') :: nw) ∧ oc'.data = .cell v' ∧ i ≤ items.size ∧ k = items.size + 1 - i) ?_ (items.size + 1)
    ⟨_, s₁.toks, m, oc, v₀, 0, rfl, ⟨⟨_, Heap.get?_push_size _ rfl, rfl, rfl⟩, hll.push _⟩, F.push _, hM, fun p hp => ⟨Heap.get?_push_of_some _ (N p hp).1, (N p hp).2⟩, hd, Nat.zero_le _, rfl⟩
  rintro k s' ⟨h', tk, m', oc', v', i, rfl, hst, F', hM', N', hd', hi, rfl⟩
  have next : ∀ h₂ : Heap, (∀ b o, b ∉ [s₁.heap.objs.size] → h'.get? b = some o → h₂.get? b = some o) → Fr h₀ L h₂ m' ∧ News h₀ L h₂ ((c, oc') :: nw) := fun h₂ hk₂ =>
    ⟨⟨F'.ns.at' fun o e => hk₂ _ o (by simpa using Ne.symm hIL) e, fun b o e => hk₂ b o (by rw [List.mem_singleton]; rintro rfl; rw [hI0] at e; cases e) (F'.keep b o e), F'.above⟩,
      fun p hp => ⟨hk₂ _ _ (by
        rw [List.mem_singleton]
        rcases List.mem_cons.mp hp with rfl | hp
        · exact Ne.symm hIc
        · exact hIn p hp) (N' p hp).1, (N' p hp).2⟩⟩
  by_cases hlt : i < items.size
  · refine W.item i _ _ _ hlt hst fun v h₂ tk₂ hP hst₂ hk₂ => ?_
    obtain ⟨F₂, N₂⟩ := next h₂ hk₂
    obtain ⟨oI, hoI, -, -⟩ := id hst₂.1
    have N₂' : News h₀ L h₂ ((c, oc') :: (s₁.heap.objs.size, oI) :: nw) := fun p hp => by
      rcases List.mem_cons.mp hp with rfl | hp
      · exact N₂ _ (.head _)
      · rcases List.mem_cons.mp hp with rfl | hp
        · exact ⟨hoI, hIL, hI0⟩
        · exact N₂ _ (.tail _ hp)
    refine wpAny_assign_Name (storeX_C F₂ N₂' hc (UpdF.head (fun p hp => ?_)) hd' (fun h₃ oc₃ F₃ N₃ hd₃ => ?_) hk hx)
    · rcases List.mem_cons.mp hp with rfl | hp
      · exact hIc
      · exact hnw p hp
    refine wpAny_passesOwn hE (wpAny_mono (turn i v s₁.heap.objs.size oI h₃ _ m' oc₃ hP hIc hIn F₃ hM' N₃ hd₃) (fun fl s₄ h₄ => ?_) fun _ _ e => e)
    obtain ⟨rfl, h', tk', m₄, oc₄, v₄, rfl, F₄, hM₄, N₄, hd₄⟩ := h₄.go
    refine ⟨items.size + 1 - (i + 1), by omega, h', tk', m₄, oc₄, v₄, i + 1, rfl, W.frame _ h₂ _ hst₂ fun b hb o e => ?_, F₄, hM₄, fun p hp => ?_, hd₄, hlt, rfl⟩
    · rcases List.mem_cons.mp hb with rfl | hb
      · rw [hoI] at e; cases e; exact (N₄ (_, oI) (.tail _ (.head _))).1
      · obtain rfl := List.mem_singleton.mp hb
        have e1 := (N₂' _ (.tail _ (.tail _ hl))).1
        rw [e1] at e; cases e
        exact (N₄ _ (.tail _ (.tail _ hl))).1
    · rcases List.mem_cons.mp hp with rfl | hp
      · exact N₄ _ (.head _)
      · exact N₄ _ (.tail _ (.tail _ hp))
  · have hin : i = items.size := by omega
    subst hin
    refine W.done _ _ _ hst fun h₂ tk₂ hk₂ => wpAny_execs_nil ?_
    obtain ⟨F₂, N₂⟩ := next h₂ hk₂
    exact done h₂ tk₂ m' oc' v' F₂ hM' N₂ hd'
end
theorem list_rangeN {prog : Program} {w : World} {A : Around} {E : Value → Shared → Prop} {s : Shared} {h₀ : Heap} {L : Addr} {m : Str → Option Value} {Q : Value → Shared → Prop} {r : Addr} {a b c : Int} {t u v : Tok} {n : Nat} {news : List (Addr × Obj)} (hh : A.handled = none) (Fh : Fr h₀ L s.heap m) (N : News h₀ L s.heap news)
    (hr : IsRange s.heap r a b c t u v) (hsmall : Builtin.Range.small a b c = true) (hn : Builtin.Range.rangeSize a b c = (n : Int)) (hlen : n ≤ 2 ^ 24)
    (hQ : ∀ h' tk (ys : List Value) D nD, Fr h₀ L h' m → News h₀ L h' ((D, PySem.W.listOf ys.toArray nD) :: news) → (∀ p ∈ news, p.1 < D) → IntsAre ys (rangeInts a c n) → Q (.ref D) { s with heap := h', toks := tk }) :
    wpAny (model prog w) A (call (.type "list") [.ref r]) Q E s := by
  refine list_rangeD hh Fh N hr hsmall hn hlen fun h' tk ys F' N' hk hD0 hDl hD hc => ?_
  obtain ⟨⟨nD, e⟩, ho⟩ := id hD
  refine hQ h' tk ys _ nD F' (fun p hp => ?_) (fun p hp => Heap.lt_size (N p hp).1) (IntsAre.ofCarried hc)
  rcases List.mem_cons.mp hp with rfl | hp
  · exact ⟨e, hD.ne_locals F', hD0⟩
  · exact N' p hp
theorem news_law {h₀ h : Heap} {L c : Addr} {x y f d t : Addr × Obj} {oc : Obj} {tl : List (Addr × Obj)} (N : News h₀ L h (f :: x :: y :: d :: t :: (c, oc) :: tl)) : News h₀ L h ((c, oc) :: f :: d :: t :: tl) := fun p hp => N p (by
  simp only [List.mem_cons] at hp ⊢
  rcases hp with rfl | rfl | rfl | rfl | hp <;> simp [*])
theorem mem4 {α : Type} {a b c x : α} {l : List α} (h : x ∈ a :: b :: c :: l) : x = a ∨ x = b ∨ x = c ∨ x ∈ l := by
  simpa only [List.mem_cons] using h
end Mine

-- part M1
namespace Mine
/-- the room of a row, one sign more than its text -/
def tot : List Int → Int
  | [] => 0
  | z :: r => z + 1 + tot r
theorem tot_append (a b : List Int) : tot (a ++ b) = tot a + tot b := by
  induction a with
  | nil => simp [tot]
  | cons z r ih => simp only [List.cons_append, tot, ih]; omega
theorem setTxt_len : ∀ {ps : List (Int × Int)}, ps ≠ [] → ((setTxt ps).length : Int) + 1 = tot (sizesOf ps)
  | [], h => absurd rfl h
  | [p], _ => by show ((pairTxt p).length : Int) + 1 = _; simp [sizesOf, tot]
  | p :: q :: r, _ => by
    have ih := setTxt_len (ps := q :: r) (by simp)
    have e : setTxt (p :: q :: r) = pairTxt p ++ Str.ofString "," ++ setTxt (q :: r) := rfl
    have e1 : (Str.ofString ",").length = 1 := by decide
    rw [e, Str.length_append, Str.length_append, e1]
    simp only [sizesOf, List.map_cons, tot] at ih ⊢
    omega
theorem tot_le {B : Int} : ∀ {zs : List Int}, (∀ z ∈ zs, z ≤ B) → tot zs ≤ (B + 1) * zs.length
  | [], _ => by simp [tot]
  | z :: r, h => by
    have ih := tot_le (zs := r) fun y hy => h y (.tail _ hy)
    have := h z (.head _)
    simp only [tot, List.length_cons]
    rw [Int.natCast_add, Int.mul_add]
    omega
theorem setTxt_le {ps : List (Int × Int)} (hs : ∀ p ∈ ps, SmallP p) (hl : ps.length ≤ 10) : (setTxt ps).length ≤ 240 := by
  cases ps with
  | nil => decide
  | cons p r =>
    have h := setTxt_len (ps := p :: r) (by simp)
    have h2 := tot_le (B := 23) (zs := sizesOf (p :: r)) (fun z hz => by
      obtain ⟨q, hq, rfl⟩ := List.mem_map.mp hz
      have := pairTxt_le (hs q hq); omega)
    rw [sizesOf, List.length_map] at h2
    rw [sizesOf] at h
    omega
theorem setTxt_pos {ps : List (Int × Int)} (hs : ∀ p ∈ ps, SmallP p) (hl : ps ≠ []) : 1 ≤ (setTxt ps).length := by
  have h := setTxt_len hl
  cases ps with
  | nil => exact absurd rfl hl
  | cons p r =>
    have h1 := pairTxt_pos (hs p (.head _))
    have h2 : ∀ zs : List Int, (∀ z ∈ zs, 0 ≤ z) → 0 ≤ tot zs := by
      intro zs
      induction zs with
      | nil => intro _; exact Int.le_refl _
      | cons z r ih => intro hz; have := ih (fun y hy => hz y (.tail _ hy)); have := hz z (.head _); simp only [tot]; omega
    have h3 := h2 (sizesOf r) (fun z hz => by obtain ⟨q, hq, rfl⟩ := List.mem_map.mp hz; exact Int.natCast_nonneg _)
    simp only [sizesOf, List.map_cons, tot] at h h3
    omega
theorem join_cons {sep x : Str} {r : List Str} (h : r ≠ []) : Str.join sep (x :: r) = x ++ sep ++ Str.join sep r := by
  cases r with
  | nil => exact absurd rfl h
  | cons y r => rfl
theorem join_append {sep : Str} : ∀ {a b : List Str}, a ≠ [] → b ≠ [] → Str.join sep (a ++ b) = Str.join sep a ++ sep ++ Str.join sep b
  | [], _, h, _ => absurd rfl h
  | [x], b, _, hb => join_cons hb
  | x :: y :: r, b, _, hb => by
    rw [List.cons_append, join_cons (r := y :: r ++ b) (by simp), join_append (a := y :: r) (by simp) hb, join_cons (r := y :: r) (by simp)]
    simp only [Str.append_assoc]
/-- the texts of the pieces, joined, are the text of all -/
theorem join_pieces : ∀ {cs : List (List (Int × Int))}, (∀ c ∈ cs, c ≠ []) → Str.join (Str.ofString ",") (cs.map setTxt) = setTxt cs.flatten
  | [], _ => rfl
  | [c], _ => by simp [Str.join]
  | c :: d :: r, h => by
    have ih := join_pieces (cs := d :: r) fun x hx => h x (.tail _ hx)
    have hc := h c (.head _)
    have hd := h d (.tail _ (.head _))
    rw [List.map_cons, join_cons (by simp), ih]
    show Str.join _ (c.map pairTxt) ++ _ ++ Str.join _ ((d :: r).flatten.map pairTxt) = Str.join _ ((c ++ (d :: r).flatten).map pairTxt)
    rw [List.map_append, join_append (fun q => hc (List.map_eq_nil_iff.mp q)) (fun q => hd (by
      have := List.map_eq_nil_iff.mp q
      rw [List.flatten_cons] at this
      exact (List.append_eq_nil_iff.mp this).1))]

section
variable {α : Type} (size : α → Int) (w : Int)
structure CutOk (xs : List α) (c : Cut α) : Prop where
  flat : c.pieces.flatten ++ c.row = xs
  fit : ∀ p ∈ c.pieces, p ≠ [] ∧ tot (p.map size) ≤ w + 1
  used : c.row ≠ [] → c.used + 1 = tot (c.row.map size) ∧ c.used ≤ w
  none : c.row = [] → c.used = 0
variable {size w}
theorem CutOk.step {xs : List α} {c : Cut α} (k : CutOk size w xs c) {x : α} (hx : size x ≤ w) : CutOk size w (xs ++ [x]) (Cut.step size w c x) := by
  obtain ⟨h1, h2, h3, h4⟩ := k
  unfold Cut.step
  split
  · rename_i h
    obtain ⟨u1, u2⟩ := h3 h.1
    refine ⟨by rw [← h1]; simp, fun p hp => ?_, fun _ => ⟨by simp [tot], hx⟩, fun e => by simp at e⟩
    rcases List.mem_append.mp hp with hp | hp
    · exact h2 p hp
    · obtain rfl := List.mem_singleton.mp hp
      exact ⟨h.1, by omega⟩
  · rename_i h
    refine ⟨by rw [← h1]; simp, h2, fun _ => ?_, fun e => by simp at e⟩
    by_cases e : c.row = []
    · rw [if_neg (fun q => q e), e, h4 e]
      simp only [List.nil_append, List.map_cons, List.map_nil, tot]
      omega
    · obtain ⟨u1, u2⟩ := h3 e
      rw [if_pos e, List.map_append, tot_append]
      have : ¬ w < c.used + 1 + size x := fun q => h ⟨e, q⟩
      simp only [List.map_cons, List.map_nil, tot]
      omega
theorem CutOk.all : ∀ {ys xs : List α} {c : Cut α}, CutOk size w xs c → (∀ y ∈ ys, size y ≤ w) → CutOk size w (xs ++ ys) (ys.foldl (Cut.step size w) c)
  | [], xs, c, k, _ => by simpa using k
  | y :: ys, xs, c, k, h => by
    have := CutOk.all (ys := ys) (k.step (h y (.head _))) fun z hz => h z (.tail _ hz)
    simpa using this
theorem cut_ok {xs : List α} (h : ∀ y ∈ xs, size y ≤ w) : (cutL size w xs).flatten = xs ∧ ∀ p ∈ cutL size w xs, p ≠ [] ∧ tot (p.map size) ≤ w + 1 := by
  have k : CutOk size w ([] ++ xs) (Cut.upto size w xs) := CutOk.all ⟨rfl, (fun _ h => nomatch h), (fun h => absurd rfl h), fun _ => rfl⟩ h
  rw [List.nil_append] at k
  obtain ⟨h1, h2, h3, h4⟩ := k
  unfold cutL Cut.fin
  split
  · rename_i e
    obtain ⟨u1, u2⟩ := h3 e
    refine ⟨by rw [List.flatten_append]; simpa using h1, fun p hp => ?_⟩
    rcases List.mem_append.mp hp with hp | hp
    · exact h2 p hp
    · obtain rfl := List.mem_singleton.mp hp
      exact ⟨e, by omega⟩
  · rename_i e
    have e : (Cut.upto size w xs).row = [] := Classical.not_not.mp e
    rw [e, List.append_nil] at h1
    exact ⟨h1, h2⟩
end

/-- how many rows the greedy cut still needs -/
def gc (w : Int) : Int → List Int → Int
  | _, [] => 1
  | u, z :: r => if u + 1 + z ≤ w then gc w (u + 1 + z) r else 1 + gc w z r
def gcAll (w : Int) : List Int → Int
  | [] => 0
  | z :: r => gc w z r
theorem gc_len {w : Int} : ∀ (r : List Int) (u : Int), gc w u r ≤ 1 + r.length
  | [], _ => by simp [gc]
  | z :: r, u => by
    have h1 := gc_len (w := w) r (u + 1 + z)
    have h2 := gc_len (w := w) r z
    simp only [gc, List.length_cons]
    split <;> omega
theorem gc_mono {w : Int} : ∀ (r : List Int) (v u : Int), (∀ z ∈ r, 0 ≤ z) → -1 ≤ v → v ≤ u → gc w v r ≤ gc w u r ∧ gc w u r ≤ 1 + gc w v r
  | [], _, _, _, _, _ => by simp [gc]
  | z :: r, v, u, hz, hv, h => by
    have h0 := hz z (.head _)
    have hr : ∀ y ∈ r, 0 ≤ y := fun y hy => hz y (.tail _ hy)
    have i1 := gc_mono (w := w) r (v + 1 + z) (u + 1 + z) hr (by omega) (by omega)
    have i2 := gc_mono (w := w) r z (v + 1 + z) hr (by omega) (by omega)
    simp only [gc]
    split <;> split <;> omega
theorem few_eq {W n : Int} : ∀ (l : List Int), (∀ z ∈ l, 0 ≤ z ∧ z ≤ W) → (l.length : Int) ≤ n → (fewL W n l).headD 0 = gcAll W l
  | [], _, _ => rfl
  | s :: rs, hz, hn => by
    have inner : ∀ (rs : List Int) (s best used : Int), (∀ l : List Int, l.length ≤ rs.length → (∀ z ∈ l, 0 ≤ z ∧ z ≤ W) → (l.length : Int) ≤ n → (fewL W n l).headD 0 = gcAll W l) → (∀ z ∈ rs, 0 ≤ z ∧ z ≤ W) → (rs.length : Int) ≤ n → 0 ≤ s → -1 ≤ used → used + 1 + s ≤ W →
        innerL W (s :: rs) (fewL W n rs) best used = min best (gc W (used + 1 + s) rs) := by
      intro rs
      induction rs with
      | nil =>
        intro s best used _ _ _ hs hu h
        simp only [fewL, innerL, if_pos h, gc]
        omega
      | cons t rs ih =>
        intro s best used few hz hn hs hu h
        have ht := hz t (.head _)
        have hf := few (t :: rs) (Nat.le_refl _) hz hn
        have e : fewL W n (t :: rs) = (fewL W n (t :: rs)).headD 0 :: fewL W n rs := by simp [fewL]
        rw [e, hf, innerL, if_pos h]
        by_cases h' : used + 1 + s + 1 + t ≤ W
        · rw [ih t _ (used + 1 + s) (fun l hl => few l (Nat.le_trans hl (Nat.le_succ _))) (fun z hz' => hz z (.tail _ hz')) (by simp only [List.length_cons] at hn; omega) ht.1 (by omega) h']
          have m := (gc_mono (w := W) rs t (used + 1 + s + 1 + t) (fun y hy => (hz y (.tail _ hy)).1) (by omega) (by omega)).2
          simp only [gc, gcAll, if_pos h']
          omega
        · have e2 : innerL W (t :: rs) (fewL W n rs) (min best (1 + gcAll W (t :: rs))) (used + 1 + s) = min best (1 + gcAll W (t :: rs)) := by
            have e3 : ∃ g gs, fewL W n rs = g :: gs := by
              cases rs with
              | nil => exact ⟨_, _, rfl⟩
              | cons a b => exact ⟨_, _, rfl⟩
            obtain ⟨g, gs, e3⟩ := e3
            rw [e3, innerL, if_neg h']
          rw [e2, gc, if_neg h']; rfl
    have hs := hz s (.head _)
    have h := inner rs s n (-1) (fun l hl hz hn => few_eq l hz hn) (fun z hz' => hz z (.tail _ hz')) (by simp only [List.length_cons] at hn; omega) hs.1 (by omega) (by omega)
    have e : (fewL W n (s :: rs)).headD 0 = innerL W (s :: rs) (fewL W n rs) n (-1) := rfl
    have gl := gc_len (w := W) rs s
    have e0 : (-1 : Int) + 1 + s = s := by omega
    rw [e, h, e0]
    simp only [List.length_cons] at hn
    show min n (gc W s rs) = gc W s rs
    omega
termination_by l => l.length
decreasing_by simp only [List.length_cons]; omega
theorem cut_count {α : Type} {size : α → Int} {w : Int} : ∀ (xs : List α) (c : Cut α), c.row ≠ [] → ((xs.foldl (Cut.step size w) c).fin.length : Int) = c.pieces.length + gc w c.used (xs.map size)
  | [], c, h => by
    rw [List.foldl_nil]
    unfold Cut.fin
    rw [if_pos h]
    simp [gc]
  | x :: xs, c, h => by
    rw [List.foldl_cons, List.map_cons, gc]
    by_cases hw : w < c.used + 1 + size x
    · have e : Cut.step size w c x = ⟨c.pieces ++ [c.row], [x], size x⟩ := if_pos ⟨h, hw⟩
      rw [e, cut_count xs _ (by simp), if_neg (by omega)]
      simp only [List.length_append, List.length_singleton]; omega
    · have e : Cut.step size w c x = ⟨c.pieces, c.row ++ [x], c.used + 1 + size x⟩ := by unfold Cut.step; rw [if_neg (fun q => hw q.2), if_pos h]
      rw [e, cut_count xs _ (by simp), if_pos (by omega)]
theorem cut_few {α : Type} {size : α → Int} {w n : Int} {xs : List α} (h : ∀ y ∈ xs, 0 ≤ size y ∧ size y ≤ w) (hn : (xs.length : Int) ≤ n) : ((cutL size w xs).length : Int) = (fewL w n (xs.map size)).headD 0 := by
  rw [few_eq _ (by intro z hz; obtain ⟨y, hy, rfl⟩ := List.mem_map.mp hz; exact h y hy) (by rw [List.length_map]; exact hn)]
  cases xs with
  | nil => rfl
  | cons x xs =>
    have e : Cut.upto size w (x :: xs) = xs.foldl (Cut.step size w) ⟨[], [x], 0 + size x⟩ := by
      show List.foldl _ (Cut.step size w ⟨[], [], 0⟩ x) xs = _
      congr 1
    rw [cutL, e, cut_count _ _ (by simp)]
    simp [gcAll]
/-- the widths that the law tries -/
theorem range_small {a b c : Int} (ha : 0 ≤ a) (ha' : a ≤ 1000) (hb : 0 ≤ b) (hb' : b ≤ 1000) (hc : 1 ≤ c) (hc' : c ≤ 1000) : Builtin.Range.small a b c = true ∧ ∃ n : Nat, Builtin.Range.rangeSize a b c = (n : Int) ∧ n ≤ 1000 := by
  have e : Builtin.Range.rangeSize a b c = if a < b then (b - a - 1) / c + 1 else 0 := by
    unfold Builtin.Range.rangeSize; rw [if_pos (by omega)]
  have h0 : 0 ≤ Builtin.Range.rangeSize a b c ∧ Builtin.Range.rangeSize a b c ≤ 1000 := by
    rw [e]
    split
    · have h1 : 0 ≤ (b - a - 1) / c := Int.ediv_nonneg (by omega) (by omega)
      have h2 : (b - a - 1) / c ≤ b - a - 1 := Int.ediv_le_self _ (by omega)
      omega
    · omega
  refine ⟨?_, (Builtin.Range.rangeSize a b c).toNat, by omega, by omega⟩
  unfold Builtin.Range.small
  have hm : Builtin.Range.rangeSize a b c * c ≤ 1000 * 1000 := Int.mul_le_mul h0.2 hc' (by omega) (by omega)
  have hm0 : 0 ≤ Builtin.Range.rangeSize a b c * c := Int.mul_nonneg h0.1 (by omega)
  generalize Builtin.Range.rangeSize a b c = r at *
  rw [if_pos (show c > 0 by omega)]
  simp only [Builtin.Range.rangeFitsLong, Bool.and_eq_true, Bool.or_eq_true, decide_eq_true_eq, beq_iff_eq]
  omega
theorem fdiv12 {n : Nat} (h : n ≤ 240) : 1 ≤ 1 + (n : Int).fdiv 12 ∧ 1 + (n : Int).fdiv 12 ≤ 1000 := by
  have h1 : (n : Int).fdiv 12 = (n : Int) / 12 := by rw [Int.fdiv_eq_ediv_of_nonneg]; decide
  rw [h1]; omega
theorem size_mem {ps : List (Int × Int)} (hs : ∀ p ∈ ps, SmallP p) {z : Int} (h : z ∈ sizesOf ps) : 1 ≤ z ∧ z ≤ 23 := by
  obtain ⟨p, hp, rfl⟩ := List.mem_map.mp h
  have h1 := pairTxt_le (hs p hp)
  have h2 := pairTxt_pos (hs p hp)
  omega
theorem tot_mem : ∀ {zs : List Int}, (∀ z ∈ zs, 0 ≤ z) → ∀ z ∈ zs, z + 1 ≤ tot zs
  | [], _, _, h => nomatch h
  | y :: r, h0, z, h => by
    have hy := h0 y (.head _)
    have h0' : ∀ z ∈ r, 0 ≤ z := fun x hx => h0 x (.tail _ hx)
    have ht : ∀ zs : List Int, (∀ z ∈ zs, 0 ≤ z) → 0 ≤ tot zs := by
      intro zs
      induction zs with
      | nil => intro _; exact Int.le_refl _
      | cons z r ih => intro hz; have := ih (fun y hy => hz y (.tail _ hy)); have := hz z (.head _); simp only [tot]; omega
    have := ht r h0'
    simp only [tot]
    rcases List.mem_cons.mp h with rfl | h
    · omega
    · have := tot_mem h0' z h; omega
/-- a width that every pair fits in -/
def WideOk (ps : List (Int × Int)) (v : Value) : Prop := ∃ W t, v = .int W t ∧ 0 ≤ W ∧ W ≤ 1000000 ∧ ∀ z ∈ sizesOf ps, z ≤ W
theorem wide_all {ps : List (Int × Int)} (hs : ∀ p ∈ ps, SmallP p) (hl : ps.length ≤ 10) (hne : 1 ≤ ps.length) {M c : Int} {n : Nat} {ws : List Value} {t : Tok} (hM : M ∈ sizesOf ps) (hM2 : ∀ z ∈ sizesOf ps, z ≤ M) (hc : 1 ≤ c) (hc' : c ≤ 1000) (hn : n ≤ 1000) (hw : IntsAre ws (rangeInts M c n)) :
    ∀ v ∈ ws ++ [.int ((setTxt ps).length : Int) t], WideOk ps v := by
  intro v hv
  have hp0 : ps ≠ [] := by rintro rfl; simp at hne
  rcases List.mem_append.mp hv with hv | hv
  · obtain ⟨i, hi⟩ := List.getElem?_of_mem hv
    obtain ⟨W, t, rfl, e⟩ := hw.at i v hi
    obtain ⟨k, hk, rfl⟩ := List.mem_map.mp (List.mem_of_getElem? e)
    have hk' := List.mem_range.mp hk
    have h0 : (0 : Int) ≤ (k : Int) * c := Int.mul_nonneg (Int.natCast_nonneg _) (by omega)
    have h1 : (k : Int) * c ≤ 1000 * 1000 - 1000 := by
      have : (k : Int) * c ≤ 999 * 1000 := Int.mul_le_mul (by omega) hc' (by omega) (by omega)
      omega
    have := size_mem hs hM
    exact ⟨_, _, rfl, by omega, by omega, fun z hz => by have := hM2 z hz; omega⟩
  · obtain rfl := List.mem_singleton.mp hv
    have h1 := setTxt_len hp0
    have h2 := setTxt_le hs hl
    refine ⟨_, _, rfl, by omega, by omega, fun z hz => ?_⟩
    have := tot_mem (fun y hy => by have := size_mem hs hy; omega) z hz
    omega
end Mine

-- part L2
namespace Mine
theorem law_frames {h₀ h : Heap} {L : Addr} {m : Str → Option Value} {env : Env} (F : Fr h₀ L h m) (hk : env.scope.kind = .function) (hf : env.frame = some L) :
    h.FunFrames (hideAll h ([env].filterMap (·.frame))) [env] :=
  .cons (by rw [hk]; decide) hf F.ns (hideAll_none _ (List.mem_filterMap.mpr ⟨env, .head _, hf⟩)) trivial
/-- split_set where every pair fits -/
theorem split_ok {w : World} {s : Shared} {A : Around} {mean : ExcName → Option Value} {mg mb : Str → Option Value} {ps : List (Int × Int)} {vs : List Value} {v : Value} {W : Int} {tw : Tok} {φ : Rel} {h₀ : Heap} {L : Addr} {m : Str → Option Value} {env : Env}
    (Z : Lib w mean mg mb s.heap) (hh : A.handled = none) (hd : A.depth + 2 < recursionLimit) (hφ : φ.le s.heap) (hv : SetR φ v vs ps) (hs : ∀ p ∈ ps, SmallP p) (hl : ps.length ≤ 10)
    (hW : ∀ z ∈ sizesOf ps, z ≤ W) (hfr : A.frames = some [env]) (F : Fr h₀ L s.heap m) (hk : env.scope.kind = .function) (hf : env.frame = some L) :
    Spec PySem.Challenge.rw_nz0268_01.row.prog w A 87 [v, .int W tw] s φ (fun ψ v => CutR ψ v (cutL psize W (vs.zip ps))) := by
  intro R hR
  refine split_set_core Z hh hd hφ hv hs hl hfr (law_frames F hk hf) (fun _ => hR) ?_
  intro j e D t tj h' tk oD mD hj hx
  obtain ⟨x, hx, hlt⟩ := hx
  have := hW (psize x) (List.mem_map.mpr ⟨x.2, (List.of_mem_zip (List.mem_of_getElem? hx)).2, rfl⟩)
  omega
/-- the pieces, laid over one list of objects -/
theorem pieces_laid {h₀ h : Heap} {L : Addr} {φ : Rel} {v : Value} {cs : List (List Item)} {news tl' : List (Addr × Obj)} (N : News h₀ L h (tl' ++ news)) (hφ : ∀ a o, φ a o → (a, o) ∈ tl' ++ news) (g : CutR φ v cs) :
    ∃ P n, ∃ ts : List (Addr × List Item), ∃ pl : List (Addr × Obj), v = .ref P ∧ News h₀ L h ((P, PySem.W.listOf (ts.map fun q => Value.ref q.1).toArray n) :: (pl ++ news)) ∧ (∀ q ∈ ts, (q.1, tupOf (q.2.map (·.1))) ∈ pl) ∧ ts.map (·.2) = cs := by
  obtain ⟨P, n, ts, rfl, h1, h2, h3⟩ := g
  refine ⟨P, n, ts, ts.map fun q => (q.1, tupOf (q.2.map (·.1))), rfl, fun p hp => ?_, fun q hq => List.mem_map.mpr ⟨q, hq, rfl⟩, h3⟩
  rcases List.mem_cons.mp hp with rfl | hp
  · exact N _ (hφ _ _ h1)
  · rcases List.mem_append.mp hp with hp | hp
    · obtain ⟨q, hq, rfl⟩ := List.mem_map.mp hp
      exact N _ (hφ _ _ (h2 q hq))
    · exact N _ (List.mem_append_right _ hp)
theorem pairs_items {φ : Rel} : ∀ {l : List Item}, (∀ x ∈ l, PairR φ x.1 x.2) → PairsR φ (l.map (·.1)) (l.map (·.2))
  | [], _ => .nil
  | x :: l, h => .cons (h x (.head _)) (pairs_items fun y hy => h y (.tail _ hy))
theorem items_pairs {φ : Rel} {vs : List Value} {ps : List (Int × Int)} (h : PairsR φ vs ps) : ∀ x ∈ vs.zip ps, PairR φ x.1 x.2 := by
  induction h with
  | nil => intro x hx; simp at hx
  | cons a _ ih =>
    intro x hx
    rw [List.zip_cons_cons] at hx
    rcases List.mem_cons.mp hx with rfl | hx
    · exact a
    · exact ih x hx
theorem zip_snd {α β : Type} : ∀ {vs : List α} {ps : List β}, vs.length = ps.length → (vs.zip ps).map (·.2) = ps
  | [], [], _ => rfl
  | v :: vs, p :: ps, h => by simp [zip_snd (vs := vs) (ps := ps) (by simpa using h)]
theorem zip_fst {α β : Type} : ∀ {vs : List α} {ps : List β}, vs.length = ps.length → (vs.zip ps).map (·.1) = vs
  | [], [], _ => rfl
  | v :: vs, p :: ps, h => by simp [zip_fst (vs := vs) (ps := ps) (by simpa using h)]
theorem le_sum_mem {x : Nat} : ∀ {l : List Nat}, x ∈ l → x ≤ l.sum
  | _, .head _ => by simp
  | _, .tail y h => by have := le_sum_mem h; simp only [List.sum_cons]; omega
/-- all that the law needs to know of the pieces -/
structure PiecesOk (ps : List (Int × Int)) (vs : List Value) (W : Int) (cs : List (List Item)) : Prop where
  flat : cs.flatten = vs.zip ps
  join : Str.join (Str.ofString ",") (cs.map fun c => setTxt (c.map (·.2))) = setTxt ps
  each : ∀ c ∈ cs, 0 < (setTxt (c.map (·.2))).length ∧ ((setTxt (c.map (·.2))).length : Int) ≤ W
  short : ∀ c ∈ cs, (setTxt (c.map (·.2))).length ≤ 240
  small : ∀ c ∈ cs, (∀ p ∈ c.map (·.2), SmallP p) ∧ (c.map (·.2)).length ≤ 10
  count : (cs.length : Int) = (fewL W (sizesOf ps).length (sizesOf ps)).headD 0
  few : cs.length ≤ 10
theorem pieces_ok {ps : List (Int × Int)} {vs : List Value} {W : Int} (hs : ∀ p ∈ ps, SmallP p) (hl : ps.length ≤ 10) (hv : vs.length = ps.length) (hW : ∀ z ∈ sizesOf ps, z ≤ W) : PiecesOk ps vs W (cutL psize W (vs.zip ps)) := by
  have hz : ∀ x ∈ vs.zip ps, psize x ≤ W := fun x hx => hW _ (List.mem_map.mpr ⟨x.2, (List.of_mem_zip hx).2, rfl⟩)
  have hsz : (vs.zip ps).map psize = sizesOf ps := by
    have : (vs.zip ps).map psize = ((vs.zip ps).map (·.2)).map fun p => ((pairTxt p).length : Int) := by rw [List.map_map]; rfl
    rw [this, zip_snd hv]; rfl
  obtain ⟨h1, h2⟩ := cut_ok (size := psize) (w := W) hz
  have hcnt := cut_few (size := psize) (w := W) (n := ((sizesOf ps).length : Int)) (xs := vs.zip ps) (fun x hx => ⟨Int.natCast_nonneg _, hz x hx⟩) (by rw [sizesOf, List.length_map, List.length_zip]; omega)
  rw [hsz] at hcnt
  have hmem : ∀ c ∈ cutL psize W (vs.zip ps), ∀ x ∈ c, x ∈ vs.zip ps := fun c hc x hx => by rw [← h1]; exact List.mem_flatten.mpr ⟨c, hc, hx⟩
  have hsm : ∀ c ∈ cutL psize W (vs.zip ps), ∀ p ∈ c.map (·.2), SmallP p := fun c hc p hp => by
    obtain ⟨x, hx, rfl⟩ := List.mem_map.mp hp
    exact hs _ (List.of_mem_zip (hmem c hc x hx)).2
  have hlen : ∀ c ∈ cutL psize W (vs.zip ps), (c.map (·.2)).length ≤ 10 := fun c hc => by
    have e := congrArg List.length h1
    rw [List.length_flatten, List.length_zip] at e
    have : c.length ≤ (List.map List.length (cutL psize W (vs.zip ps))).sum := le_sum_mem (List.mem_map.mpr ⟨c, hc, rfl⟩)
    rw [List.length_map]; omega
  have hfew := Cut.row_le psize W (vs.zip ps)
  refine ⟨h1, ?_, fun c hc => ?_, fun c hc => setTxt_le (hsm c hc) (hlen c hc), fun c hc => ⟨hsm c hc, hlen c hc⟩, hcnt, ?_⟩
  · have e := join_pieces (cs := (cutL psize W (vs.zip ps)).map fun c => c.map (·.2)) (fun c hc => by
      obtain ⟨d, hd, rfl⟩ := List.mem_map.mp hc
      exact fun q => (h2 d hd).1 (List.map_eq_nil_iff.mp q))
    rw [List.map_map, ← List.map_flatten, h1, zip_snd hv] at e
    exact e
  · have hne := (h2 c hc).1
    have hne' : c.map (·.2) ≠ [] := fun q => hne (List.map_eq_nil_iff.mp q)
    refine ⟨setTxt_pos (hsm c hc) hne', ?_⟩
    have e := setTxt_len hne'
    have e2 : sizesOf (c.map (·.2)) = c.map psize := by rw [sizesOf, List.map_map]; rfl
    rw [e2] at e
    have := (h2 c hc).2
    omega
  · rw [List.length_zip] at hfew
    unfold cutL Cut.fin
    split
    · rename_i q
      have := List.length_pos_iff.mpr q
      rw [List.length_append, List.length_singleton]; omega
    · omega
theorem news_turn {h₀ h : Heap} {L : Addr} {x a b c d e : Addr × Obj} {pl tl : List (Addr × Obj)} (N : News h₀ L h (x :: (pl ++ (a :: b :: c :: d :: e :: tl)))) : News h₀ L h (x :: a :: b :: c :: d :: e :: (pl ++ tl)) := fun p hp => N p (by
  simp only [List.mem_cons, List.mem_append] at hp ⊢
  rcases hp with rfl | rfl | rfl | rfl | rfl | rfl | hp | hp <;> simp [*])
end Mine

-- part L3
namespace Mine
section
variable {prog : Program} {w : World} {A : Around} {E : Value → Shared → Prop} {s : Shared} {env : Env}
/-- a list comprehension of which no item passes the test -/
theorem comp_none {elt iter t : Expr} {x : Str} {px : Pos} {scope : Scope} {cl : List (Str × Addr)} {pos : Pos} {Q : Value → Shared → Prop}
    (hclos : closureFor scope env = pure cl) (hcell : ∀ y ∈ scope.names, y.2 ≠ .cell) (hkind : scope.kind = .function)
    (hnames : ∀ y ∈ scope.names, y.2 = .local → scope.names.lookup y.1 = some .local) (hx : scope.names.lookup x = some .local) (hh : A.handled = none)
    (h : wpAny (model prog w) A (eval iter env) (fun xv s₁ => Stop (∃ (l : Addr) (items : Array Value), xv = .ref l ∧ s₁.heap.IsList l items ∧ items.size ≤ sizeLine ∧
      (∀ (i : Nat) v C s₃ m₂ (E' : Value → Shared → Prop), items[i]? = some v → s₃.heap.Ns C m₂ → m₂ x = some v → s₁.heap.get? C = none → (∀ b o, s₁.heap.get? b = some o → s₃.heap.get? b = some o) →
        wpAny (model prog w) A (isTrue t (compEnvC scope cl C env) (eval t (compEnvC scope cl C env))) (fun ok s₄ => Stop (ok = false ∧ Keeps s₃ s₄)) E' s₃) ∧
      (∀ D h' tk n, (∀ b o, s₁.heap.get? b = some o → h'.get? b = some o) → s₁.heap.get? D = none → h'.get? D = some (PySem.W.listOf #[] n) → Q (.ref D) { s₁ with heap := h', toks := tk }))) E s)
    (hs : ∀ x, foldedSetIterable iter env x = pure x := by intro _; rfl) :
    wpAny (model prog w) A (eval (.ListComp elt [⟨.Name x px, iter, [t], 0⟩] scope pos) env) Q E s := by
  refine wpAny_ListComp_free (p := fun _ => false) (F := fun _ _ => False) hclos hcell hkind hnames hx (wpAny_mono h (fun xv s₁ h₁ => ?_) fun _ _ e => e) hs
  obtain ⟨l, items, rfl, hl, hsz, ht, hQ⟩ := h₁.go
  refine wpAny_pyIter_list hl ?_
  have hlt : l < s₁.heap.objs.size := let ⟨_, ho, _⟩ := hl; Heap.lt_size ho
  have keep : ∀ b o, s₁.heap.get? b = some o → (s₁.heap.push { cls := .type "list_iterator", data := .fields #[.ref l, .int 0 0] }).get? b = some o ∧ b ∉ [s₁.heap.objs.size] := fun b o e =>
    ⟨Heap.get?_push_of_some _ e, fun q => by rw [List.mem_singleton.mp q, get_none_size] at e; cases e⟩
  refine ⟨s₁.heap.objs.size, _, _, _, _, _, rfl, Walks.list hh s₁.heap.objs.size l (Nat.ne_of_lt hlt) items, hsz, ⟨⟨_, Heap.get?_push_size _ rfl, rfl, rfl⟩, hl.push _⟩, fun b hb => ?_, ⟨fun C i v s₃ m₃ E' hC hv hn hm hk htk => ?_, fun C i v s₃ m₃ E' hC hv hp => nomatch hp⟩, fun D h' tk ys vs hD hDl hDp hlen hv hP hk => ?_⟩
  · dsimp only; rw [Heap.size_push]
    rcases List.mem_cons.mp hb with rfl | hb
    · exact Nat.lt_succ_self _
    · rw [List.mem_singleton.mp hb]; exact Nat.lt_succ_of_lt hlt
  · refine wpAny_tests_one (wpAny_mono (ht i v C s₃ m₃ E' hv hn hm ?_ fun b o e => hk b o (keep b o e).2 (keep b o e).1) (fun ok s₄ x => x.go) fun _ _ e => e)
    cases e : s₁.heap.get? C with
    | none => rfl
    | some o =>
      have h1 := Heap.lt_size e
      dsimp only at hC; rw [Heap.size_push] at hC
      exact absurd (Nat.lt_of_lt_of_le (Nat.lt_trans h1 (Nat.lt_succ_self _)) hC) (Nat.lt_irrefl _)
  · have hys : ys.toList = [] := by
      have e : vs.filter (fun _ => false) = [] := by simp
      rw [e] at hP
      generalize ys.toList = z at hP
      cases hP; rfl
    obtain ⟨n, e⟩ := hDp
    have hy : ys = #[] := by rw [← Array.toList_eq_nil_iff]; exact hys
    rw [hy] at e
    exact hQ D h' tk n (fun b o q => hk b o (keep b o q).2 (keep b o q).1) (none_of_keeps (fun b o q => (keep b o q).1) hD) e
end

abbrev flatE (x y : Str) (px py px2 py2 : Pos) (iter : Expr) (scope : Scope) (pos : Pos) : Expr :=
  .ListComp (.Name y py) [⟨.Name x px, iter, [], 0⟩, ⟨.Name y py2, .Name x px2, [], 0⟩] scope pos
section
variable {x y : Str} {px py px2 py2 : Pos} {iter : Expr} {scope : Scope} {pos : Pos}
theorem compTurn_flat0 (it acc : Value) (env : Env) : compTurn (flatE x y px py px2 py2 iter scope pos) 0 it acc env = (standAt iter.pos >>= fun _ => pyNext it >>= fun r => match r with
      | none => pure (.done .next)
      | some v => letOwnedTupleGo (.Name x px) it v >>= fun _ => assign (.Name x px) env v >>= fun _ =>
        (eval (.Name x px2) env >>= fun z => standAt (Expr.Name x px2).pos >>= fun _ => foldedSetIterable (.Name x px2) env z >>= fun z => holding [z] (pyIter z) >>= fun it2 =>
          runOwn (.compStart (flatE x y px py px2 py2 iter scope pos) 1 it2 acc env) env >>= fun _ =>
          again (.compLoop (flatE x y px py px2 py2 iter scope pos) 0 it acc env))) := by rfl
theorem compTurn_flat1 (it acc : Value) (env : Env) : compTurn (flatE x y px py px2 py2 iter scope pos) 1 it acc env = (standAt (Expr.Name x px2).pos >>= fun _ => pyNext it >>= fun r => match r with
      | none => pure (.done .next)
      | some v => letOwnedTupleGo (.Name y py2) it v >>= fun _ => assign (.Name y py2) env v >>= fun _ =>
        (eval (.Name y py) env >>= fun z => call (.builtin "list.append") [acc, z] >>= fun _ => pure ()) >>= fun _ =>
          again (.compLoop (flatE x y px py px2 py2 iter scope pos) 1 it acc env)) := by rfl

variable {prog : Program} {w : World} {A : Around} {s : Shared} {cenv : Env}
/-- the inner clause: each item of one tuple, appended -/
theorem flat_inner {I D : Addr} {fp : List Addr} {its : List Value} {St : Nat → Heap → Prop} {acc : List Value} {m : Str → Option Value} {R : Result → Shared → Prop}
    (W : Walks prog w A I fp [I] its.length (fun i v => its[i]? = some v) St) (hk : cenv.scope.kind = .function) (hy : cenv.kindOf y = some .local) (hdb : (y == ("__debug__" : Str)) = false)
    (hDC : D ≠ cenv.locals) (hDf : D ∉ fp) (hCf : cenv.locals ∉ fp) (hst : St 0 s.heap) (hacc : s.heap.PlainList D acc.toArray) (hn : s.heap.Ns cenv.locals m) (hsz : acc.length + its.length ≤ sizeLine)
    (hR : ∀ h' tk m', h'.Ns cenv.locals m' → h'.PlainList D (acc ++ its).toArray → (∀ b o, b ≠ cenv.locals → b ≠ I → b ≠ D → s.heap.get? b = some o → h'.get? b = some o) → R (.ok .next) { s with heap := h', toks := tk }) :
    codeAny (model prog w) A (.compLoop (flatE x y px py px2 py2 iter scope pos) 1 (.ref I) (.ref D) cenv) R s := by
  have hIf : I ∈ fp := W.sub I (List.mem_singleton.mpr rfl)
  have hCI : cenv.locals ≠ I := fun e => hCf (e ▸ hIf)
  have hDI : D ≠ I := fun e => hDf (e ▸ hIf)
  have hp : (cenv.scope.kind == .class || (cenv.scope.kind == .module && cenv.locals != cenv.globals)) = false := by rw [hk]; rfl
  refine codeAny_loop rfl (fun k s' => ∃ h' tk m' i, s' = { s with heap := h', toks := tk } ∧ St i h' ∧ h'.PlainList D (acc ++ its.take i).toArray ∧ h'.Ns cenv.locals m' ∧ i ≤ its.length ∧ k = its.length + 1 - i ∧
      (∀ b o, b ≠ cenv.locals → b ≠ I → b ≠ D → s.heap.get? b = some o → h'.get? b = some o)) ?_ (its.length + 1)
    ⟨s.heap, s.toks, m, 0, rfl, hst, by simpa using hacc, hn, Nat.zero_le _, rfl, fun _ _ _ _ _ e => e⟩
  rintro k s' ⟨H, tk, m', i, rfl, hst', hacc', hn', hi, rfl, hk'⟩
  show wpAny _ A ((compTurn (flatE x y px py px2 py2 iter scope pos) 1 (.ref I) (.ref D) cenv).onRaise (fun x => do noteFrame x cenv; theTreesLotGoes x)) _ _ _
  refine wpAny_noted ?_
  rw [compTurn_flat1]
  refine wpAny_bind (wpAny_standAt (wpAny_bind ?_))
  by_cases hlt : i < its.length
  · refine W.item i _ _ _ hlt hst' fun v h₁ tk₁ hPv hst₁ hk₁ => ?_
    refine wpAny_bind (wpAny_of_eq (by rfl) ?_)
    refine wpAny_bind (wpAny_assign_Name (wpAny_storeName_local hy (hn'.at' fun o e => hk₁ _ o (by simpa using hCI) e) (fun h₂ hn₂ hs₂ => ?_) hp))
    have up₂ : ∀ b o, b ≠ cenv.locals → b ≠ I → H.get? b = some o → h₂.get? b = some o := fun b o hbC hbI e => hs₂.extBut b o hbC (hk₁ b o (by simpa using hbI) e)
    have hst₂ : St (i + 1) h₂ := W.frame _ _ _ hst₁ fun b hb o e => hs₂.extBut b o (fun h => hCf (h ▸ hb)) e
    have hacc₂ := hacc'.at fun o e => up₂ D o hDC hDI e
    refine wpAny_bind (wpAny_bind (wpAny_Name (wpAny_loadName_local hk hy hn₂ (show (fun x => if x = y then some v else m' x) y = some v from if_pos rfl) ?_) hdb))
    refine wpAny_bind (wpAny_list_append_plain (hsz := by rw [List.size_toArray, List.length_append, List.length_take]; omega) hacc₂ fun h₅ hl₅ hs₅ => wpAny_pure (wpAny_pure ⟨rfl, _, ?_, h₅, _, _, i + 1, rfl, W.frame _ _ h₅ hst₂ fun b hb o e => hs₅.extBut b o (fun h => hDf (h ▸ hb)) e, ?_, hn₂.sameBut hs₅ (Ne.symm hDC), hlt, rfl, fun b o hbC hbI hbD e => hs₅.extBut b o hbD (up₂ b o hbC hbI (hk' b o hbC hbI hbD e))⟩))
    · omega
    · rw [List.take_add_one, hPv, ← List.append_assoc]
      rw [List.push_toArray] at hl₅
      exact hl₅
  · have hin : i = its.length := by omega
    subst hin
    refine W.done _ _ _ hst' fun h₁ tk₁ hk₁ => wpAny_pure ?_
    rw [List.take_length] at hacc'
    exact hR h₁ tk₁ m' (hn'.at' fun o e => hk₁ _ o (by simpa using hCI) e) (hacc'.at fun o e => hk₁ _ o (by simpa using hDI) e) fun b o hbC hbI hbD e => hk₁ b o (by simpa using hbI) (hk' b o hbC hbI hbD e)

/-- inner start: at the second clause -/
theorem flat_start1 {it acc : Value} {R : Result → Shared → Prop} (h0 : codeAny (model prog w) A (.compLoop (flatE x y px py px2 py2 iter scope pos) 1 it acc cenv) R s)
    (h : wpAny (model prog w) A (pyIter it) (fun it' s' => codeAny (model prog w) A (.compLoop (flatE x y px py px2 py2 iter scope pos) 1 it' acc cenv) R s')
      (notedBy (model prog w) A cenv fun x s' => R (.error x) s') s) :
    codeAny (model prog w) A (.compStart (flatE x y px py px2 py2 iter scope pos) 1 it acc cenv) R s := by
  refine codeAny_of_tree ?_
  show wpAny _ _ ((compStart (flatE x y px py px2 py2 iter scope pos) 1 it acc cenv).onRaise (fun x => do noteFrame x cenv; standAt theWindowsPlace)) _ _ s
  refine wpAny_notedAt ?_
  unfold compStart
  show wpAny _ _ (ask >>= _) _ _ s
  refine wpAny_bind (wpAny_askSetting (wpAny_ite ?_))
  split
  · first
      | exact wpAny_bind (wpAny_pure (wpAny_pure (And.intro rfl h0)))
      | exact wpAny_pure (And.intro rfl h0)
  · first
      | exact wpAny_bind (wpAny_rule (wpAny_bind (wpAny_standAt (wpAny_bind (wpAny_mono h (fun it' s' h' => wpAny_pure (And.intro rfl h')) fun _ _ x => x)))))
      | (refine wpAny_bind (wpAny_rule ?_); show wpAny _ _ (standAt (Expr.Name x px2).pos >>= _) _ _ s; exact wpAny_bind (wpAny_standAt (wpAny_bind (wpAny_mono h (fun it' s' h' => wpAny_pure (And.intro rfl h')) fun _ _ x => x))))
theorem flat_outer {I D : Addr} {fp : List Addr} {tss : List (Addr × List Value)} {St : Nat → Heap → Prop} {m : Str → Option Value} {R : Result → Shared → Prop} {P : Nat → Value → Prop} (hh : A.handled = none)
    (W : Walks prog w A I fp [I] tss.length P St) (hP : ∀ i v, P i v → ∃ q, tss[i]? = some q ∧ v = .ref q.1) (hk : cenv.scope.kind = .function) (hx : cenv.kindOf x = some .local) (hy : cenv.kindOf y = some .local) (hdx : (x == ("__debug__" : Str)) = false) (hdb : (y == ("__debug__" : Str)) = false)
    (hDC : D ≠ cenv.locals) (hDf : D ∉ fp) (hCf : cenv.locals ∉ fp) (hst : St 0 s.heap) (hacc : s.heap.PlainList D #[]) (hn : s.heap.Ns cenv.locals m) (hsz : (tss.map (·.2)).flatten.length ≤ sizeLine)
    (htup : ∀ q ∈ tss, q.1 ≠ cenv.locals ∧ q.1 ≠ I ∧ q.1 ≠ D ∧ IsTup s.heap q.1 q.2.toArray)
    (hR : ∀ h' tk m', h'.Ns cenv.locals m' → h'.PlainList D (tss.map (·.2)).flatten.toArray → (∀ b o, b ≠ cenv.locals → b ≠ I → b ≠ D → s.heap.get? b = some o → h'.get? b = some o) → R (.ok .next) { s with heap := h', toks := tk }) :
    codeAny (model prog w) A (.compLoop (flatE x y px py px2 py2 iter scope pos) 0 (.ref I) (.ref D) cenv) R s := by
  have hIf : I ∈ fp := W.sub I (List.mem_singleton.mpr rfl)
  have hCI : cenv.locals ≠ I := fun e => hCf (e ▸ hIf)
  have hDI : D ≠ I := fun e => hDf (e ▸ hIf)
  have hp : (cenv.scope.kind == .class || (cenv.scope.kind == .module && cenv.locals != cenv.globals)) = false := by rw [hk]; rfl
  refine codeAny_loop rfl (fun k s' => ∃ h' tk m' i, s' = { s with heap := h', toks := tk } ∧ St i h' ∧ h'.PlainList D ((tss.take i).map (·.2)).flatten.toArray ∧ h'.Ns cenv.locals m' ∧ i ≤ tss.length ∧ k = tss.length + 1 - i ∧
      (∀ b o, b ≠ cenv.locals → b ≠ I → b ≠ D → s.heap.get? b = some o → h'.get? b = some o)) ?_ (tss.length + 1)
    ⟨s.heap, s.toks, m, 0, rfl, hst, by simpa using hacc, hn, Nat.zero_le _, rfl, fun _ _ _ _ _ e => e⟩
  rintro k s' ⟨H, tk, m', i, rfl, hst', hacc', hn', hi, rfl, hk'⟩
  show wpAny _ A ((compTurn (flatE x y px py px2 py2 iter scope pos) 0 (.ref I) (.ref D) cenv).onRaise (fun x => do noteFrame x cenv; theTreesLotGoes x)) _ _ _
  refine wpAny_noted ?_
  rw [compTurn_flat0]
  refine wpAny_bind (wpAny_standAt (wpAny_bind ?_))
  by_cases hlt : i < tss.length
  · refine W.item i _ _ _ hlt hst' fun v h₁ tk₁ hPv hst₁ hk₁ => ?_
    obtain ⟨q, hq, rfl⟩ := hP _ _ hPv
    obtain ⟨q1, q2, q3, hT⟩ := htup q (List.mem_of_getElem? hq)
    refine wpAny_bind (wpAny_of_eq (by rfl) ?_)
    refine wpAny_bind (wpAny_assign_Name (wpAny_storeName_local hx (hn'.at' fun o e => hk₁ _ o (by simpa using hCI) e) (fun h₂ hn₂ hs₂ => ?_) hp))
    have up₂ : ∀ b o, b ≠ cenv.locals → b ≠ I → H.get? b = some o → h₂.get? b = some o := fun b o hbC hbI e => hs₂.extBut b o hbC (hk₁ b o (by simpa using hbI) e)
    have hst₂ : St (i + 1) h₂ := W.frame _ _ _ hst₁ fun b hb o e => hs₂.extBut b o (fun h => hCf (h ▸ hb)) e
    have hacc₂ := hacc'.at fun o e => up₂ D o hDC hDI e
    have hT₂ : IsTup h₂ q.1 q.2.toArray := by
      obtain ⟨o, ho, r⟩ := hT
      exact ⟨o, up₂ _ _ q1 q2 (hk' _ _ q1 q2 q3 ho), r⟩
    refine wpAny_bind (wpAny_Name (wpAny_loadName_local hk hx hn₂ (show (fun z => if z = x then some (Value.ref q.1) else m' z) x = some (.ref q.1) from if_pos rfl) ?_) hdx)
    refine wpAny_bind (wpAny_standAt (wpAny_bind (wpAny_of_eq (by rfl) (wpAny_bind (wpAny_holding (wpAny_pyIter_tuple hT₂ ?_))))))
    have hI2 : h₂.get? h₂.objs.size = none := get_none_size _
    have nI2 : ∀ b o, h₂.get? b = some o → b ≠ h₂.objs.size := fun b o e q => by rw [q, hI2] at e; cases e
    have hlen : ((tss.take i).map (·.2)).flatten.length + q.2.length ≤ (tss.map (·.2)).flatten.length := by
      have e : tss = tss.take i ++ q :: tss.drop (i + 1) := by
        obtain ⟨hi', e⟩ := List.getElem?_eq_some_iff.mp hq
        rw [← e, List.getElem_cons_drop, List.take_append_drop]
      have e2 : (tss.map (·.2)).flatten = ((tss.take i).map (·.2)).flatten ++ (q.2 ++ ((tss.drop (i + 1)).map (·.2)).flatten) := by
        conv => lhs; rw [e]
        simp
      rw [e2, List.length_append, List.length_append]; omega
    obtain ⟨St2, WI, hSt2⟩ : ∃ St2, Walks prog w A h₂.objs.size [h₂.objs.size, q.1] [h₂.objs.size] q.2.toArray.size (fun i v => q.2.toArray[i]? = some v) St2 ∧ St2 0 (h₂.push { cls := .type "tuple_iterator", data := .fields #[.ref q.1, .int 0 0] }) :=
      ⟨_, Walks.tuple (prog := prog) (w := w) hh h₂.objs.size q.1 (fun q => by obtain ⟨o, ho, _⟩ := hT₂; exact nI2 _ _ ho q) q.2.toArray, ⟨⟨_, Heap.get?_push_size _ rfl, rfl, rfl⟩, hT₂.push _⟩⟩
    have loop : codeAny (model prog w) A (.compLoop (flatE x y px py px2 py2 iter scope pos) 1 (.ref h₂.objs.size) (.ref D) cenv)
        (fun r s' => match r with | .ok f => wpAny (model prog w) A (again (.compLoop (flatE x y px py px2 py2 iter scope pos) 0 (.ref I) (.ref D) cenv)) (fun fin s' => match fin with
            | .done f => R (.ok f) s'
            | .again c' => c' = .compLoop (flatE x y px py px2 py2 iter scope pos) 0 (.ref I) (.ref D) cenv ∧ ∃ m, m < tss.length + 1 - i ∧ ∃ h' tk m' i, s' = { s with heap := h', toks := tk } ∧ St i h' ∧ h'.PlainList D ((tss.take i).map (·.2)).flatten.toArray ∧ h'.Ns cenv.locals m' ∧ i ≤ tss.length ∧ m = tss.length + 1 - i ∧
              (∀ b o, b ≠ cenv.locals → b ≠ I → b ≠ D → s.heap.get? b = some o → h'.get? b = some o)) (notedBy (model prog w) A cenv fun e s' => R (.error e) s') s' | .error e => cameBackBy (model prog w) A cenv (notedBy (model prog w) A cenv fun e s' => R (.error e) s') e s')
        { s with heap := h₂.push { cls := .type "tuple_iterator", data := .fields #[.ref q.1, .int 0 0] }, toks := tk₁ + 1 } := by
      refine flat_inner (its := q.2) (acc := ((tss.take i).map (·.2)).flatten) (by simpa using WI) hk hy hdb hDC ?_ ?_ hSt2 (hacc₂.at fun o e => Heap.get?_push_of_some _ e) (hn₂.keeps fun b o e => Heap.get?_push_of_some _ e) (by omega) fun h' tk' m'' hn₅ hl₅ hk₅ => wpAny_pure ⟨rfl, _, ?_, h', tk', m'', i + 1, rfl, W.frame _ _ _ hst₂ fun b hb o e => ?_, ?_, hn₅, hlt, rfl, fun b o hbC hbI hbD e => ?_⟩
      · intro hm
        rcases List.mem_cons.mp hm with e | hm
        · obtain ⟨n, e'⟩ := hacc₂; exact nI2 _ _ e' e
        · exact q3 (List.mem_singleton.mp hm).symm
      · intro hm
        rcases List.mem_cons.mp hm with e | hm
        · obtain ⟨o, _, _, ho, _⟩ := hn₂; exact nI2 _ _ ho e
        · exact q1 (List.mem_singleton.mp hm).symm
      · omega
      · exact hk₅ b o (fun e => hCf (e ▸ hb)) (nI2 b o e) (fun e => hDf (e ▸ hb)) (Heap.get?_push_of_some _ e)
      · rw [List.take_add_one, hq]
        simpa using hl₅
      · have e2 := up₂ b o hbC hbI (hk' b o hbC hbI hbD e)
        exact hk₅ b o hbC (nI2 b o e2) hbD (Heap.get?_push_of_some _ e2)
    exact wpAny_bind (wpAny_runOwn (flat_start1 loop (WI.self 0 _ _ _ hSt2 loop)))
  · have hin : i = tss.length := by omega
    subst hin
    refine W.done _ _ _ hst' fun h₁ tk₁ hk₁ => wpAny_pure ?_
    rw [List.take_length] at hacc'
    exact hR h₁ tk₁ m' (hn'.at' fun o e => hk₁ _ o (by simpa using hCI) e) (hacc'.at fun o e => hk₁ _ o (by simpa using hDI) e) fun b o hbC hbI hbD e => hk₁ b o (by simpa using hbI) (hk' b o hbC hbI hbD e)

/-- a comprehension of two clauses over a list of tuples: the items, row by row -/
theorem comp_flat {E : Value → Shared → Prop} {env : Env} {cl : List (Str × Addr)} {Q : Value → Shared → Prop} (hclos : closureFor scope env = pure cl) (hcell : ∀ y ∈ scope.names, y.2 ≠ .cell) (hkind : scope.kind = .function)
    (hnames : ∀ y ∈ scope.names, y.2 = .local → scope.names.lookup y.1 = some .local) (hx : scope.names.lookup x = some .local) (hy : scope.names.lookup y = some .local) (hdx : (x == ("__debug__" : Str)) = false) (hdb : (y == ("__debug__" : Str)) = false) (hh : A.handled = none)
    (h : wpAny (model prog w) A (eval iter env) (fun xv s₁ => Stop (∃ (l : Addr) (tss : List (Addr × List Value)), xv = .ref l ∧ s₁.heap.IsList l (tss.map fun q => Value.ref q.1).toArray ∧ (tss.map (·.2)).flatten.length ≤ sizeLine ∧ (∀ q ∈ tss, IsTup s₁.heap q.1 q.2.toArray) ∧
      (∀ D h' tk n, (∀ b o, s₁.heap.get? b = some o → h'.get? b = some o) → s₁.heap.get? D = none → h'.get? D = some (PySem.W.listOf (tss.map (·.2)).flatten.toArray n) → Q (.ref D) { s₁ with heap := h', toks := tk }))) E s)
    (hs : ∀ x, foldedSetIterable iter env x = pure x := by intro _; rfl) :
    wpAny (model prog w) A (eval (flatE x y px py px2 py2 iter scope pos) env) Q E s := by
  rw [eval_ListComp]
  refine wpAny_comprehension_free (use := none) rfl hs hclos hkind hnames (wpAny_mono h (fun xv s₁ h₁ => ?_) fun _ _ e => e)
  obtain ⟨l, tss, rfl, hl, hsz, htup, hQ⟩ := h₁.go
  refine wpAny_pyIter_list hl ?_
  have hlt : l < s₁.heap.objs.size := let ⟨_, ho, _⟩ := hl; Heap.lt_size ho
  obtain ⟨St, W, hst⟩ : ∃ St, Walks prog w A s₁.heap.objs.size [s₁.heap.objs.size, l] [s₁.heap.objs.size] (tss.map fun q => Value.ref q.1).toArray.size (fun i v => (tss.map fun q => Value.ref q.1).toArray[i]? = some v) St ∧ St 0 (s₁.heap.push { cls := .type "list_iterator", data := .fields #[.ref l, .int 0 0] }) :=
    ⟨_, Walks.list hh s₁.heap.objs.size l (Nat.ne_of_lt hlt) _, ⟨⟨_, Heap.get?_push_size _ rfl, rfl, rfl⟩, hl.push _⟩⟩
  have hk₀ : ∀ b o, s₁.heap.get? b = some o → (s₁.heap.push { cls := .type "list_iterator", data := .fields #[.ref l, .int 0 0] }).get? b = some o := fun b o e => Heap.get?_push_of_some _ e
  have hI : s₁.heap.get? s₁.heap.objs.size = none := get_none_size _
  have hIs : (s₁.heap.push { cls := .type "list_iterator", data := .fields #[.ref l, .int 0 0] }).objs.size = s₁.heap.objs.size + 1 := Heap.size_push _ _
  generalize (s₁.heap.push { cls := .type "list_iterator", data := .fields #[.ref l, .int 0 0] }) = h₂ at *
  generalize hIe : s₁.heap.objs.size = I at *
  refine wpAny_newObj_type (wpAny_newFunctionEnv hcell (by intro y hy; simp at hy) (fun h₁ hns₁ hsb₁ => ?_) hkind)
  dsimp only at hns₁ hsb₁ ⊢
  generalize hH2 : h₂.push { cls := .type "list", dict := none, data := .seq ([] : List Value).toArray } = H2 at hns₁ hsb₁ ⊢
  have hC : H2.objs.size = h₂.objs.size + 1 := by rw [← hH2, Heap.size_push]
  have hDC : h₂.objs.size ≠ H2.objs.size := by rw [hC]; exact Nat.ne_of_lt (Nat.lt_succ_self _)
  have below : ∀ b, b < h₂.objs.size → b ≠ H2.objs.size ∧ b ≠ h₂.objs.size := fun b hb => ⟨by rw [hC]; exact Nat.ne_of_lt (Nat.lt_succ_of_lt hb), Nat.ne_of_lt hb⟩
  have hIlt : I < h₂.objs.size := by rw [hIs]; exact Nat.lt_succ_self _
  have hllt : l < h₂.objs.size := Nat.lt_trans hlt hIlt
  have hfp : ∀ b ∈ [I, l], b < h₂.objs.size := by
    intro b hb
    rcases List.mem_cons.mp hb with rfl | hb
    · exact hIlt
    · rw [List.mem_singleton.mp hb]; exact hllt
  have hDf : h₂.objs.size ∉ [I, l] := fun hm => Nat.lt_irrefl _ (hfp _ hm)
  have hCf : H2.objs.size ∉ [I, l] := fun hm => by have := hfp _ hm; rw [hC] at this; exact Nat.lt_irrefl _ (Nat.lt_of_succ_lt this)
  have old : ∀ b o, h₂.get? b = some o → h₁.get? b = some o := fun b o e => hsb₁.extBut b o (below b (Heap.lt_size e)).1 (Heap.get?_push_of_some _ (hH2 ▸ Heap.get?_push_of_some _ e))
  have hacc : h₁.PlainList h₂.objs.size #[] := ⟨_, hsb₁.extBut _ _ hDC (Heap.get?_push_of_some _ (hH2 ▸ Heap.get?_push_size _ rfl))⟩
  have hst₁ : St 0 h₁ := W.frame _ _ _ hst fun b _ o e => old b o e
  have fresh : ∀ a, h₂.objs.size ≤ a → h₂.get? a = none := fun a ha => by
    cases e : h₂.get? a with
    | none => rfl
    | some o' => exact absurd (Heap.lt_size e) (Nat.not_lt.mpr ha)
  have fresh₀ : ∀ a, h₂.objs.size ≤ a → s₁.heap.get? a = none := fun a ha => none_of_keeps hk₀ (fresh a ha)
  have hCle : h₂.objs.size ≤ H2.objs.size := by rw [hC]; exact Nat.le_succ _
  have live₁ : ∀ b o, s₁.heap.get? b = some o → b ≠ H2.objs.size ∧ b ≠ I ∧ b ≠ h₂.objs.size := fun b o e => ⟨(below b (Heap.lt_size (hk₀ b o e))).1, (fun q => by rw [q, hI] at e; cases e), (below b (Heap.lt_size (hk₀ b o e))).2⟩
  have loop : ∀ s₃ : Shared, s₃ = { s₁ with heap := h₁, toks := s₁.toks + ([] : List (Str × Value)).length } →
      codeAny (model prog w) A (.compLoop (flatE x y px py px2 py2 iter scope pos) 0 (.ref I) (.ref h₂.objs.size) (compEnvC scope cl H2.objs.size env))
        (compPost (model prog w) A E none Q (.ref h₂.objs.size) H2.objs.size) s₃ := by
    rintro s₃ rfl
    refine flat_outer (tss := tss) (cenv := compEnvC scope cl H2.objs.size env) hh (by simpa using W) (fun i v e => ?_) (by simp [compEnvC, relabel, hkind]) (lookup_relabel_local hx) (lookup_relabel_local hy) hdx hdb hDC hDf hCf hst₁ hacc hns₁ hsz (fun q hq => ?_) ?_
    · have e' : Option.map (fun q => Value.ref q.1) tss[i]? = some v := by simpa using e
      obtain ⟨q, hq, rfl⟩ := Option.map_eq_some_iff.mp e'
      exact ⟨q, hq, rfl⟩
    · obtain ⟨o, ho, r⟩ := htup q hq
      obtain ⟨a1, a2, a3⟩ := live₁ _ _ ho
      exact ⟨a1, a2, a3, o, old _ _ (hk₀ _ _ ho), r⟩
    · intro h' tk m' hn hlst hk
      obtain ⟨n, e⟩ := hlst
      have hk2 : ∀ b o, s₁.heap.get? b = some o → h'.get? b = some o := fun b o e => by
        obtain ⟨a1, a2, a3⟩ := live₁ b o e
        exact hk b o a1 a2 a3 (old b o (hk₀ b o e))
      exact ⟨m', hn, fun h'' hs'' => hQ _ h'' tk n (fun b o e => hs''.extBut b o (live₁ b o e).1 (hk2 b o e)) (fresh₀ _ (Nat.le_refl _)) (hs''.extBut _ _ hDC e)⟩
  exact codeAny_compStart_list (loop _ rfl) (W.self 0 _ _ _ hst₁ (loop _ rfl))
end
theorem ne_same {prog : Program} {w : World} {A : Around} {E : Value → Shared → Prop} {s : Shared} {x y : Str} {t u : Tok} {Q : Value → Shared → Prop} (e : x = y) (h : Q (.bool false) s) : wpAny (model prog w) A (compareOp .NotEq (.str x t) (.str y u)) Q E s := by
  subst e
  refine PySem.P.ne_str ?_
  have : (x.cps.toList != x.cps.toList) = false := by simp
  rw [this]; exact h
theorem ne_pairs {prog : Program} {w : World} {A : Around} {E : Value → Shared → Prop} {s : Shared} {h₀ : Heap} {L a b : Addr} {n k : Nat} {vs : List Value} {ps : List (Int × Int)} {tl news : List (Addr × Obj)} {Q : Value → Shared → Prop}
    (N : News h₀ L s.heap news) (ha : (a, PySem.W.listOf vs.toArray n) ∈ news) (hb : (b, PySem.W.listOf vs.toArray k) ∈ news) (hps : PairsR (InL tl) vs ps) (hs : ∀ p ∈ tl, p ∈ news) (hu : A.units + 64 < cLine) (h : Q (.bool false) s) :
    wpAny (model prog w) A (compareOp .NotEq (.ref a) (.ref b)) Q E s :=
  ne_dataH (reads_list_at (N _ ha).1 rfl rfl (reads_pairs (News.inL N hs) hps)) (reads_list_at (N _ hb).1 rfl rfl (reads_pairs (News.inL N hs) hps)) (pd_shaped _).2 (pd_shaped _).2 hu (by
    have e : PyData.eqv (.list (ps.map pd)) (.list (ps.map pd)) = true := pd_eqv ps
    rw [e]; exact h)
theorem inL_one {h₀ h : Heap} {L a : Addr} {o : Obj} {news : List (Addr × Obj)} (N : News h₀ L h news) (hm : (a, o) ∈ news) : (InL [(a, o)]).le h :=
  News.inL N fun p hp => by rw [List.mem_singleton.mp hp]; exact hm
theorem flat_vs {ts : List (Addr × List Item)} {cs : List (List Item)} {vs : List Value} {ps : List (Int × Int)} {W : Int} (h : ts.map (·.2) = cs) (hok : PiecesOk ps vs W cs) (hv : vs.length = ps.length) :
    ((ts.map fun q => (q.1, q.2.map (·.1))).map (·.2)).flatten = vs := by
  have e : (ts.map fun q => (q.1, q.2.map (·.1))).map (·.2) = (ts.map (·.2)).map fun c => c.map (·.1) := by
    rw [List.map_map, List.map_map]; rfl
  rw [e, h, ← List.map_flatten, hok.flat, zip_fst hv]
theorem news_end {h₀ h : Heap} {L : Addr} {a b c d e f g i j k l : Addr × Obj} {rest tl : List (Addr × Obj)} (N : News h₀ L h (a :: b :: c :: d :: e :: f :: g :: i :: j :: k :: l :: rest)) (hs : ∀ p ∈ tl, p ∈ rest) : News h₀ L h (g :: i :: j :: k :: l :: tl) := fun p hp => N p (by
  simp only [List.mem_cons] at hp ⊢
  rcases hp with rfl | rfl | rfl | rfl | rfl | hp <;> simp [*])
end Mine

-- part L4
namespace Mine
section
variable {w : World} {A : Around} {E : Value → Shared → Prop} {s' : Shared} {h₀ h B : Heap} {outer : List Env} {L a e D t : Addr} {m : Str → Option Value} {cn : Str} {cs : Scope} {ccd : Value} {cl : List (Str × Addr)}
  {n x : Str} {b₀ : Stmt} {suite : List Stmt} {pos np : Pos} {rest : List ExceptHandler} {Q : Flow → Shared → Prop} {news : List (Addr × Obj)} {p : Program} {loose : List Str} {mg mb : Str → Option Value} {oD : Obj} {mD : Str → Option Value}
/-- the fault is caught, and has a name -/
theorem caught_fault (hfr : A.frames = some (envX cn cs L a ccd cl :: outer)) (F : Fr h₀ L h m) (hB0 : h₀.StaysIn B) (hsm : h.UpToSlots s'.heap) (fly : Fly B (envX cn cs L a ccd cl :: outer) e D t .none s'.heap)
    (X : (Mine.hd.heap_39 w.params).In h₀) (T : TopRead p loose mg mb h₀) (ex : nsIn (Mine.hd.heap_39 w.params) mainGlobals x = some (some (.ref 59))) (hN : ∀ q ∈ news, B.get? q.1 = some q.2) (N : News h₀ L h news)
    (hDn : h.get? D = none) (hDD : s'.heap.get? D = some oD) (hND : NsO oD mD)
    (k : ∀ h' tk tb oD', Fr h₀ L h' (fun y => if y = n then some (.ref e) else m y) → News h₀ L h' ((e, excObj (some D) t tb) :: (D, oD') :: news) → NsO oD' mD →
      wpAny (model PySem.Challenge.rw_nz0268_01.row.prog w) (A.mark (some (.ref e))) (execs (b₀ :: suite) (envX cn cs L a ccd cl))
        (fun f s₄ => wpAny (model PySem.Challenge.rw_nz0268_01.row.prog w) A (do bindName (envX cn cs L a ccd cl) n .none; unbindBehindTheSuite (envX cn cs L a ccd cl) n pos) (fun _ s₅ => Q f s₅) E s₄)
        (AsSuiteRaised (model PySem.Challenge.rw_nz0268_01.row.prog w) (A.mark (some (.ref e))) (envX cn cs L a ccd cl) n pos (notedBy (model PySem.Challenge.rw_nz0268_01.row.prog w) (A.mark (some (.ref e))) (envX cn cs L a ccd cl) (cameBackBy (model PySem.Challenge.rw_nz0268_01.row.prog w) A (envX cn cs L a ccd cl) E)))
        { s' with heap := h', toks := tk })
    (hk : cs.kind = .function := by rfl) (hlo : (envX cn cs L a ccd cl).kindOf n = some .local := by rfl) (hx : (envX cn cs L a ccd cl).kindOf x = some .globalImplicit := by rfl) (hd : (x == ("__debug__" : Str)) = false := by decide) :
    wpAny (model PySem.Challenge.rw_nz0268_01.row.prog w) A (noteFrame (.ref e) (envX cn cs L a ccd cl))
      (fun _ s₂ => wpAny (model PySem.Challenge.rw_nz0268_01.row.prog w) A (setFlight (.ref e) none) (fun _ s₃ =>
        wpAny (model PySem.Challenge.rw_nz0268_01.row.prog w) A (handleBy (.ref e) (envX cn cs L a ccd cl) (.ExceptHandler (some (.Name x np)) (some n) (b₀ :: suite) pos :: rest)) Q E s₃) E s₂) E s' := by
  refine fly_note2 hfr rfl fly fun h₄ fly₄ up₄ => ?_
  refine fly_lands fly₄ fun h₅ fly₅ up₅ => ?_
  have F₅ : Fr h₀ L h₅ m := F.of_stays (fun b o q => fly₅.stays b o (hB0 b o q)) ((hsm.trans up₄).trans up₅)
  refine wpAny_handleBy_cons (codeAny_handlers_test (nameX_K F₅ X T ex ?_ hk hx hd)) (by intro q; cases q)
  obtain ⟨nm, q, bs, hdct, sn, sub, ab, col, dd, k0, k1, k2, k3, k5, hC, rfl⟩ := (fault_cls (X.keeps F₅.keep)).cls
  obtain ⟨Tb, oT, ts, hE5, -⟩ := fly₅.exc
  refine wpAny_excMatches_sub_self hC hE5 rfl (by decide +kernel) (codeAny_handlers_suite_as ?_)
  refine fly_lands fly₅ fun h₆ fly₆ up₆ => ?_
  have up : s'.heap.UpToSlots h₆ := (up₄.trans up₅).trans up₆
  have F₆ : Fr h₀ L h₆ m := F.of_stays (fun b o q => fly₆.stays b o (hB0 b o q)) (hsm.trans up)
  obtain ⟨Tb6, oT6, ts6, hE6, -⟩ := fly₆.exc
  obtain ⟨sl, hD6⟩ := up D oD hDD (fun vs q => by obtain ⟨es, ep, d, _⟩ := hND; rw [d] at q; cases q)
  have N₆ : News h₀ L h₆ ((e, excObj (some D) t (.ref Tb6)) :: (D, { oD with slots := sl }) :: news) := fun q hq => by
    rcases List.mem_cons.mp hq with rfl | hq
    · refine ⟨hE6, ?_, fresh_of_stays hB0 fly₆.enew⟩
      rintro rfl
      obtain ⟨oL, es, ep, ho, hd, _⟩ := F₆.ns
      rw [hE6] at ho; cases ho; cases hd
    · rcases List.mem_cons.mp hq with rfl | hq
      · exact ⟨hD6, Fr.newNe F hDn, Fr.newBase F hDn⟩
      · exact ⟨fly₆.stays _ _ (hN q hq), (N q hq).2⟩
  exact storeX_L F₆ N₆ (fun h₇ F₇ N₇ => k h₇ _ _ _ F₇ N₇ hND) hk hlo
end
end Mine

-- part L5
namespace Mine
open PySem.Calls
theorem entry_unchain : entryFor table "proto.unchain" = some Builtin.«proto.unchain» := entryFor_of_tree (by kernel_rfl)
section
variable {prog : Program} {w : World} {A : Around} {E : Value → Shared → Prop} {s : Shared} {x : Addr} {ox : Obj} {fs : Array Value}
theorem unchain_none {ev : Value} {b : Bool} {R : Result → Shared → Prop} (hx : s.heap.get? x = some ox) (hd : ox.data = .fields fs) (h2 : fs[2]? = some .none) (hR : R (.ok (.ret .none)) s) :
    codeAny (model prog w) A (.builtin "proto.unchain" ⟨[ev, .ref x, .ref x, .bool b], []⟩) R s := by
  refine codeAny_builtin entry_unchain ?_
  unfold Builtin.«proto.unchain»
  refine wpAny_bind (wpAny_field hx hd h2 ?_)
  rw [if_pos (show ((Value.none == Value.none) = true) from rfl)]
  exact wpAny_pure hR
theorem list_end_some {it l : Addr} {i : Nat} {items : Array Value} {Q : Option Value → Shared → Prop} (hh : A.handled = some (.ref x)) (hx : s.heap.get? x = some ox) (hxd : ox.data = .fields fs) (h2 : fs[2]? = some .none) (hxi : x ≠ it)
    (hit : s.heap.IsListIter it l i) (hl : s.heap.IsList l items) (hx' : items[i]? = none)
    (hQ : ∀ h', Heap.ExtBut it s.heap h' → Q none { s with heap := h' }) : wpAny (model prog w) A (pyNext (.ref it)) Q E s := by
  obtain ⟨o, ho, hc, hd⟩ := id hit
  obtain ⟨ol, hol, _, nl, hdl⟩ := hl
  unfold pyNext
  refine wpAny_bind (wpAny_attempt (wpAny_callSpecial?_slot (name := Str.ofString "__next__") hit.typeIs slot_listiter_next
    (wpAny_call_entry slot_listiter_next hit.typeIs entry_listiter_next ?_ (args_listiter_next _))))
  show wpAny _ _ (field (.ref it) 0 >>= _) _ _ s
  refine wpAny_bind (wpAny_field ho hd (x := .ref l) rfl ?_)
  show wpAny _ _ (if (Value.ref l == Value.none) = true then _ else _) _ _ s
  rw [if_neg (show ¬ ((Value.ref l == Value.none) = true) from Bool.false_ne_true)]
  show wpAny _ _ (field (.ref it) 1 >>= _) _ _ s
  refine wpAny_bind (wpAny_field ho hd (x := .int i 0) rfl ?_)
  show wpAny _ _ (seqItems? (.ref l) >>= _) _ _ s
  refine wpAny_bind (wpAny_seqItems hol hdl ?_)
  simp only [Int.toNat_natCast, hx']
  refine wpAny_bind (wpAny_rule (wpAny_bind (wpAny_setField ho hd (by simp) ?_)))
  show wpAny _ _ (newExc (.type "StopIteration") [] >>= _) _ _ _
  refine wpAny_bind ?_
  simp only [newExc, newTuple]
  refine wpAny_bind (wpAny_newObj_type ?_ (by size_fits))
  refine wpAny_bind (m := firstArgMember _ _) (wpAny_of_eq (a := Value.none) (by first | rfl | (simp only [firstArgMember]; rfl)) ?_)
  refine wpAny_newObj_type ?_ (by size_fits)
  simp only [raiseNew]
  refine wpAny_bind (wpAny_handled ?_)
  rw [show A.in1.handled = some (.ref x) from hh]
  have e1 : (s.heap.update it (Obj.mapFields fun x => x.setIfInBounds 0 Value.none)).get? x = some ox := (Heap.get?_update_other _ _ (Ne.symm hxi)).trans hx
  have hext : Heap.ExtBut it s.heap (s.heap.update it (Obj.mapFields fun x => x.setIfInBounds 0 Value.none)) := (Heap.SameBut.update ..).extBut
  generalize (s.heap.update it (Obj.mapFields fun x => x.setIfInBounds 0 Value.none)) = T1 at *
  have hext2 := hext.push { cls := Value.type "tuple", data := Data.seq #[] }
  have e2 : (T1.push { cls := Value.type "tuple", data := Data.seq #[] }).get? x = some ox := Heap.get?_push_of_some _ e1
  generalize hT2 : T1.push { cls := Value.type "tuple", data := Data.seq #[] } = T2 at *
  have hne : x ≠ T2.objs.size := Nat.ne_of_lt (Heap.lt_size e2)
  dsimp only
  rw [if_pos (by simpa using hne)]
  refine wpAny_bind (wpAny_holding (wpAny_runValue (unchain_none (Heap.get?_push_of_some _ e2) hxd h2 ?_)))
  refine wpAny_bind ?_
  show wpAny _ _ (setField (.ref _) 2 _) _ _ _
  refine wpAny_setField (Heap.get?_push_size _ rfl) rfl ?_ ?_
  rotate_left
  · refine wpAny_throw ?_
    refine wpAny_bind (wpAny_isInstance (T := "StopIteration") (b := true) ⟨_, Heap.get?_update_self _ (Heap.get?_push_size _ rfl) rfl, rfl⟩ isSubtype_stop ?_)
    refine wpAny_pure (hQ _ fun b o hb e => ?_)
    have e3 := hext2 b o hb e
    exact (Heap.get?_update_other _ _ (fun q => by rw [← q, get_none_size] at e3; cases e3)).trans (Heap.get?_push_of_some _ e3)
  · rw [Array.size_append]; exact Nat.lt_of_lt_of_le (by decide) (Nat.le_add_right 6 _)
theorem walks_listH (hh : A.handled = some (.ref x)) (hxd : ox.data = .fields fs) (h2 : fs[2]? = some .none) (I ax : Addr) (hne : ax ≠ I) (hxI : x ≠ I) (items : Array Value) :
    Walks prog w A I [I, ax, x] [I] items.size (fun i v => items[i]? = some v) (fun i h => (h.IsListIter I ax i ∧ h.IsList ax items) ∧ h.get? x = some ox) where
  sub := fun b hb => by simp at hb; simp [hb]
  frame := fun _ _ _ st hk => ⟨⟨st.1.1.at fun o e => hk I (by simp) o e, st.1.2.at fun o e => hk ax (by simp) o e⟩, hk x (by simp) _ st.2⟩
  item := fun i s Q E hi st hQ => by
    refine wpAny_pyNext_list_item st.1.1 st.1.2 (x := items[i]) (by simp [hi]) fun h' hit' hs' => ?_
    exact hQ _ h' s.toks (by simp [hi]) ⟨⟨hit', st.1.2.extBut hs'.extBut hne⟩, hs'.extBut _ _ hxI st.2⟩ fun b o hb e => hs'.extBut b o (fun h => hb (by simp [h])) e
  done := fun s Q E st hQ => list_end_some hh st.2 hxd h2 hxI st.1.1 st.1.2 (by simp) fun h' he' => hQ h' s.toks fun b o hb e => he' b o (fun h => hb (by simp [h])) e
  self := fun _ _ _ _ st hQ => wpAny_pyIter_listiter st.1.1 hQ
theorem max_intListH {l : Addr} {xs : Array (Int × Tok)} {Q : Value → Shared → Prop} (hh : A.handled = some (.ref x)) (hx : s.heap.get? x = some ox) (hxd : ox.data = .fields fs) (h2 : fs[2]? = some .none) (hl : s.heap.IsList l (intItems xs)) (hne : 0 < xs.size)
    (h : ∀ v h' tk, (intItems xs)[argBest (fun i j => decide (numAt xs i > numAt xs j)) (xs.size - 1)]? = some v → (∀ b o, s.heap.get? b = some o → h'.get? b = some o) → Q v { s with heap := h', toks := tk }) :
    wpAny (model prog w) A (call (.builtin "max") [.ref l]) Q E s := by
  have hxI : x ≠ s.heap.objs.size := Nat.ne_of_lt (Heap.lt_size hx)
  refine call_max_walk (iter_intList hl fun s₂ e st hfp hlI => ?_)
  subst e
  refine ⟨_, _, _, _, _, _, _, rfl, walks_listH (A := A.in1) hh hxd h2 _ l hlI hxI (intItems xs), ⟨st, Heap.get?_push_of_some _ hx⟩, fun b hb => ?_, by simpa [intItems] using hne, CmpOf.ints_gt (numAt xs) (fun _ _ => intItems_at), fun v h' tk hP hk => ?_⟩
  · rcases List.mem_cons.mp hb with rfl | hb
    · exact hfp _ (.head _)
    · rcases List.mem_cons.mp hb with rfl | hb
      · exact hfp _ (.tail _ (.head _))
      · rw [List.mem_singleton.mp hb]
        exact Heap.lt_size (Heap.get?_push_of_some _ hx)
  · exact h v h' tk (by simpa [intItems] using hP) (old_kept hk)
theorem max_listH {h₀ : Heap} {L : Addr} {m : Str → Option Value} {news : List (Addr × Obj)} {l : Addr} {vs : List Value} {ns : List Int} {Q : Value → Shared → Prop} (hh : A.handled = some (.ref x)) (hx : s.heap.get? x = some ox) (hxd : ox.data = .fields fs) (h2 : fs[2]? = some .none) (F : Fr h₀ L s.heap m) (N : News h₀ L s.heap news)
    (hl : s.heap.IsList l vs.toArray) (hi : IntsAre vs ns) (hne : 0 < ns.length)
    (h : ∀ h' M (t : Tok) tk, Fr h₀ L h' m → News h₀ L h' news → M ∈ ns → (∀ a, a ∈ ns → a ≤ M) → Q (.int M t) { s with heap := h', toks := tk }) :
    wpAny (model prog w) A (call (.builtin "max") [.ref l]) Q E s := by
  obtain ⟨xs, e⟩ := hi.allInts.items
  have hns : ns = xs.toList.map (·.1) := by
    rw [← hi.numsOf, ← nums_intItems, ← e]
  have hsz : 0 < xs.size := by
    have h3 := hne; rw [hns, List.length_map, Array.length_toList] at h3; exact h3
  rw [e] at hl
  refine max_intListH hh hx hxd h2 hl hsz fun v h' tk hv hk => ?_
  obtain ⟨t, rfl⟩ := intItems_at hv
  obtain ⟨h1, h2⟩ := argBest_gt (numAt xs) (xs.size - 1)
  refine h _ _ t tk (F.grownK hk) (N.grown hk) ?_ fun a ha => ?_
  · rw [hns, numAt_eq]; exact getD_mem (by rw [List.length_map, Array.length_toList]; omega)
  · rw [hns] at ha
    obtain ⟨j, hj, rfl⟩ := mem_getD ha
    rw [List.length_map, Array.length_toList] at hj
    rw [← numAt_eq]; exact h2 j (by omega)
end
end Mine

-- part L6
namespace Mine
open PySem.Builtin PySem.Builtin.ObjectAttr
section
variable {w : World} {A : Around} {E : Value → Shared → Prop} {h : Heap} {g : Array GenState} {d : Drawn} {t0 : Nat} {os : OsState} {e t D : Addr} {tb v : Value} {mD : Str → Option Value} {name : Str}
theorem fault_entry {tk : Tok} {Q : Fin → Shared → Prop} (X : (Mine.hd.heap_39 w.params).In h) (he : h.get? e = some (excObj (some D) t tb)) (hD : h.Ns D mD) (hv : mD name = some v) (hf : findIn (Mine.hd.heap_39 w.params) (.ref 59) name = some none)
    (hq : Q (.done (.ret v)) ⟨h, g, d, t0, os⟩) :
    wpAny (model PySem.Challenge.rw_nz0268_01.row.prog w) A (Builtin.«object.__getattribute__» ⟨[.ref e, .str name tk], []⟩) Q E ⟨h, g, d, t0, os⟩ := by
  have hlk := looks_findIn (M := model PySem.Challenge.rw_nz0268_01.row.prog w) X hf
  obtain ⟨nm, q, bs, hdct, sn, sub, ab, col, dd, k0, k1, k2, k3, k5, hC, rfl⟩ := (fault_cls X).cls
  unfold Builtin.«object.__getattribute__»
  repeat (any_goals (first | assumption | (with_reducible refine wpAny_loadPart_at he ?_) | (with_reducible refine wpAny_loadPart_at hC ?_) | (with_reducible refine Looks.here (s := ⟨h, g, d, t0, os⟩) hlk ?_) | (with_reducible refine wpAny_nsGet hD ?_; rw [hv]) | wp_step))
theorem fault_check {M : Model} {nameV : Value} {Q : Unit → Shared → Prop} (X : (Mine.hd.heap_39 w.params).In h) (he : h.get? e = some (excObj (some D) t tb)) (hq : Q () ⟨h, g, d, t0, os⟩) :
    wpAny M A (checkBuiltinCall "BaseException.__getattribute__" ⟨[.ref e, nameV], []⟩) Q E ⟨h, g, d, t0, os⟩ := by
  obtain ⟨nm, q, bs, hdct, sn, sub, ab, col, dd, k0, k1, k2, k3, k5, hC, rfl⟩ := (fault_cls X).cls
  have hk : builtinKind "BaseException.__getattribute__" = some .slot := by decide +kernel
  have hsplit : splitId "BaseException.__getattribute__" = some ("BaseException", "__getattribute__") := by decide +kernel
  have hcB : (Value.ref 59 :: faultMro).contains (.type "BaseException") = true := by decide +kernel
  have ha := PySem.F.args_bexc_ga (.ref e) nameV
  simp only [checkBuiltinCall, hk, hsplit]
  refine wpAny_bind ?_
  unfold isInstance
  repeat (first | with_reducible refine wpAny_loadPart_at he ?_ | (with_reducible refine wpAny_isSubtype_exc hC ?_; rw [hcB]) | wp_step)
  exact hq
theorem fault_gacall {tk : Tok} {R : Result → Shared → Prop} (X : (Mine.hd.heap_39 w.params).In h) (he : h.get? e = some (excObj (some D) t tb)) (hD : h.Ns D mD) (hv : mD name = some v) (hf : findIn (Mine.hd.heap_39 w.params) (.ref 59) name = some none)
    (hq : R (.ok (.ret v)) ⟨h, g, d, t0, os⟩) :
    codeAny (model PySem.Challenge.rw_nz0268_01.row.prog w) A (.call (.builtin "BaseException.__getattribute__") ⟨[.ref e, .str name tk], []⟩) R ⟨h, g, d, t0, os⟩ :=
  codeAny_call_builtin PySem.F.attrBase_Exception.ga.plain PySem.F.entry_bexc_ga (fault_check X he (fault_entry X he hD hv hf hq))
theorem fault_by {tk : Tok} {fill expr : Bool} {Q : Value → Shared → Prop} (X : (Mine.hd.heap_39 w.params).In h) (he : h.get? e = some (excObj (some D) t tb)) (hD : h.Ns D mD) (hv : mD name = some v) (hf : findIn (Mine.hd.heap_39 w.params) (.ref 59) name = some none)
    (hga : findIn (Mine.hd.heap_39 w.params) (.ref 59) "__getattribute__" = some (some (.builtin "BaseException.__getattribute__"))) (hg : findIn (Mine.hd.heap_39 w.params) (.ref 59) "__getattr__" = some none) (hh : handedOut v = pure v)
    (hq : Q v ⟨h, g, d, t0, os⟩) :
    wpAny (model PySem.Challenge.rw_nz0268_01.row.prog w) A (getAttrBy (.ref e) (.str name tk) fill expr) Q E ⟨h, g, d, t0, os⟩ := by
  have l1 := looks_findIn (M := model PySem.Challenge.rw_nz0268_01.row.prog w) X hga
  have l2 := looks_findIn (M := model PySem.Challenge.rw_nz0268_01.row.prog w) X hg
  have f3 := PySem.F.attrBase_Exception.ga.bind (.ref e)
  have hx0 : (expr && onTheHeap (Value.builtin "BaseException.__getattribute__")) = false := by cases expr <;> rfl
  have hx2 : (Value.builtin "BaseException.__getattribute__" == Value.builtin "object.__getattribute__") = false := by decide +kernel
  have hx1 : (onTheHeap (Value.ref 59) && Value.builtin "BaseException.__getattribute__" == Value.builtin "object.__getattribute__") = false := by rw [hx2]; rfl
  obtain ⟨nm, q, bs, hdct, sn, sub, ab, col, dd, k0, k1, k2, k3, k5, hC, rfl⟩ := (fault_cls X).cls
  repeat (any_goals (first | assumption | (with_reducible refine wpAny_loadPart_at he ?_) | (with_reducible refine wpAny_loadPart_at hC ?_) | (with_reducible refine Looks.here (s := ⟨h, g, d, t0, os⟩) l1 ?_) | (with_reducible refine Looks.here (s := ⟨h, g, d, t0, os⟩) l2 ?_) | wp_step))
  refine fault_gacall X he hD hv hf ?_
  show wpAny _ _ (handedOut v) _ _ _
  rw [hh]
  exact wpAny_pure hq
theorem fault_attr {expr : Bool} {Q : Value → Shared → Prop} {s : Shared} (X : (Mine.hd.heap_39 w.params).In s.heap) (he : s.heap.get? e = some (excObj (some D) t tb)) (hD : s.heap.Ns D mD) (hv : mD name = some v) (hf : findIn (Mine.hd.heap_39 w.params) (.ref 59) name = some none)
    (hga : findIn (Mine.hd.heap_39 w.params) (.ref 59) "__getattribute__" = some (some (.builtin "BaseException.__getattribute__"))) (hg : findIn (Mine.hd.heap_39 w.params) (.ref 59) "__getattr__" = some none) (hh : handedOut v = pure v)
    (hq : Q v { s with toks := s.toks + 1 }) :
    wpAny (model PySem.Challenge.rw_nz0268_01.row.prog w) A (getAttr (.ref e) name expr) Q E s := by
  obtain ⟨hp, g, d, t0, os⟩ := s
  unfold getAttr
  repeat (any_goals (first | assumption | with_reducible apply fault_by X he hD hv hf hga hg hh | wp_step))
end
end Mine

-- part L7
namespace Mine
theorem kf_ints_of {vs : List Value} {ns : List Int} (h : IntsAre vs ns) : kf_ints vs = true := by
  induction h with
  | nil => rfl
  | cons n t _ ih => simp [kf_ints, ih]
theorem kf_at_of {k : Int} {vs : List Value} {ns : List Int} (h : IntsAre vs ns) : ∀ j : Nat, (∀ i < j, ∀ z, ns[i]? = some z → z ≠ k) → ns[j]? = some k → kf_at k vs = some j := by
  induction h with
  | nil => intro j _ e; simp at e
  | cons n t _ ih =>
    intro j hj e
    cases j with
    | zero =>
      simp at e; subst e
      simp [kf_at, isInt]
    | succ j =>
      have h0 : n ≠ k := hj 0 (Nat.zero_lt_succ _) n rfl
      have := ih j (fun i hi z hz => hj (i + 1) (by omega) z (by simpa using hz)) (by simpa using e)
      have hb : (n == k) = false := by simpa using h0
      simp [kf_at, isInt, this, hb]
theorem first_max {ps : List (Int × Int)} {vs : List Value} {ys : List Value} {M : Int} {j : Nat} (hv : vs.length = ps.length) (hI : IntsAre ys (sizesOf ps)) (hM : ∀ a ∈ sizesOf ps, a ≤ M) (hj : ∀ x ∈ (vs.zip ps).take j, psize x ≤ M - 1) (hx : ∃ x, (vs.zip ps)[j]? = some x ∧ M - 1 < psize x) :
    kf_at M ys = some j := by
  have hsz : (vs.zip ps).map psize = sizesOf ps := by
    have : (vs.zip ps).map psize = ((vs.zip ps).map (·.2)).map fun p => ((pairTxt p).length : Int) := by rw [List.map_map]; rfl
    rw [this, zip_snd hv]; rfl
  refine kf_at_of hI j (fun i hi z hz => ?_) ?_
  · rw [← hsz, List.getElem?_map, Option.map_eq_some_iff] at hz
    obtain ⟨x, hx', rfl⟩ := hz
    have := hj x (List.mem_of_getElem? (i := i) (by rw [List.getElem?_take, if_pos hi]; exact hx'))
    omega
  · obtain ⟨x, hx', hlt⟩ := hx
    have e : (sizesOf ps)[j]? = some (psize x) := by rw [← hsz, List.getElem?_map, hx']; rfl
    have := hM _ (List.mem_of_getElem? e)
    rw [e]; congr 1; omega
end Mine

-- part W2
namespace Mine
set_option pp.deepTerms false
set_option pp.deepTerms.threshold 4
local macro_rules | `(tactic| walk_at "eval ListComp") => `(tactic| (k_here; (with_reducible show wpAny _ _ (eval (Expr.ListComp _ [Comprehension.mk (Expr.Name _ _) _ [] _] _ _) _) _ _ _); k_dflt (refine comp_eval (cl := []) (by rfl) (by decide) (by rfl) (by decide) (by rfl) ?_)))
local macro_rules | `(tactic| walk_at "eval ListComp") => `(tactic| (k_here; (with_reducible show wpAny _ _ (eval (Expr.ListComp _ [Comprehension.mk (Expr.Name _ _) _ [_] _] _ _) _) _ _ _); k_dflt (refine comp_none (by rfl) (by decide) (by rfl) (by decide) (by rfl) (by rfl) ?_)))
local macro_rules | `(tactic| walk_at "eval ListComp") => `(tactic| (k_here; (with_reducible show wpAny _ _ (eval (Expr.ListComp _ [_, _] _ _) _) _ _ _); k_dflt (refine comp_flat (cl := []) (by rfl) (by decide) (by rfl) (by decide) (by rfl) (by rfl) (by rfl) (by rfl) (by rfl) ?_)))
local macro_rules | `(tactic| walk_at "compareOp NotEq ref ref") => `(tactic| (k_here; refine halt ?_))
local macro_rules | `(tactic| walk_at "call builtin:len") => `(tactic| (k_here; (with_reducible show wpAny _ _ (call (Value.builtin "len") [Value.ref _]) _ _ _); refine halt ?_))
local macro_rules | `(tactic| walk_at "call builtin:len") => `(tactic| (k_here; (with_reducible show wpAny _ _ (call (Value.builtin "len") [Value.ref _]) _ _ _); k_dflt (refine' PySem.Calls.call_len_list ?l ?f ?_; (case l => exact News.isList (by k_asm) (by k_mem)); (case f => omega); k_whole)))
local macro_rules | `(tactic| walk_at "call ref") => `(tactic| (k_here; (with_reducible show wpAny _ _ (call (Value.ref 101) [_, _]) _ _ _); refine halt ?_))
local macro_rules | `(tactic| walk_at "call ref") => `(tactic| (k_here; (with_reducible show wpAny _ _ (call (Value.ref 101) [_, _]) _ _ _); (refine' call_by0 ?k1 ?k2 (law_fewest_spec ?k3 ?kh ?k4 ?k5 ?k6 ?k7) ?_; (case k1 => k_asm); (case k2 => k_asm); (case k3 => exact Lib.mk (Frag.In.keeps (by k_asm) (Fr.keep (by k_asm))) (Top.keeps (by k_asm) (Fr.keep (by k_asm)))); (case kh => k_dflt (exact rfl)); (case k4 => k_dflt (exact Nat.le_of_ble_eq_true rfl)); (case k6 => assumption); (case k5 => k_dflt (exact inL_one (by k_asm) (by k_mem))); (case k7 => k_dflt assumption); k_whole); intro h' tk' v' F' N' k' g'; obtain ⟨t', e'⟩ := g'; subst e'; try k_sweep))
local macro_rules | `(tactic| walk_at "call type:list") => `(tactic| (k_here; (with_reducible show wpAny _ _ (call (Value.type _) [Value.ref _]) _ _ _); k_dflt (refine' list_copyKT ?k1 ?k2 ?k3 ?_ ?z; (case k1 => k_asm); (case k2 => k_asm); (case k3 => exact News.isTup (by k_asm) (by k_mem)); (case z => rw [sizeLine_eq]; omega); k_whole); intro D' c' h' F' N' l1; (try k_lt l1); (try k_sweep)))
local macro_rules | `(tactic| walk_at "compareOp NotEq str str") => `(tactic| (k_here; refine halt ?_))
local macro_rules | `(tactic| walk_at "call ref") => `(tactic| (k_here; (with_reducible show wpAny _ _ (call (Value.ref 94) [_]) _ _ _); (refine' call_byN ?k1 ?k2 (law_pair_spec (φ := fun _ _ => False) ?k3 ?k4) ?_; (case k1 => k_asm); (case k2 => k_asm); (case k3 => exact Lib.mk (Frag.In.keeps (by k_asm) (Fr.keep (by k_asm))) (Top.keeps (by k_asm) (Fr.keep (by k_asm)))); (case k4 => first | assumption | (simp only [depth_deeper]; omega) | k_dflt (exact Nat.le_of_ble_eq_true rfl)); k_whole); intro h' tk' v' tl' F' N' k' o' g'; refine halt ?_))
local macro_rules | `(tactic| walk_at "call type:tuple") => `(tactic| (k_here; (with_reducible show wpAny _ _ (call (Value.type _) [Value.ref _]) _ _ _); k_dflt (refine' kde_tupleOf ?k1 ?k2 ?k3 ?k4 ?k5 ?_; (case k1 => k_asm); (case k2 => k_asm); (case k3 => exact News.isList (by k_asm) (by k_mem)); (case k4 => simp only [List.size_toArray]; omega); (case k5 => exact List.toList_toArray); k_whole); intro D' h' F' N' l1; (try k_lt l1); (try k_sweep)))

local macro_rules | `(tactic| walk_at "call ref") => `(tactic| (k_here; (with_reducible show wpAny _ _ (call (Value.ref 75) [_]) _ _ _); (refine' call_by0 ?k1 ?k2 (show_pair_spec ?k3 ?k4 ?k5 ?k6 ?k7 ?k8) ?_; (case k1 => k_asm); (case k2 => k_asm); (case k3 => exact Lib.mk (Frag.In.keeps (by k_asm) (Fr.keep (by k_asm))) (Top.keeps (by k_asm) (Fr.keep (by k_asm)))); (case k4 => k_dflt (exact Nat.le_of_ble_eq_true rfl)); (case k6 => assumption); (case k5 => assumption); (case k7 => assumption); (case k8 => assumption); k_whole); intro h' tk' v' F' N' k' g'; obtain ⟨t', e'⟩ := g'; subst e'; try k_sweep))
local macro_rules | `(tactic| walk_at "call ref") => `(tactic| (k_here; (with_reducible show wpAny _ _ (call (Value.ref 80) [_]) _ _ _); (refine' call_by0 ?k1 ?k2 (show_set_spec ?k3 ?kh ?k4 ?k5 ?k6 ?k7 ?k8) ?_; (case k1 => k_asm); (case k2 => k_asm); (case k3 => exact Lib.mk (Frag.In.keeps (by k_asm) (Fr.keep (by k_asm))) (Top.keeps (by k_asm) (Fr.keep (by k_asm)))); (case kh => k_dflt (exact rfl)); (case k4 => k_dflt (exact Nat.le_of_ble_eq_true rfl)); (case k6 => assumption); (case k5 => first | assumption | exact News.inL (by k_asm) (by intro p hp; (rcases List.mem_cons.mp hp with hp | hp <;> simp only [List.mem_cons, hp, true_or, or_true]))); (case k7 => assumption); (case k8 => assumption); k_whole); intro h' tk' v' F' N' k' g'; obtain ⟨t', e'⟩ := g'; subst e'; try k_sweep))
local macro_rules | `(tactic| walk_at "call type:range") => `(tactic| (k_here; (with_reducible show wpAny _ _ (call (Value.type _) [_, _, _]) _ _ _); k_dflt (refine range3_rows (by k_asm) (by k_asm) (by assumption) ?_); intro h' tk' t1' t2' t3' hr' F' N' k'; (try k_sweep)))
local macro_rules | `(tactic| walk_at "call ref") => `(tactic| (k_here; (with_reducible show wpAny _ _ (call (Value.ref 87) [_, _]) _ _ _); (refine' call_byN ?k1 ?k2 (split_ok ?k3 ?kh ?k4 ?k5 ?k6 ?k7 ?k8 ?k9 ?ka ?kb ?kc ?kd) ?_; (case k1 => k_asm); (case k2 => k_asm); (case k3 => exact Lib.mk (Frag.In.keeps (by k_asm) (Fr.keep (by k_asm))) (Top.keeps (by k_asm) (Fr.keep (by k_asm)))); (case kh => k_dflt (exact rfl)); (case k4 => k_dflt (exact Nat.le_of_ble_eq_true rfl)); (case k6 => assumption); (case k5 => first | assumption | exact News.inL (by k_asm) (by intro p hp; (rcases List.mem_cons.mp hp with hp | hp <;> simp only [List.mem_cons, hp, true_or, or_true]))); (case k7 => assumption); (case k8 => assumption); (case k9 => assumption); (case ka => exact Around.frames_deeper rfl); (case kb => k_asm); (case kc => k_dflt (exact rfl)); (case kd => k_dflt (exact rfl)); k_whole); intro h' tk' v' tl' F' N' k' n' g'; refine halt ?_))
local macro_rules | `(tactic| walk_at "binaryOp Add ref ref") => `(tactic| (k_here; refine halt ?_))
local macro_rules | `(tactic| walk_at "call type:list") => `(tactic| (k_here; (with_reducible show wpAny _ _ (call (Value.type _) [Value.ref _]) _ _ _); (have hfq : Stop ((2:Nat) = 2) := by assumption); refine halt ?_))
local macro_rules | `(tactic| walk_at "call ref") => `(tactic| (k_here; (with_reducible show wpAny _ _ (call (Value.ref 87) [_, _]) _ _ _); (have hfq : Stop ((3:Nat) = 3) := by assumption); refine halt ?_))
local macro_rules | `(tactic| walk_at "exec Try") => `(tactic| (k_here; (with_reducible show wpAny _ _ (exec (Stmt.Try _ (_ :: _) _ [] _) _) _ _ _); k_dflt (refine wpAny_Try_except ?_)))
local macro_rules | `(tactic| walk_at "call builtin:max") => `(tactic| (k_here; (have hfq : Stop ((4:Nat) = 4) := by assumption); refine halt ?_))
local macro_rules | `(tactic| walk_at "call builtin:list.index") => `(tactic| (k_here; refine halt ?_))
local macro_rules | `(tactic| walk_at "getAttr ref") => `(tactic| (k_here; refine halt ?_))
local macro_rules | `(tactic| walk_at "exec If") => `(tactic| (k_here; (have hfq : Stop ((0:Nat) = 0) := by assumption); refine halt ?_))
local macro_rules | `(tactic| walk_at "compareOp Eq ref ref") => `(tactic| (k_here; (with_reducible show wpAny _ _ (compareOp CmpOp.Eq (Value.ref _) (Value.ref _)) _ _ _); k_dflt (refine' eq_empty ?N ?T ?E ?ps ?sub ?u ?_; (case N => k_asm); (case ps => assumption); (case T => k_mem); (case E => k_mem); (case sub => intro p hp; simp only [List.mem_cons, hp, or_true]); (case u => ke_room); k_whole)))

local macro_rules | `(tactic| walk_at "exec Assign cons ListComp") => `(tactic| (k_here; (with_reducible show wpAny _ _ (exec (Stmt.Assign [Expr.Name _ _] (Expr.ListComp _ [_] _ _) _) _) _ _ _); k_dflt (refine comp_assign (cl := []) (by kernel_rfl) (by rfl) (by decide) (by rfl) (by decide) (by rfl) (by rfl) (by rfl) ?_)))
set_option maxHeartbeats 8000000 in
theorem wlk : PySem.Challenge.rw_nz0268_01.Holds := Mine.hd (by
  w_top off
  k_go0
  all_goals try k_fold
  k_steps
  rename_i D0 ws h0 F0 N0 hI0 hC0 hL0 l0
  rename (Mine.hd.heap_39 _).In _ => X
  rename Top _ _ _ _ _ _ => T
  obtain ⟨cs, hI1, hcl⟩ : ∃ cs, IntsAre ws cs ∧ cs.length ≤ 10 := ⟨_, hI0, by omega⟩
  have hwl := hI1.length
  refine .mk ⟨ws.toArray.size, fun i v => ws.toArray[i]? = some v, fun tl i y => ∃ c, cs[i]? = some c ∧ PairR (InL tl) y (lawPair c), ?_, IterOf.list (by exact rfl) (News.isList N0 (.head _)), ?_, ?_, ?_⟩
  · rw [List.size_toArray, sizeLine_eq]; omega
  · rintro tl tl' i y hh ⟨c, e, p⟩
    exact ⟨c, e, p.mono fun a o q => hh _ q⟩
  · intro i v C h tk m₂ E' hi hv hn hm hC hk
    obtain ⟨oC, heC, hoC⟩ := LCg.ns_obj hn
    have N := elt_news F0 heC hC
    have F := Fr.grow F0 hk
    clear N0 F0
    obtain ⟨c, t, rfl, hc⟩ := hI1.at i v (by simpa using hv)
    k_steps
    rename_i tl' F' N' k' n' g'
    refine .mk ⟨_, _, _, rfl, k', n', c, hc, g'.mono fun a o q => ?_⟩
    rcases q with q | q
    · exact q.elim
    · exact q
  · intro D h' tk ys tl hk hD hDl hlen hnew hoff hys
    obtain ⟨n, hDl⟩ := hDl
    have F := Fr.grow F0 hk
    obtain ⟨ps, hps, hpp, hpl⟩ : ∃ ps, PairsR (InL tl) ys ps ∧ (∀ p ∈ ps, SmallP p) ∧ ps.length = cs.length := ⟨cs.map lawPair, pairs_of (by rw [hlen, List.size_toArray, hwl, List.length_map]) (fun j y hy => by
      obtain ⟨c, e, p⟩ := hys j y hy
      exact ⟨_, by rw [List.getElem?_map, e]; rfl, p⟩), (fun p hp => by obtain ⟨c, _, rfl⟩ := List.mem_map.mp hp; exact lawPair_small c), List.length_map _⟩
    have hyl := hps.length
    have N := News.more' F0 N0 hk (tl := (D, PySem.W.listOf ys.toArray n) :: tl) (by
      intro p hp
      rcases List.mem_cons.mp hp with rfl | hp
      · exact ⟨hD, hDl⟩
      · exact hnew p hp)
    obtain ⟨N, hDc, htc⟩ := News.comp2 N0 N hD hnew
    clear N0 F0 hI0 hI1 hC0 hL0
    have hflag : Stop ((0:Nat) = 0) := .mk rfl
    k_steps
    rename_i Dt h00 l1 h1 F1 N1 hf2
    clear hflag hf2
    refine .mk (midSome (by exact N1) ?_ ?_)
    · k_steps
      · rename_i De _ le _ _ a1 _ l1' a2 _ l2' a3 _ l3' T' _ lT _ F N
        exact .mk (mid_three F rfl N lT.2.2.2.2.2.2.1 l1'.2.2.2.1 l2'.2.2.2.2.1 l3'.2.2.2.2.2.1)
      · rename Fr _ _ _ _ => F
        rename News _ _ _ _ => N
        refine .mk ⟨rfl, _, _, _, Dt, ys, ps, tl, rfl, F, rfl, (fun p hp => N p ?_), hps, hpp, ?_, by omega, Nat.ne_of_gt l1.2.1, htc⟩
        · rcases List.mem_cons.mp hp with rfl | hp
          · exact .tail _ (.head _)
          · exact .tail _ (.tail _ (.tail _ hp))
        · cases ps with
          | nil => contradiction
          | cons => simp only [List.length_cons]; omega
    · clear hnew hps hpp hys hoff htc F1 N1 l1 hlen hwl hcl hyl hpl hDc hk hD hDl l0
      rintro s' ⟨-, h1, tk, m, T0, vs, ps, tl, rfl, F, hm, N, hps, hpp, hpl1, hpl, hTc, htc⟩
      replace F := Fr.know1 F hm
      have hvl := hps.length
      k_steps
      have hTT : IsTup h1 T0 vs.toArray := ⟨_, (N _ (.head _)).1, rfl, _, rfl⟩
      refine .mk ⟨vs.toArray.size, fun i v => vs.toArray[i]? = some v, fun _ i y => ∃ z t, (sizesOf ps)[i]? = some z ∧ y = .int z t, _, ?_, IterOf.tuple (by exact rfl) hTT, fun _ _ _ _ _ h => h, ?_, F.ns, ?_⟩
      · rw [List.size_toArray, sizeLine_eq]; omega
      · intro i v C h tk m₂ E' hi hv hn hm hC hk
        obtain ⟨oC, heC, hoC⟩ := LCg.ns_obj hn
        have hle : (InL tl).le h := Rel.le.keeps (News.inL N (fun p hp => .tail _ (.tail _ hp))) hk
        replace N := elt_news F heC hC
        replace F := Fr.grow F hk
        obtain ⟨p, hip, hpr⟩ := hps.get i v (by simpa using hv)
        have hsp : SmallP p := hpp p (List.mem_of_getElem? hip)
        obtain ⟨hs1, hs2⟩ := hsp
        have hln := pairTxt_le ⟨hs1, hs2⟩
        k_steps
        exact .mk ⟨_, _, [], rfl, by assumption, .nil, _, _, by rw [sizesOf, List.getElem?_map, hip]; rfl, rfl⟩
      · intro D h' tk ys tl2 hk hns hD hDl hlen hnew hoff hys
        obtain ⟨n, N', hDn⟩ := News.assigned F N hk hD hDl
        have F' := Fr.assigned F hk hns
        have hI : IntsAre ys (sizesOf ps) := ints_of (by rw [hlen, List.size_toArray, sizesOf, List.length_map, hvl]) hys
        have hset : SetR (InL ((T0, tupOf vs) :: tl)) (.ref T0) vs ps := ⟨T0, 0, rfl, .head _, hps.mono fun a o q => .tail _ q⟩
        clear hk hns hD hDl hnew hoff hys F N hlen
        have hyl := hI.length
        rw [sizesOf, List.length_map] at hyl
        have hwl := setTxt_le hpp hpl
        have hst : (1 + ((setTxt ps).length : Int).fdiv 12) ≠ 0 := by
          have := Int.fdiv_nonneg (Int.natCast_nonneg (setTxt ps).length) (b := 12) (by decide)
          omega
        k_steps
        have hf2 : Stop ((2:Nat) = 2) := .mk rfl
        refine for_cell (by k_asm) (by exact rfl) (by rfl) (by rfl) (by rfl) ?_
        k_steps
        rename_i M tM _ hM1 hM2 hh0 tkk t1 t2 t3 hRg F1 N1 kk hfx
        clear hf2 hfx
        have hM3 := size_mem hpp hM1
        obtain ⟨hc1, hc2⟩ := fdiv12 hwl
        obtain ⟨hsm, nR, hnR, hnR2⟩ := range_small (a := M) (b := ((setTxt ps).length : Int)) (c := 1 + ((setTxt ps).length : Int).fdiv 12) (by omega) (by omega) (by omega) (by omega) hc1 hc2
        refine .mk (list_rangeN (by exact rfl) F1 N1 hRg hsm hnR (by omega) ?_)
        intro h9 tk9 wz Wd n9 F N hWd hwz
        have hwide := fun (t : Tok) => wide_all (t := t) hpp hpl hpl1 hM1 hM2 hc1 hc2 hnR2 hwz
        k_lt hWd
        clear F1 N1 hRg kk
        k_steps
        rename_i l9 h8 F1 N1 l1
        have hwzl := hwz.length
        rw [rangeInts_length] at hwzl
        refine .mk (add_lists (vs := wz) (ws := [.int _ _]) F1 N1 (News.isList N1 (.tail _ (.head _))) (News.isList N1 (.head _)) ?_ (by rw [sizeLine_eq]; simp only [List.length_singleton]; omega))
        intro h7 F N
        have l2 := fun p hp => Heap.lt_size (N1 p hp).1
        k_lt l2
        generalize hWf : h8.objs.size = Wf at *
        rename (_ : Obj).data = Data.cell _ => hoc
        have N := news_law N
        refine .mk ⟨Wf, _, 0, _, fun m => m (Str.ofString "some") = some (.ref T0) ∧ m (Str.ofString "sizes") = some (.ref D) ∧ m (Str.ofString "whole") = some (.str (setTxt ps) _), _, _, _, rfl, .head _, ?_, F, ⟨rfl, rfl, rfl⟩, N, hoc, ?_, ?_⟩
        · intro p hp
          rcases mem4 hp with rfl | rfl | rfl | hp
          · exact Nat.ne_of_gt l2.2.2.2.2.1
          · exact Ne.symm (hDn _ (.tail _ (.head _)))
          · exact hTc
          · exact htc p hp
        · intro i v I oI h tk m oc hi hIc hIn F hM N hd
          obtain ⟨W, tw, rfl, hW0, hW1, hW⟩ := hwide _ v (List.mem_of_getElem? (by simpa using hi))
          obtain ⟨m1, m2, m3⟩ := hM
          replace F := Fr.know3 F m1 m2 m3
          clear N1 F1 l1 l2 hWd hwide hwz hi
          k_steps
          rename_i h2 tk2 pv tl2' F2 N2 k2 n2 g2
          obtain ⟨P, nP, ts, pl, rfl, N3, hts, htsc⟩ := pieces_laid N2 (fun a o q => by
            rcases q with q | q
            · refine List.mem_append_right _ ?_
              rcases List.mem_cons.mp q with q | q
              · rw [q]; simp only [List.mem_cons, true_or, or_true]
              · simp only [List.mem_cons, InL] at q ⊢; simp only [q, or_true]
            · exact List.mem_append_left _ q) g2
          have N4 := news_turn N3
          have hok := pieces_ok hpp hpl hvl hW
          have hr1 : ∀ q ∈ ts, (q.1, tupOf (q.2.map (·.1))) ∈ pl ++ tl := fun q hq => List.mem_append_left _ (hts q hq)
          have hr2 : PairsR (InL (pl ++ tl)) vs ps := hps.mono fun a o q => List.mem_append_right _ q
          have hr3 : ∀ p ∈ tl, p ∈ pl ++ tl := fun p hp => List.mem_append_right _ hp
          have htl : ts.length ≤ 10 := by have := hok.few; rw [← htsc, List.length_map] at this; exact this
          generalize cutL psize W (vs.zip ps) = cs at *
          generalize pl ++ tl = rest at *
          clear N2 N3 n2 g2 hts F k2
          refine .mk ?_
          show wpAny _ _ _ _ _ _
          k_sweep
          k_steps
          rename_i h3 F3 N3
          have hPl : h3.IsList P (ts.map fun q => Value.ref q.1).toArray := News.isList N3 (.head _)
          refine .mk ⟨(ts.map fun q => Value.ref q.1).toArray.size, fun i v => (ts.map fun q => Value.ref q.1).toArray[i]? = some v, fun _ i y => ∃ q t, ts[i]? = some q ∧ y = .str (setTxt (q.2.map (·.2))) t, _, ?_, IterOf.list (by exact rfl) hPl, fun _ _ _ _ _ h => h, ?_, F3.ns, ?_⟩
          · rw [List.size_toArray, List.length_map, sizeLine_eq]; omega
          · intro i v C h4 tk4 m₂ E' hi hv hn hm hC hk
            obtain ⟨oC, heC, hoC⟩ := LCg.ns_obj hn
            have hle : (InL rest).le h4 := Rel.le.keeps (News.inL N3 (fun p hp => .tail _ (.tail _ (.tail _ (.tail _ (.tail _ (.tail _ hp))))))) hk
            replace N3 := elt_news F3 heC hC
            replace F3 := Fr.grow F3 hk
            rw [List.getElem?_toArray, List.getElem?_map, Option.map_eq_some_iff] at hv
            obtain ⟨q, hq, rfl⟩ := hv
            have hqt := List.mem_of_getElem? hq
            have hqm : q.2 ∈ cs := by rw [← htsc]; exact List.mem_map.mpr ⟨q, hqt, rfl⟩
            have hset2 : SetR (InL rest) (.ref q.1) (q.2.map (·.1)) (q.2.map (·.2)) := ⟨q.1, 0, rfl, hr1 q hqt, pairs_items fun x hx => items_pairs hr2 x (by rw [← hok.flat]; exact List.mem_flatten.mpr ⟨_, hqm, hx⟩)⟩
            obtain ⟨hsm, hsl⟩ := hok.small _ hqm
            k_steps
            exact .mk ⟨_, _, [], rfl, by assumption, .nil, q, _, hq, rfl⟩
          · intro D2 h4 tk4 ys2 tl3 hk hns hD2 hDl2 hlen2 hnew2 hoff2 hys2
            obtain ⟨n2, N', hDn2⟩ := News.assigned F3 N3 hk hD2 hDl2
            have F' := Fr.assigned F3 hk hns
            obtain ⟨l, rfl, hl'⟩ := texts_of (ts := ts.map fun q => setTxt (q.2.map (·.2))) (by rw [hlen2, List.length_map, List.size_toArray, List.length_map]) (fun j y hy => by
              obtain ⟨q, t, e1, e2⟩ := hys2 j y hy
              exact ⟨_, t, by rw [List.getElem?_map, e1]; rfl, e2⟩)
            have hDl' : h4.IsList D2 (strValues l).toArray := hDl2.isList
            have hjn : JoinOk (Str.ofString ",") (ts.map fun q => setTxt (q.2.map (·.2))) = true := joinOk_of (B := 240) (k := 10) (fun y hy => by
              obtain ⟨q, hq, rfl⟩ := List.mem_map.mp hy
              exact hok.short _ (by rw [← htsc]; exact List.mem_map.mpr ⟨q, hq, rfl⟩)) (by rw [List.length_map]; exact htl) (by decide)
            clear hk hns hD2 hDl2 hlen2 hnew2 hoff2 hys2 F3 N3
            k_steps
            refine .mk (ne_same ?_ ?_)
            · rw [← hok.join, ← StrLaws.glued_eq_join, ← htsc, List.map_map]; rfl
            k_steps
            have hTeach : ∀ x ∈ l, 0 < x.1.length ∧ (x.1.length : Int) ≤ W ∧ x.1.length ≤ 240 := fun x hx => by
              have e : x.1 ∈ l.map (·.1) := List.mem_map.mpr ⟨x, hx, rfl⟩
              rw [hl'] at e
              obtain ⟨q, hq, e⟩ := List.mem_map.mp e
              have hq2 : q.2 ∈ cs := by rw [← htsc]; exact List.mem_map.mpr ⟨q, hq, rfl⟩
              rw [← e]
              exact ⟨(hok.each _ hq2).1, (hok.each _ hq2).2, hok.short _ hq2⟩
            have hll : l.length ≤ 10 := by have e := congrArg List.length hl'; rw [List.length_map, List.length_map] at e; omega
            refine .mk ⟨D2, (strValues l).toArray, rfl, hDl', ?_, ?_, ?_⟩
            · rw [List.size_toArray, strValues, List.length_map, sizeLine_eq]; omega
            · intro i v C s₃ m₂ E' hi hn hm hC hk
              obtain ⟨h5, g5, d5, tk5, os5⟩ := s₃
              dsimp only at hk hn
              obtain ⟨oC, heC, hoC⟩ := LCg.ns_obj hn
              have N5 := News.grow N' hk
              have Nc := elt_news F' heC hC
              have N6 : News _ _ h5 ((C, oC) :: _) := fun p hp => by
                rcases List.mem_cons.mp hp with rfl | hp
                · exact Nc _ (.head _)
                · exact N5 p hp
              replace F' := Fr.grow F' hk
              clear N' N5 Nc hDl' hPl
              obtain ⟨x, hx, rfl⟩ : ∃ x ∈ l, v = .str x.1 x.2 := by
                rw [List.getElem?_toArray, strValues, List.getElem?_map, Option.map_eq_some_iff] at hi
                obtain ⟨x, hx, e⟩ := hi
                exact ⟨x, List.mem_of_getElem? hx, e.symm⟩
              obtain ⟨b1, b2, b3⟩ := hTeach x hx
              k_steps
              exact .mk ⟨by rw [decide_eq_true b2]; rfl, _, _, rfl, fun b o e => e⟩
            · intro D3 h5 tk5 n3 hk hD3 hD3l
              have N5 : News _ _ h5 ((D3, PySem.W.listOf #[] n3) :: _) := fun p hp => by
                rcases List.mem_cons.mp hp with rfl | hp
                · exact ⟨hD3l, Fr.newNe F' hD3, Fr.newBase F' hD3⟩
                · exact News.grow N' hk p hp
              replace F' := Fr.grow F' hk
              clear N' hDl' hPl
              k_steps
              rename_i l6 h6 F6 N6 l6'
              refine .mk (ne_pairs (vs := []) (tl := []) N6 (.tail _ (.head _)) (.head _) .nil (fun _ h => nomatch h) (by ke_room) ?_)
              have hps' : (ts.map fun q => Value.ref q.1).toArray.size ≤ 10 := by rw [List.size_toArray, List.length_map]; exact htl
              have hzs : IntsR (InL [(D, PySem.W.listOf ys.toArray n)]) (.ref D) (sizesOf ps) := ⟨D, _, n, rfl, .head _, by simpa using hI⟩
              have hzl : (sizesOf ps).length ≤ 10 := by rw [sizesOf, List.length_map]; exact hpl
              have hcnt : (((ts.map fun q => Value.ref q.1).toArray.size : Nat) : Int) = (fewL W (sizesOf ps).length (sizesOf ps)).headD 0 := by
                rw [← hok.count, ← htsc, List.size_toArray, List.length_map, List.length_map]
              have hvsz : vs.toArray.size ≤ 10 := by rw [List.size_toArray]; omega
              k_steps
              · exact absurd hcnt (by assumption)
              · rename_i h7 _ F7 N7 k7 _ _
                have hP7 : h7.IsList P ((ts.map fun q => (q.1, q.2.map (·.1))).map fun q => Value.ref q.1).toArray := by
                  rw [List.map_map]; exact News.isList N7 (by k_mem)
                refine .mk ⟨P, ts.map fun q => (q.1, q.2.map (·.1)), rfl, hP7, ?_, ?_, ?_⟩
                · rw [flat_vs htsc hok hvl, sizeLine_eq]; omega
                · intro q hq
                  obtain ⟨r, hr, rfl⟩ := List.mem_map.mp hq
                  exact ⟨_, (News.inL N7 (tl := rest) (fun p hp => by simp only [List.mem_cons, hp, or_true]) _ _ (hr1 r hr)), rfl, _, rfl⟩
                · rw [flat_vs htsc hok hvl]
                  intro D8 h8 tk8 n8 hk8 hD8 hD8l
                  have N8 : News _ _ h8 ((D8, PySem.W.listOf vs.toArray n8) :: _) := fun p hp => by
                    rcases List.mem_cons.mp hp with rfl | hp
                    · exact ⟨hD8l, Fr.newNe F7 hD8, Fr.newBase F7 hD8⟩
                    · exact News.grow N7 hk8 p hp
                  replace F7 := Fr.grow F7 hk8
                  clear N7 hP7 hk8
                  k_steps
                  rename_i D10 n10 h10 F10 N10 l10
                  refine .mk (ne_pairs (vs := vs) (tl := rest) N10 (by k_mem) (by k_mem) hr2 (fun p hp => by simp only [List.mem_cons, hp, or_true]) (by ke_room) ?_)
                  k_steps
                  exact .mk ⟨rfl, h10, tk, _, oc, _, rfl, F10, ⟨rfl, rfl, rfl⟩, news_end N10 hr3, hd⟩
        · intro h tk m oc v₀ F hM N hd
          obtain ⟨m1, m2, m3⟩ := hM
          replace F := Fr.know3 F m1 m2 m3
          clear N1 F1 l1 l2 hWd hwide hwz
          have hf3 : Stop ((3:Nat) = 3) := .mk rfl
          show wpAny _ _ _ _ _ _
          k_steps
          rename_i h11 M2 tM2 k11 F11 N11 hM4 hM5 hfx
          clear hf3 hfx
          refine .mk (wpAny_call (split_set_core (Lib.mk (X.keeps F11.keep) (T.keeps F11.keep)) (by exact rfl) (by exact Nat.le_of_ble_eq_true rfl) (News.inL N11 (by intro p hp; (rcases List.mem_cons.mp hp with hp | hp <;> simp only [List.mem_cons, hp, true_or, or_true]))) hset hpp hpl (Around.frames_deeper rfl) (law_frames F11 rfl rfl) ?_ ?_))
          · intro hall
            exfalso
            rw [sizesOf, ← zip_snd hvl, List.map_map] at hM4
            obtain ⟨x, hx, e⟩ := List.mem_map.mp hM4
            have := hall x hx
            have e' : psize x = M2 := e
            omega
          · intro j e Dd te tj h12 tk12 oD mD hj hx fly up hDn hDD hND hat
            show wpAny _ _ (noteFrame _ _) _ _ _
            refine caught_fault (Around.frames_deeper rfl) F11 ?_ up fly X (by k_asm) (by kernel_rfl) ?_ N11 hDn hDD hND ?_
            · exact fun b o q => hideAll_get _ (F11.keep b o q) (fun hm => Fr.base_ne F11 q (List.mem_singleton.mp hm))
            · exact fun q hq => hideAll_get _ (N11 q hq).1 (fun hm => (N11 q hq).2.1 (List.mem_singleton.mp hm))
            · intro h13 tk13 tb oD' F13 N13 hND'
              clear fly up F11 N11 hDn hDD hND
              have hf4 : Stop ((4:Nat) = 4) := .mk rfl
              k_steps
              all_goals try refine .mk ?_
              show wpAny _ _ (getAttr _ _ _) _ _ _
              refine fault_attr (X.keeps F13.keep) (N13 _ (.head _)).1 (hND'.ns1 (N13 (Dd, oD') (.tail _ (.head _))).1).ns hat (by kernel_rfl) (by kernel_rfl) (by kernel_rfl) rfl ?_
              k_steps
              refine .mk (max_listH (x := e) (by exact rfl) (N13 _ (.head _)).1 rfl rfl F13 N13 (News.isList N13 (by k_mem)) hI (by rw [sizesOf, List.length_map]; omega) ?_)
              intro h14 M3 tM3 tk14 F14 N14 hM6 hM7
              have hM8 : M3 = M2 := Int.le_antisymm (hM5 M3 hM6) (hM7 M2 hM4)
              have hkf := first_max hvl hI hM5 hj hx
              subst hM8
              clear F13 N13 hf4
              k_steps
              refine .mk (kf_index (j := j) N14 (by k_mem) (kf_ints_of (by simpa using hI)) (by simpa using hkf) rfl (by rw [sizeLine_eq]; have e1 : ys.toArray.toList = ys := List.toList_toArray; rw [e1]; omega) ?_)
              k_steps
              refine wpAny_nameGoes_keeps (by rfl) F14.ns (by rfl) ?_
              intro h15 v15 hn15 hs15
              have F15 := Fr.set F14 hn15 hs15
              have e15 : ((j : Int) == (j : Int)) = true := beq_self_eq_true _
              dsimp only [qk]
              rw [e15]
              refine goodW_bool F15 (by assumption) (raisesW_false ?_) ?_
              · wrow_none_raised
              · wrow_post)
end Mine

theorem PySem.Challenge.cw_nz0268_01_holds : PySem.Challenge.rw_nz0268_01.Holds :=
  Mine.wlk
