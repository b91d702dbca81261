import PyProof.Rows.All
import Wide.All
import OpenK.AllK
import Wide.FinOn
import Lean
import PySem.Challenge.RW_nt0088_01
open PySem PySem.W PySem.Calls PyProof.Rows
set_option Elab.async false
set_option maxRecDepth 100000

namespace Mine
set_option maxHeartbeats 8000000 in
open_top hd for PySem.Challenge.rw_nt0088_01


section

/-- the program's own objects stand in a heap, and the names at the top -/
def Gd (w : World) (h : Heap) : Prop := (hd.heap_39 w.params).In h ∧ ∃ loose mg mb, TopRead hd.view_39 loose mg mb h
theorem Gd.keeps {w : World} {h h' : Heap} (G : Gd w h) (k : ∀ b o, h.get? b = some o → h'.get? b = some o) : Gd w h' :=
  ⟨G.1.keeps k, let ⟨a, b, c, T⟩ := G.2; ⟨a, b, c, T.keeps k⟩⟩

/-- room around a call -/
def Ok (A : Around) (n : Nat) : Prop := A.handled = none ∧ A.depth + n < recursionLimit ∧ A.units + 4 * n < cLine
theorem Ok.deeper {A : Around} {n : Nat} {e : Env} (h : Ok A (n + 1)) : Ok (A.deeper e) n := ⟨h.1, by have := h.2.1; simp only [depth_deeper]; omega, by have := h.2.2; simp only [Around.deeper_units]; omega⟩
theorem Ok.le {A : Around} {n m : Nat} (h : Ok A n) (q : m ≤ n) : Ok A m := ⟨h.1, by have := h.2.1; omega, by have := h.2.2; omega⟩

section
variable {prog : Program} {w : World} {A : Around} {E : Value → Shared → Prop} {s : Shared} {K : Frag} {Q : Value → Shared → Prop}
  {name qual : Str} {params : Arguments} {body : List Stmt} {scope : Scope} {dV kV doc pm cdv ct oc : Value} {an od : Option Addr} {osl : Array (Option Value)} {f : Addr} {args : List Value} {binds : List (Str × Value)} {g : Heap}

/-- a call of a plain def of the program -/
theorem enter (X : K.In g) (hlim : g.NoLimit) (hg : ∀ b o, g.get? b = some o → s.heap.get? b = some o) (hgs : g.objs.size ≤ s.heap.objs.size)
    (ho : K.lookup f = some ⟨oc, od, .func (fnOf name qual params body scope dV kV doc pm an cdv ct), osl⟩) (hcd : codeIn K cdv qual = true) (hroom : A.depth < recursionLimit)
    (hbind : BindsTo s (fnOf name qual params body scope dV kV doc pm an cdv ct) ⟨args, []⟩ binds) (hloc : ∀ y ∈ binds, scope.names.lookup y.1 = some .local)
    (h : ∀ L h₁ tk, Fr g L h₁ (fun y => binds.reverse.lookup y) → L = s.heap.objs.size → (∀ b o, s.heap.get? b = some o → h₁.get? b = some o) →
      wpAny (model prog w) (A.deeper (envOf qual scope L f cdv)) (execs body (envOf qual scope L f cdv))
        (fun fl s' => Q (match fl with | .ret v => v | _ => .none) s') (fun _ _ => False)
        { s with heap := h₁, toks := tk })
    (hco : scope.isCoroutine = false) (hgen : scope.isGenerator = false) (hk : scope.kind = .function)
    (hcell : ∀ x ∈ scope.names, x.2 ≠ .cell) : wpAny (model prog w) A (call (.ref f) args []) Q E s := by
  refine wpAny_call ?_
  refine codeAny_call_def (fd := fnOf name qual params body scope dV kV doc pm an cdv ct) (body := body) (binds := binds) hroom (hg _ _ (X _ _ ho)) rfl (hlim.keeps hg) (codeRec_of (X.keeps hg) hcd) rfl hbind hcell hloc (fun h₁ hns hk₁ => ?_) hco hgen hk
  exact wpAny_mono (h _ h₁ _ ⟨hns, fun b o e => hk₁ b o (hg b o e), hgs⟩ rfl hk₁) (fun _ _ x => x) (fun _ _ x => x.elim)
end
end

section

local macro_rules | `(tactic| walk_at "subscriptTail Name Constant ref int") => `(tactic| (k_here; (with_reducible show wpAny _ _ (subscriptTail _ _ (Value.ref _) (Value.int _ _)) _ _ _); (with_unfolding_all refine' item_litK ?k1 ?k2 ?k3 ?k4 ?_ ?k6; (case k1 => is_list); (case k2 => decide); (case k3 => decide); (case k4 => rfl); (case k6 => with_unfolding_all rfl); k_whole)))

theorem hide_gd {w : World} {g h : Heap} {a : Addr} (G : Gd w g) (hg : ∀ b o, g.get? b = some o → h.get? b = some o) (ha : g.get? a = none) : Gd w (h.hide a) :=
  G.keeps fun b o e => (Heap.hide_ne h (by rintro rfl; rw [ha] at e; cases e)).trans (hg b o e)

/-- the source of draws: two ints in a list -/
def Src (h : Heap) (src : Addr) : Prop := ∃ a b ta tb n, h.get? src = some (listOf #[.int a ta, .int b tb] n) ∧ 0 ≤ a ∧ 0 ≤ b ∧ b < 2147483648

set_option maxHeartbeats 4000000 in
theorem take_spec {prog : Program} {w : World} {A : Around} {E : Value → Shared → Prop} {s : Shared} {Q : Value → Shared → Prop} {g : Heap} {src : Addr} {top : Int} {tt : Tok}
    (G : Gd w g) (hg : ∀ b o, g.get? b = some o → s.heap.get? b = some o) (hsrc : g.get? src = none) (ok : Ok A 4)
    (hs : Src s.heap src) (h1 : 1 ≤ top) (h2 : top ≤ 100)
    (h : ∀ r t h' tk', 0 ≤ r → r < top → Src h' src → (∀ x o, x ≠ src → s.heap.get? x = some o → h'.get? x = some o) → Q (.int r t) { s with heap := h', toks := tk' }) :
    wpAny (model prog w) A (call (.ref 59) [.ref src, .int top tt] []) Q E s := by
  obtain ⟨a, b, ta, tb, n, hs, a0, b0, b1⟩ := hs
  have G' := hide_gd G hg hsrc
  obtain ⟨X, lo, mg, mb, T⟩ := G'
  suffices H : (PySem.Challenge.rw_nt0088_01 = PySem.Challenge.rw_nt0088_01 → hd.heap_39 = hd.heap_39 → wpAny (model prog w) A (call (.ref 59) [.ref src, .int top tt] []) Q E s) from H rfl rfl
  k_fill
  intro _ _
  refine enter X T.nolimit (fun b o e => Heap.of_hide e) (by rw [Heap.hide_size]; exact Nat.le_refl _) (by k_is) (by k_is) (by have := ok.2.1; omega) (BindsTo.of_eq rfl) (locs rfl) ?_ rfl rfl rfl (by decide)
  intro L h₁ tk F hL hk
  have N : News (s.heap.hide src) L h₁ [(src, listOf #[.int a ta, .int b tb] n)] := fun p hp => by
    rw [List.mem_singleton.mp hp]
    exact ⟨hk _ _ hs, fun e => by have := Heap.lt_size hs; exact Nat.ne_of_lt this (e.trans hL), Heap.hide_self _ _⟩
  k_steps
  all_goals (
    dsimp only
    rename Fr _ _ _ _ => F'
    rename News _ _ _ _ => N')
  · refine h _ _ _ _ ?_ ?_ ⟨_, _, _, _, _, (N' _ (.head _)).1, ?_, b0, b1⟩ (fun x o q e => F'.keep x o ((Heap.hide_ne _ q).trans e))
    · exact Int.fmod_nonneg_of_pos _ (by omega)
    · exact Int.fmod_lt_of_pos _ (by omega)
    · exact Int.fdiv_nonneg a0 (by omega)
  · refine h _ _ _ _ ?_ ?_ ⟨_, _, _, _, _, (N' _ (.head _)).1, a0, ?_, ?_⟩ (fun x o q e => F'.keep x o ((Heap.hide_ne _ q).trans e))
    · exact Int.fmod_nonneg_of_pos _ (by omega)
    · exact Int.fmod_lt_of_pos _ (by omega)
    · exact Int.fmod_nonneg_of_pos _ (by omega)
    · exact Int.lt_trans (Int.fmod_lt_of_pos _ (by omega)) (by decide)
end

section

abbrev Led := List (Addr × Obj)
def Off (d : Addr) (l : Led) : Prop := ∀ p ∈ l, p.1 ≠ d
theorem Off.nil {d : Addr} : Off d [] := fun _ h => nomatch h
theorem Off.cons {d a : Addr} {o : Obj} {l : Led} (h : a ≠ d) (k : Off d l) : Off d ((a, o) :: l) := fun p hp => by
  rcases List.mem_cons.mp hp with rfl | hp
  · exact h
  · exact k p hp
theorem Off.append {d : Addr} {l l' : Led} (h : Off d l) (k : Off d l') : Off d (l ++ l') := fun p hp => (List.mem_append.mp hp).elim (h p) (k p)
theorem sub_nil {l : Led} : ∀ p ∈ ([] : Led), p ∈ l := fun _ h => nomatch h
theorem sub_refl {l : Led} : ∀ p ∈ l, p ∈ l := fun _ h => h
theorem sub_cons {a : Addr × Obj} {r l : Led} (h : a ∈ l) (t : ∀ p ∈ r, p ∈ l) : ∀ p ∈ a :: r, p ∈ l := fun p hp => by
  rcases List.mem_cons.mp hp with rfl | hp
  · exact h
  · exact t p hp
theorem sub_app {r r' l : Led} (h : ∀ p ∈ r, p ∈ l) (t : ∀ p ∈ r', p ∈ l) : ∀ p ∈ r ++ r', p ∈ l := fun p hp => (List.mem_append.mp hp).elim (h p) (t p)
theorem sub_tail {a : Addr × Obj} {r l : Led} (t : ∀ p ∈ r, p ∈ l) : ∀ p ∈ r, p ∈ a :: l := fun p hp => .tail _ (t p hp)
theorem sub_left {r l l' : Led} (t : ∀ p ∈ r, p ∈ l) : ∀ p ∈ r, p ∈ l ++ l' := fun p hp => List.mem_append.mpr (.inl (t p hp))
theorem sub_right {r l l' : Led} (t : ∀ p ∈ r, p ∈ l') : ∀ p ∈ r, p ∈ l ++ l' := fun p hp => List.mem_append.mpr (.inr (t p hp))
theorem mem_hd {a : Addr × Obj} {l : Led} : a ∈ a :: l := .head _
theorem mem_tl {a b : Addr × Obj} {l : Led} (h : a ∈ l) : a ∈ b :: l := .tail _ h
theorem mem_lf {a : Addr × Obj} {l l' : Led} (h : a ∈ l) : a ∈ l ++ l' := List.mem_append.mpr (.inl h)
theorem mem_rt {a : Addr × Obj} {l l' : Led} (h : a ∈ l') : a ∈ l ++ l' := List.mem_append.mpr (.inr h)
theorem memsub {p : Addr × Obj} {l l' : Led} (h : p ∈ l) (s : ∀ p ∈ l, p ∈ l') : p ∈ l' := s p h
theorem nsub {g h : Heap} {L : Addr} {l l' : Led} (N : News g L h l') (s : ∀ p ∈ l, p ∈ l') : News g L h l := fun p hp => N p (s p hp)

abbrev Kp (h h' : Heap) : Prop := ∀ b o, h.get? b = some o → h'.get? b = some o
theorem Kp.refl (h : Heap) : Kp h h := fun _ _ e => e
theorem Kp.trans {a b c : Heap} (x : Kp a b) (y : Kp b c) : Kp a c := fun d o e => y d o (x d o e)

theorem fr_ext {g h h' : Heap} {L a : Addr} {m : Str → Option Value} (F : Fr g L h m) (he : Heap.ExtBut a h h') (ha : a ≠ L) (hg : g.get? a = none) : Fr g L h' m :=
  ⟨F.ns.extBut he (Ne.symm ha), fun b o e => he b o (by rintro rfl; rw [hg] at e; cases e) (F.keep b o e), F.above⟩
theorem news_ext {g h h' : Heap} {L a : Addr} {l : Led} (N : News g L h l) (he : Heap.ExtBut a h h') (ha : Off a l) : News g L h' l :=
  fun p hp => ⟨he _ _ (ha p hp) (N p hp).1, (N p hp).2⟩
theorem news_more {g h : Heap} {L a : Addr} {o : Obj} {l : Led} (N : News g L h l) (e : h.get? a = some o) (ha : a ≠ L) (hg : g.get? a = none) : News g L h ((a, o) :: l) := fun p hp => by
  rcases List.mem_cons.mp hp with rfl | hp
  · exact ⟨e, ha, hg⟩
  · exact N p hp
theorem news_tl {g h : Heap} {L a : Addr} {o : Obj} {l : Led} (N : News g L h ((a, o) :: l)) : News g L h l := fun p hp => N p (.tail _ hp)
theorem news_app {g h : Heap} {L : Addr} {l l' : Led} (N : News g L h l) (N' : News g L h l') : News g L h (l ++ l') := fun p hp => (List.mem_append.mp hp).elim (N p) (N' p)

/-- an iterator at I; io i: what its object is before the i-th item; hold: what must stand for it -/
structure ItS (prog : Program) (w : World) (A : Around) (hold : Heap → Prop) (I : Addr) (io : Nat → Obj → Prop) (n : Nat) (P : Nat → Value → Prop) : Prop where
  item : ∀ (i : Nat) (s : Shared) (o : Obj) (Q : Option Value → Shared → Prop) (E : Value → Shared → Prop), i < n → hold s.heap → s.heap.get? I = some o → io i o →
    (∀ v h' tk o', P i v → h'.get? I = some o' → io (i + 1) o' → Heap.SameBut I s.heap h' → Q (some v) { s with heap := h', toks := tk }) → wpAny (model prog w) A (pyNext (.ref I)) Q E s
  done : ∀ (s : Shared) (o : Obj) (Q : Option Value → Shared → Prop) (E : Value → Shared → Prop), hold s.heap → s.heap.get? I = some o → io n o →
    (∀ h' tk, Heap.ExtBut I s.heap h' → Q none { s with heap := h', toks := tk }) → wpAny (model prog w) A (pyNext (.ref I)) Q E s
  self : ∀ (i : Nat) (s : Shared) (o : Obj) (Q : Value → Shared → Prop) (E : Value → Shared → Prop), s.heap.get? I = some o → io i o → Q (.ref I) s → wpAny (model prog w) A (pyIter (.ref I)) Q E s

abbrev It (prog : Program) (w : World) (A : Around) (g : Heap) (I : Addr) (io : Nat → Obj → Prop) (n : Nat) (P : Nat → Value → Prop) : Prop := ItS prog w A (Kp g) I io n P
theorem It.keeps {prog : Program} {w : World} {A : Around} {g g' : Heap} {I : Addr} {io : Nat → Obj → Prop} {n : Nat} {P : Nat → Value → Prop} (it : It prog w A g I io n P) (k : Kp g g') : It prog w A g' I io n P :=
  ⟨fun i s o Q E h1 h2 => it.item i s o Q E h1 (k.trans h2), fun s o Q E h2 => it.done s o Q E (k.trans h2), it.self⟩
theorem ItS.weaken {prog : Program} {w : World} {A : Around} {hold hold' : Heap → Prop} {I : Addr} {io : Nat → Obj → Prop} {n : Nat} {P : Nat → Value → Prop} (it : ItS prog w A hold I io n P) (k : ∀ h, hold' h → hold h) : ItS prog w A hold' I io n P :=
  ⟨fun i s o Q E h1 h2 => it.item i s o Q E h1 (k _ h2), fun s o Q E h2 => it.done s o Q E (k _ h2), it.self⟩

def ioL (l : Addr) (i : Nat) (o : Obj) : Prop := o.cls = .type "list_iterator" ∧ o.data = .fields #[.ref l, .int i 0]
def ioR (a n : Int) (i : Nat) (o : Obj) : Prop := o = { cls := .type "range_iterator", data := .fields #[rawInt (a + (i : Int) * 1), rawInt (n - (i : Int)), rawInt 1] }

section
variable {prog : Program} {w : World} {A : Around} {s : Shared} {g : Heap}
theorem ItS.list {l I : Addr} {items : Array Value} (hh : A.handled = none) : ItS prog w A (fun h => h.IsList l items) I (ioL l) items.size (fun i v => items[i]? = some v) where
  item := fun i s o Q E hi hls ho hio hQ => by
    refine wpAny_pyNext_list_item ⟨o, ho, hio⟩ hls (x := items[i]) (by simp [hi]) fun h' hit' hs' => ?_
    obtain ⟨o', ho', hio'⟩ := hit'
    exact hQ _ h' s.toks o' (by simp [hi]) ho' hio' hs'
  done := fun s o Q E hls ho hio hQ => wpAny_pyNext_list_end hh ⟨o, ho, hio⟩ hls (by simp) fun h' he' => hQ h' s.toks he'
  self := fun i s o Q E ho hio hQ => wpAny_pyIter_listiter (l := l) (i := i) ⟨o, ho, hio⟩ hQ

theorem It.list {l I : Addr} {items : Array Value} (hh : A.handled = none) (hl : g.IsList l items) : It prog w A g I (ioL l) items.size (fun i v => items[i]? = some v) where
  item := fun i s o Q E hi hk ho hio hQ => by
    have hls : s.heap.IsList l items := let ⟨x, hx, r⟩ := hl; ⟨x, hk _ _ hx, r⟩
    refine wpAny_pyNext_list_item ⟨o, ho, hio⟩ hls (x := items[i]) (by simp [hi]) fun h' hit' hs' => ?_
    obtain ⟨o', ho', hio'⟩ := hit'
    exact hQ _ h' s.toks o' (by simp [hi]) ho' hio' hs'
  done := fun s o Q E hk ho hio hQ => by
    have hls : s.heap.IsList l items := let ⟨x, hx, r⟩ := hl; ⟨x, hk _ _ hx, r⟩
    exact wpAny_pyNext_list_end hh ⟨o, ho, hio⟩ hls (by simp) fun h' he' => hQ h' s.toks he'
  self := fun i s o Q E ho hio hQ => wpAny_pyIter_listiter (l := l) (i := i) ⟨o, ho, hio⟩ hQ

theorem It.range {I : Addr} {a : Int} {n : Nat} (hh : A.handled = none) : It prog w A g I (ioR a n) n (fun i v => ∃ t, v = .int (a + i) t) where
  item := fun i s o Q E hi hk ho hio hQ => by
    have hit : IsRangeIter s.heap I (a + (i : Int) * 1) ((n : Int) - (i : Int)) 1 := by rw [hio] at ho; exact ho
    refine wpAny_pyNext_range_item hit (by omega) fun h' hit' hs' => ?_
    refine hQ _ h' _ _ ⟨_, by rw [Int.mul_one]⟩ hit' ?_ hs'
    have e1 : a + ((i + 1 : Nat) : Int) * 1 = a + (i : Int) * 1 + 1 := by push_cast; omega
    have e2 : (n : Int) - ((i + 1 : Nat) : Int) = (n : Int) - (i : Int) - 1 := by push_cast; omega
    unfold ioR
    rw [e1, e2]
  done := fun s o Q E hk ho hio hQ => by
    have hit : IsRangeIter s.heap I (a + (n : Int) * 1) ((n : Int) - (n : Int)) 1 := by rw [hio] at ho; exact ho
    exact wpAny_pyNext_range_end hh hit (by omega) fun h' he' => hQ h' s.toks he'
  self := fun i s o Q E ho hio hQ => by
    have hit : IsRangeIter s.heap I (a + (i : Int) * 1) ((n : Int) - (i : Int)) 1 := by rw [hio] at ho; exact ho
    exact wpAny_pyIter_rangeiter hit hQ

theorem It.range0 {I : Addr} {n : Nat} (hh : A.handled = none) : It prog w A g I (ioR 0 n) n (fun i v => ∃ t, v = .int i t) where
  item := fun i s o Q E hi hk ho hio hQ => (It.range (g := g) (a := 0) hh).item i s o Q E hi hk ho hio fun v h' tk o' hv => hQ v h' tk o' (by obtain ⟨t, rfl⟩ := hv; exact ⟨t, by rw [Int.zero_add]⟩)
  done := (It.range (g := g) (a := 0) hh).done
  self := (It.range (g := g) (a := 0) hh).self

/-- iter(list) -/
theorem iter_list {l : Addr} {items : Array Value} {L : Addr} {m : Str → Option Value} {news : Led} {Q : Value → Shared → Prop} {E : Value → Shared → Prop} (F : Fr g L s.heap m) (N : News g L s.heap news) (hl : s.heap.IsList l items)
    (h : ∀ I h' o, Fr g L h' m → News g L h' ((I, o) :: news) → ioL l 0 o → (∀ p ∈ news, p.1 < I) → Kp s.heap h' → s.heap.get? I = none → Q (.ref I) { s with heap := h' }) :
    wpAny (model prog w) A (pyIter (.ref l)) Q E s := by
  refine wpAny_pyIter_list hl ?_
  refine h _ _ _ (F.push _) (N.push F _) ⟨rfl, rfl⟩ (fun p hp => Heap.lt_size (N p hp).1) (fun b o e => Heap.get?_push_of_some _ e) ?_
  cases e : s.heap.get? s.heap.objs.size with
  | none => rfl
  | some o => exact absurd (Heap.lt_size e) (Nat.lt_irrefl _)

/-- iter(range(k)) -/
theorem iter_range {r : Addr} {k : Int} {t₀ u₀ v₀ : Tok} {L : Addr} {m : Str → Option Value} {news : Led} {Q : Value → Shared → Prop} {E : Value → Shared → Prop} (F : Fr g L s.heap m) (N : News g L s.heap news) (hr : IsRange s.heap r 0 k 1 t₀ u₀ v₀) (hk : k < 2 ^ 62) (hk0 : 0 ≤ k)
    (h : ∀ I h' o, Fr g L h' m → News g L h' ((I, o) :: news) → ioR 0 k 0 o → (∀ p ∈ news, p.1 < I) → Kp s.heap h' → s.heap.get? I = none → Q (.ref I) { s with heap := h' }) :
    wpAny (model prog w) A (pyIter (.ref r)) Q E s := by
  have hsz : Builtin.Range.rangeSize 0 k 1 = k := by
    unfold Builtin.Range.rangeSize
    split
    · split <;> omega
    · omega
  refine wpAny_pyIter_range hr ?_ ?_
  · unfold Builtin.Range.small
    have f : ∀ j : Int, 0 ≤ j → j < 2 ^ 62 → Builtin.Range.rangeFitsLong j = true := fun j a b => by
      unfold Builtin.Range.rangeFitsLong
      simp only [Bool.and_eq_true, decide_eq_true_eq]
      omega
    simp only [hsz, Bool.and_eq_true, Bool.or_eq_true]
    refine ⟨⟨⟨⟨f _ (by omega) (by omega), f _ (by omega) (by omega)⟩, f _ (by omega) (by omega)⟩, f _ (by omega) (by omega)⟩, .inr ?_⟩
    rw [if_pos (by decide)]
    exact f _ (by omega) (by omega)
  rw [hsz]
  refine h _ _ _ (F.push _) (N.push F _) ?_ (fun p hp => Heap.lt_size (N p hp).1) (fun b o e => Heap.get?_push_of_some _ e) ?_
  · unfold ioR; simp
  cases e : s.heap.get? s.heap.objs.size with
  | none => rfl
  | some o => exact absurd (Heap.lt_size e) (Nat.lt_irrefl _)
end

section
variable {prog : Program} {w : World} {A : Around} {s : Shared} {g : Heap} {env : Env} {I : Addr} {io : Nat → Obj → Prop} {n : Nat} {P : Nat → Value → Prop} {R : Result → Shared → Prop}

/-- what a turn of a loop leaves -/
def TurnEnd (g : Heap) (L I : Addr) (o : Obj) (J : (Str → Option Value) → Led → Prop) (s₁ s' : Shared) : Prop :=
  ∃ h' tk' m' news', s' = { s₁ with heap := h', toks := tk' } ∧ Fr g L h' m' ∧ News g L h' ((I, o) :: news') ∧ Off I news' ∧ J m' news'
theorem tend {g h' : Heap} {L I : Addr} {o : Obj} {J : (Str → Option Value) → Led → Prop} {s₁ : Shared} {tk' : Nat} {m' : Str → Option Value} (news' : Led) (F : Fr g L h' m') (N : News g L h' ((I, o) :: news')) (off : Off I news') (j : J m' news') :
    TurnEnd g L I o J s₁ { s₁ with heap := h', toks := tk' } := ⟨h', tk', m', news', rfl, F, N, off, j⟩
def ForPost (g : Heap) (L I : Addr) (o : Obj) (J : (Str → Option Value) → Led → Prop) (R : Result → Shared → Prop) (s₁ : Shared) (f : Flow) (s' : Shared) : Prop :=
  match f with
  | .ret v => R (.ok (.ret v)) s'
  | .brk => R (.ok .next) s'
  | _ => TurnEnd g L I o J s₁ s'

theorem for_go {x : Str} {px : Pos} {body orelse : List Stmt} {m₀ : Str → Option Value} {news₀ : Led} {o₀ : Obj} {L : Addr} (J : Nat → (Str → Option Value) → Led → Prop)
    (hL : env.locals = L) (it : It prog w A g I io n P) (hx : env.kindOf x = some .local) (hp : (env.scope.kind == .class || (env.scope.kind == .module && env.locals != env.globals)) = false)
    (F : Fr g L s.heap m₀) (N : News g L s.heap ((I, o₀) :: news₀)) (off : Off I news₀) (h0 : io 0 o₀) (j0 : J 0 m₀ news₀)
    (turn : ∀ i v m news h tk o, i < n → P i v → J i m news → Off I news → Fr g L h (fun y => if y = x then some v else m y) → News g L h ((I, o) :: news) → io (i + 1) o →
      wpAny (model prog w) A (execs body env) (ForPost g L I o (J (i + 1)) R { s with heap := h, toks := tk }) (fun _ _ => False) { s with heap := h, toks := tk })
    (done : ∀ m news h tk, J n m news → Fr g L h m → News g L h news → wpAny (model prog w) A (execs orelse env) (fun f s' => R (.ok f) s') (fun _ _ => False) { s with heap := h, toks := tk }) :
    codeAny (model prog w) A (.forLoop (.Name x px) (.ref I) body orelse env) R s := by
  subst hL
  refine codeAny_forLoop (fun k s' => ∃ i h tk m news o, s' = { s with heap := h, toks := tk } ∧ i ≤ n ∧ k = n - i ∧ J i m news ∧ Off I news ∧ Fr g env.locals h m ∧ News g env.locals h ((I, o) :: news) ∧ io i o) ?_ n
    ⟨0, s.heap, s.toks, m₀, news₀, o₀, rfl, Nat.zero_le _, rfl, j0, off, F, N, h0⟩
  rintro k s' ⟨i, h, tk, m, news, o, rfl, hi, rfl, hj, hoff, F', N', hio⟩
  have hI := N' _ (.head _)
  by_cases hlt : i < n
  · refine it.item i _ o _ _ hlt F'.keep hI.1 hio fun v h₁ tk₁ o₁ hP ho₁ hio₁ hs₁ => ?_
    have F₁ := fr_ext F' hs₁.extBut hI.2.1 hI.2.2
    have N₁ := news_more (news_ext (news_tl N') hs₁.extBut hoff) ho₁ hI.2.1 hI.2.2
    refine wpAny_assign_Name (wpAny_storeName_local hx F₁.ns (fun h₂ hn₂ hs₂ => ?_) hp)
    have F₂ := F₁.set hn₂ hs₂
    have N₂ := N₁.set hs₂
    refine wpAny_mono (turn i v m news h₂ _ o₁ hlt hP hj hoff F₂ N₂ hio₁) (fun f s₃ p => ?_) fun _ _ e => e.elim
    have fin : TurnEnd g env.locals I o₁ (J (i + 1)) { s with heap := h₂, toks := tk₁ + 1 } s₃ → ∃ k', k' < n - i ∧ ∃ i h tk m news o, s₃ = { s with heap := h, toks := tk } ∧ i ≤ n ∧ k' = n - i ∧ J i m news ∧ Off I news ∧ Fr g env.locals h m ∧ News g env.locals h ((I, o) :: news) ∧ io i o := by
      rintro ⟨h', tk', m', news', rfl, F₃, N₃, off₃, hj₃⟩
      exact ⟨n - (i + 1), by omega, i + 1, h', tk', m', news', o₁, rfl, hlt, rfl, hj₃, off₃, F₃, N₃, hio₁⟩
    cases f with
    | next => exact fin p
    | cont => exact fin p
    | brk => exact p
    | ret v => exact p
  · have hin : i = n := by omega
    subst hin
    refine it.done _ o _ _ F'.keep hI.1 hio fun h₁ tk₁ he₁ => ?_
    exact wpAny_mono (done m news h₁ tk₁ hj (fr_ext F' he₁ hI.2.1 hI.2.2) (news_ext (news_tl N') he₁ hoff)) (fun _ _ q => q) fun _ _ e => e.elim

theorem for_goS {x : Str} {px : Pos} {body orelse : List Stmt} {m₀ : Str → Option Value} {news₀ : Led} {o₀ : Obj} {L : Addr} {hold : Heap → Prop} (J : Nat → (Str → Option Value) → Led → Prop)
    (hL : env.locals = L) (it : ItS prog w A hold I io n P) (hst : ∀ i m news h o, J i m news → Off I news → Fr g L h m → News g L h ((I, o) :: news) → hold h) (hx : env.kindOf x = some .local) (hp : (env.scope.kind == .class || (env.scope.kind == .module && env.locals != env.globals)) = false)
    (F : Fr g L s.heap m₀) (N : News g L s.heap ((I, o₀) :: news₀)) (off : Off I news₀) (h0 : io 0 o₀) (j0 : J 0 m₀ news₀)
    (turn : ∀ i v m news h tk o, i < n → P i v → J i m news → Off I news → Fr g L h (fun y => if y = x then some v else m y) → News g L h ((I, o) :: news) → io (i + 1) o →
      wpAny (model prog w) A (execs body env) (ForPost g L I o (J (i + 1)) R { s with heap := h, toks := tk }) (fun _ _ => False) { s with heap := h, toks := tk })
    (done : ∀ m news h tk, J n m news → Fr g L h m → News g L h news → wpAny (model prog w) A (execs orelse env) (fun f s' => R (.ok f) s') (fun _ _ => False) { s with heap := h, toks := tk }) :
    codeAny (model prog w) A (.forLoop (.Name x px) (.ref I) body orelse env) R s := by
  subst hL
  refine codeAny_forLoop (fun k s' => ∃ i h tk m news o, s' = { s with heap := h, toks := tk } ∧ i ≤ n ∧ k = n - i ∧ J i m news ∧ Off I news ∧ Fr g env.locals h m ∧ News g env.locals h ((I, o) :: news) ∧ io i o) ?_ n
    ⟨0, s.heap, s.toks, m₀, news₀, o₀, rfl, Nat.zero_le _, rfl, j0, off, F, N, h0⟩
  rintro k s' ⟨i, h, tk, m, news, o, rfl, hi, rfl, hj, hoff, F', N', hio⟩
  have hI := N' _ (.head _)
  by_cases hlt : i < n
  · refine it.item i _ o _ _ hlt (hst _ _ _ _ _ hj hoff F' N') hI.1 hio fun v h₁ tk₁ o₁ hP ho₁ hio₁ hs₁ => ?_
    have F₁ := fr_ext F' hs₁.extBut hI.2.1 hI.2.2
    have N₁ := news_more (news_ext (news_tl N') hs₁.extBut hoff) ho₁ hI.2.1 hI.2.2
    refine wpAny_assign_Name (wpAny_storeName_local hx F₁.ns (fun h₂ hn₂ hs₂ => ?_) hp)
    have F₂ := F₁.set hn₂ hs₂
    have N₂ := N₁.set hs₂
    refine wpAny_mono (turn i v m news h₂ _ o₁ hlt hP hj hoff F₂ N₂ hio₁) (fun f s₃ p => ?_) fun _ _ e => e.elim
    have fin : TurnEnd g env.locals I o₁ (J (i + 1)) { s with heap := h₂, toks := tk₁ + 1 } s₃ → ∃ k', k' < n - i ∧ ∃ i h tk m news o, s₃ = { s with heap := h, toks := tk } ∧ i ≤ n ∧ k' = n - i ∧ J i m news ∧ Off I news ∧ Fr g env.locals h m ∧ News g env.locals h ((I, o) :: news) ∧ io i o := by
      rintro ⟨h', tk', m', news', rfl, F₃, N₃, off₃, hj₃⟩
      exact ⟨n - (i + 1), by omega, i + 1, h', tk', m', news', o₁, rfl, hlt, rfl, hj₃, off₃, F₃, N₃, hio₁⟩
    cases f with
    | next => exact fin p
    | cont => exact fin p
    | brk => exact p
    | ret v => exact p
  · have hin : i = n := by omega
    subst hin
    refine it.done _ o _ _ (hst _ _ _ _ _ hj hoff F' N') hI.1 hio fun h₁ tk₁ he₁ => ?_
    exact wpAny_mono (done m news h₁ tk₁ hj (fr_ext F' he₁ hI.2.1 hI.2.2) (news_ext (news_tl N') he₁ hoff)) (fun _ _ q => q) fun _ _ e => e.elim

/-- a turn that neither returns nor breaks -/
def TurnPost (g : Heap) (L I : Addr) (o : Obj) (J : (Str → Option Value) → Led → Prop) (s₁ : Shared) (f : Flow) (s' : Shared) : Prop :=
  match f with
  | .ret _ => False
  | .brk => False
  | _ => TurnEnd g L I o J s₁ s'
theorem TurnPost.forp {g : Heap} {L I : Addr} {o : Obj} {J : (Str → Option Value) → Led → Prop} {R : Result → Shared → Prop} {s₁ s' : Shared} {f : Flow} (p : TurnPost g L I o J s₁ f s') : ForPost g L I o J R s₁ f s' := by
  cases f with
  | next => exact p
  | cont => exact p
  | brk => exact p.elim
  | ret v => exact p.elim
theorem for_goN {x : Str} {px : Pos} {body orelse : List Stmt} {m₀ : Str → Option Value} {news₀ : Led} {o₀ : Obj} {L : Addr} (J : Nat → (Str → Option Value) → Led → Prop)
    (hL : env.locals = L) (it : It prog w A g I io n P) (hx : env.kindOf x = some .local) (hp : (env.scope.kind == .class || (env.scope.kind == .module && env.locals != env.globals)) = false)
    (F : Fr g L s.heap m₀) (N : News g L s.heap ((I, o₀) :: news₀)) (off : Off I news₀) (h0 : io 0 o₀) (j0 : J 0 m₀ news₀)
    (turn : ∀ i v m news h tk o, i < n → P i v → J i m news → Off I news → Fr g L h (fun y => if y = x then some v else m y) → News g L h ((I, o) :: news) → io (i + 1) o →
      wpAny (model prog w) A (execs body env) (TurnPost g L I o (J (i + 1)) { s with heap := h, toks := tk }) (fun _ _ => False) { s with heap := h, toks := tk })
    (done : ∀ m news h tk, J n m news → Fr g L h m → News g L h news → wpAny (model prog w) A (execs orelse env) (fun f s' => R (.ok f) s') (fun _ _ => False) { s with heap := h, toks := tk }) :
    codeAny (model prog w) A (.forLoop (.Name x px) (.ref I) body orelse env) R s :=
  for_go J hL it hx hp F N off h0 j0 (fun i v m news h tk o a b c d e f k => wpAny_mono (turn i v m news h tk o a b c d e f k) (fun f s' p => TurnPost.forp p) (fun _ _ e => e)) done

theorem for_goSN {x : Str} {px : Pos} {body orelse : List Stmt} {m₀ : Str → Option Value} {news₀ : Led} {o₀ : Obj} {L : Addr} {hold : Heap → Prop} (J : Nat → (Str → Option Value) → Led → Prop)
    (hL : env.locals = L) (it : ItS prog w A hold I io n P) (hst : ∀ i m news h o, J i m news → Off I news → Fr g L h m → News g L h ((I, o) :: news) → hold h) (hx : env.kindOf x = some .local) (hp : (env.scope.kind == .class || (env.scope.kind == .module && env.locals != env.globals)) = false)
    (F : Fr g L s.heap m₀) (N : News g L s.heap ((I, o₀) :: news₀)) (off : Off I news₀) (h0 : io 0 o₀) (j0 : J 0 m₀ news₀)
    (turn : ∀ i v m news h tk o, i < n → P i v → J i m news → Off I news → Fr g L h (fun y => if y = x then some v else m y) → News g L h ((I, o) :: news) → io (i + 1) o →
      wpAny (model prog w) A (execs body env) (TurnPost g L I o (J (i + 1)) { s with heap := h, toks := tk }) (fun _ _ => False) { s with heap := h, toks := tk })
    (done : ∀ m news h tk, J n m news → Fr g L h m → News g L h news → wpAny (model prog w) A (execs orelse env) (fun f s' => R (.ok f) s') (fun _ _ => False) { s with heap := h, toks := tk }) :
    codeAny (model prog w) A (.forLoop (.Name x px) (.ref I) body orelse env) R s :=
  for_goS J hL it hst hx hp F N off h0 j0 (fun i v m news h tk o a b c d e f k => wpAny_mono (turn i v m news h tk o a b c d e f k) (fun f s' p => TurnPost.forp p) (fun _ _ e => e)) done

def WhilePost (g : Heap) (L : Addr) (J : (Str → Option Value) → Led → Prop) (R : Result → Shared → Prop) (s₁ : Shared) (f : Flow) (s' : Shared) : Prop :=
  match f with
  | .ret v => R (.ok (.ret v)) s'
  | .brk => R (.ok .next) s'
  | _ => ∃ h' tk' m' news', s' = { s₁ with heap := h', toks := tk' } ∧ Fr g L h' m' ∧ News g L h' news' ∧ J m' news'

theorem wend {g h' : Heap} {L : Addr} {J : (Str → Option Value) → Led → Prop} {R : Result → Shared → Prop} {s₁ : Shared} {tk' : Nat} {m' : Str → Option Value} (news' : Led) (F : Fr g L h' m') (N : News g L h' news') (j : J m' news') :
    WhilePost g L J R s₁ .next { s₁ with heap := h', toks := tk' } := ⟨h', tk', m', news', rfl, F, N, j⟩
theorem while_go {test : Expr} {body orelse : List Stmt} {m₀ : Str → Option Value} {news₀ : Led} {L : Addr} (J : Nat → (Str → Option Value) → Led → Prop) (n₀ : Nat)
    (hL : env.locals = L) (F : Fr g L s.heap m₀) (N : News g L s.heap news₀) (j0 : J n₀ m₀ news₀)
    (turn : ∀ k m news h tk, J k m news → Fr g L h m → News g L h news →
      wpAny (model prog w) A (isTrue test env (eval test env)) (fun b s₂ =>
        if b = true then wpAny (model prog w) A (execs body env) (WhilePost g L (fun m' news' => ∃ k', k' < k ∧ J k' m' news') R { s with heap := h, toks := tk }) (fun _ _ => False) s₂
        else wpAny (model prog w) A (execs orelse env) (fun f s₃ => R (.ok f) s₃) (fun _ _ => False) s₂) (fun _ _ => False) { s with heap := h, toks := tk }) :
    codeAny (model prog w) A (.whileLoop test body orelse env) R s := by
  subst hL
  refine codeAny_whileLoop (fun k s' => ∃ h tk m news, s' = { s with heap := h, toks := tk } ∧ J k m news ∧ Fr g env.locals h m ∧ News g env.locals h news) ?_ n₀ ⟨s.heap, s.toks, m₀, news₀, rfl, j0, F, N⟩
  rintro k s' ⟨h, tk, m, news, rfl, hj, F', N'⟩
  refine wpAny_mono (turn k m news h tk hj F' N') (fun b s₂ q => ?_) fun _ _ e => e.elim
  cases b with
  | false => exact wpAny_mono q (fun _ _ q => q) fun _ _ e => e.elim
  | true =>
    refine wpAny_mono q (fun f s₃ p => ?_) fun _ _ e => e.elim
    have fin : (∃ h' tk' m' news', s₃ = { ({ s with heap := h, toks := tk } : Shared) with heap := h', toks := tk' } ∧ Fr g env.locals h' m' ∧ News g env.locals h' news' ∧ ∃ k', k' < k ∧ J k' m' news') →
        ∃ k', k' < k ∧ ∃ h tk m news, s₃ = { s with heap := h, toks := tk } ∧ J k' m news ∧ Fr g env.locals h m ∧ News g env.locals h news := by
      rintro ⟨h', tk', m', news', rfl, F₃, N₃, k', hk', hj'⟩
      exact ⟨k', hk', h', tk', m', news', rfl, hj', F₃, N₃⟩
    cases f with
    | next => exact fin p
    | cont => exact fin p
    | brk => exact p
    | ret v => exact p
def WTurnPost (g : Heap) (L : Addr) (J : (Str → Option Value) → Led → Prop) (s₁ : Shared) (f : Flow) (s' : Shared) : Prop :=
  match f with
  | .ret _ => False
  | .brk => False
  | _ => ∃ h' tk' m' news', s' = { s₁ with heap := h', toks := tk' } ∧ Fr g L h' m' ∧ News g L h' news' ∧ J m' news'
theorem WTurnPost.forp {g : Heap} {L : Addr} {J : (Str → Option Value) → Led → Prop} {R : Result → Shared → Prop} {s₁ s' : Shared} {f : Flow} (p : WTurnPost g L J s₁ f s') : WhilePost g L J R s₁ f s' := by
  cases f with
  | next => exact p
  | cont => exact p
  | brk => exact p.elim
  | ret v => exact p.elim
theorem wendN {g h' : Heap} {L : Addr} {J : (Str → Option Value) → Led → Prop} {s₁ : Shared} {tk' : Nat} {m' : Str → Option Value} (news' : Led) (F : Fr g L h' m') (N : News g L h' news') (j : J m' news') :
    WTurnPost g L J s₁ .next { s₁ with heap := h', toks := tk' } := ⟨h', tk', m', news', rfl, F, N, j⟩
theorem while_goN {test : Expr} {body orelse : List Stmt} {m₀ : Str → Option Value} {news₀ : Led} {L : Addr} (J : Nat → (Str → Option Value) → Led → Prop) (n₀ : Nat)
    (hL : env.locals = L) (F : Fr g L s.heap m₀) (N : News g L s.heap news₀) (j0 : J n₀ m₀ news₀)
    (turn : ∀ k m news h tk, J k m news → Fr g L h m → News g L h news →
      wpAny (model prog w) A (isTrue test env (eval test env)) (fun b s₂ =>
        if b = true then wpAny (model prog w) A (execs body env) (WTurnPost g L (fun m' news' => ∃ k', k' < k ∧ J k' m' news') { s with heap := h, toks := tk }) (fun _ _ => False) s₂
        else wpAny (model prog w) A (execs orelse env) (fun f s₃ => R (.ok f) s₃) (fun _ _ => False) s₂) (fun _ _ => False) { s with heap := h, toks := tk }) :
    codeAny (model prog w) A (.whileLoop test body orelse env) R s :=
  while_go J n₀ hL F N j0 fun k m news h tk a b c => wpAny_mono (turn k m news h tk a b c) (fun b s₂ q => by
    cases b with
    | false => exact q
    | true => exact wpAny_mono q (fun f s' p => WTurnPost.forp p) (fun _ _ e => e)) fun _ _ e => e
end
end

section

section
variable {prog : Program} {w : World} {A : Around} {E : Value → Shared → Prop} {s : Shared} {g : Heap} {I D : Addr} {io : Nat → Obj → Prop} {n : Nat} {P : Nat → Value → Prop} {R : Result → Shared → Prop} {L : Addr} {m : Str → Option Value} {news : Led}

theorem append_L {xs : List Value} {k : Nat} {v : Value} {Q : Value → Shared → Prop} (F : Fr g L s.heap m) (N : News g L s.heap ((D, listOf xs.toArray k) :: news)) (off : Off D news) (hsz : xs.length ≤ 1000000)
    (h : ∀ h', Fr g L h' m → News g L h' ((D, listOf (xs ++ [v]).toArray (k + 1)) :: news) → Heap.SameBut D s.heap h' → Q .none { s with heap := h' }) :
    wpAny (model prog w) A (call (.builtin "list.append") [.ref D, v]) Q E s := by
  have z := N _ (.head _)
  have hz : xs.toArray.size ≤ sizeLine := by rw [List.size_toArray]; exact Nat.le_trans hsz (by decide)
  refine append_at (hsz := hz) z.1 fun h' hs ho' => ?_
  have e : xs.toArray.push v = (xs ++ [v]).toArray := by simp
  rw [e] at ho'
  exact h h' (fr_ext F hs.extBut z.2.1 z.2.2) (news_more (news_ext (news_tl N) hs.extBut off) ho' z.2.1 z.2.2) hs

/-- what one turn of a comprehension leaves -/
def CompEnd (g : Heap) (C I D : Addr) (o : Obj) (ys : List Value) (k : Nat) (J : Led → Prop) (s₁ s' : Shared) : Prop :=
  ∃ h' tk' m' news', s' = { s₁ with heap := h', toks := tk' } ∧ Fr g C h' m' ∧ News g C h' ((I, o) :: (D, listOf ys.toArray k) :: news') ∧ Off I news' ∧ Off D news' ∧ J news'

theorem cend {g h' : Heap} {C I D : Addr} {o : Obj} {ys : List Value} {k : Nat} {J : Led → Prop} {s₁ : Shared} {tk' : Nat} {m' : Str → Option Value} (news' : Led) (F : Fr g C h' m') (N : News g C h' ((I, o) :: (D, listOf ys.toArray k) :: news')) (oI : Off I news') (oD : Off D news') (j : J news') :
    CompEnd g C I D o ys k J s₁ { s₁ with heap := h', toks := tk' } := ⟨h', tk', m', news', rfl, F, N, oI, oD, j⟩
theorem comp_go {elt iter : Expr} {x : Str} {px : Pos} {ifs : List Expr} {scope : Scope} {pos : Pos} {cenv : Env} {m₀ : Str → Option Value} {news₀ : Led} {o₀ : Obj} {k₀ : Nat} (J : Nat → List Value → Led → Prop)
    (it : It prog w A g I io n P) (hx : cenv.kindOf x = some .local) (hp : (cenv.scope.kind == .class || (cenv.scope.kind == .module && cenv.locals != cenv.globals)) = false)
    (F : Fr g cenv.locals s.heap m₀) (N : News g cenv.locals s.heap ((I, o₀) :: (D, listOf ([] : List Value).toArray k₀) :: news₀)) (hDI : D ≠ I) (offI : Off I news₀) (offD : Off D news₀) (h0 : io 0 o₀) (j0 : J 0 [] news₀) (hsz : n ≤ 1000000)
    (turn : ∀ i v (m : Str → Option Value) news h tk o ys k, i < n → P i v → J i ys news → Off I news → Off D news → Fr g cenv.locals h (fun y => if y = x then some v else m y) → News g cenv.locals h ((I, o) :: (D, listOf ys.toArray k) :: news) → io (i + 1) o → ys.length ≤ i →
      wpAny (model prog w) A (forIn ifs true fun c r => if r = true then do let ok ← isTrue c cenv (eval c cenv); pure (ForInStep.yield ok) else pure (ForInStep.yield r)) (fun ok s' =>
        if ok = true then wpAny (model prog w) A (eval elt cenv) (fun y s'' => CompEnd g cenv.locals I D o ys k (J (i + 1) (ys ++ [y])) { s with heap := h, toks := tk } s'') (fun _ _ => False) s'
        else CompEnd g cenv.locals I D o ys k (J (i + 1) ys) { s with heap := h, toks := tk } s') (fun _ _ => False) { s with heap := h, toks := tk })
    (done : ∀ (m : Str → Option Value) ys news h tk k, J n ys news → Off D news → Fr g cenv.locals h m → News g cenv.locals h ((D, listOf ys.toArray k) :: news) → ys.length ≤ n → R (.ok .next) { s with heap := h, toks := tk }) :
    codeAny (model prog w) A (.compLoop (.ListComp elt [⟨.Name x px, iter, ifs, 0⟩] scope pos) 0 (.ref I) (.ref D) cenv) R s := by
  refine codeAny_compLoop_tests (fun q s' => ∃ i h tk m news o ys k, s' = { s with heap := h, toks := tk } ∧ i ≤ n ∧ q = n - i ∧ J i ys news ∧ Off I news ∧ Off D news ∧ Fr g cenv.locals h m ∧ News g cenv.locals h ((I, o) :: (D, listOf ys.toArray k) :: news) ∧ io i o ∧ ys.length ≤ i) ?_ n
    ⟨0, s.heap, s.toks, m₀, news₀, o₀, [], k₀, rfl, Nat.zero_le _, rfl, j0, offI, offD, F, N, h0, Nat.le_refl _⟩
  rintro q s' ⟨i, h, tk, m, news, o, ys, k, rfl, hi, rfl, hj, hoI, hoD, F', N', hio, hys⟩
  have hI := N' _ (.head _)
  have offI' : Off I ((D, listOf ys.toArray k) :: news) := Off.cons hDI hoI
  by_cases hlt : i < n
  · refine it.item i _ o _ _ hlt F'.keep hI.1 hio fun v h₁ tk₁ o₁ hP ho₁ hio₁ hs₁ => ?_
    have F₁ := fr_ext F' hs₁.extBut hI.2.1 hI.2.2
    have N₁ := news_more (news_ext (news_tl N') hs₁.extBut offI') ho₁ hI.2.1 hI.2.2
    refine wpAny_assign_Name (wpAny_storeName_local hx F₁.ns (fun h₂ hn₂ hs₂ => ?_) hp)
    have F₂ := F₁.set hn₂ hs₂
    have N₂ := N₁.set hs₂
    refine wpAny_mono (turn i v m news h₂ _ o₁ ys k hlt hP hj hoI hoD F₂ N₂ hio₁ hys) (fun ok s₃ p => ?_) fun _ _ e => e.elim
    cases ok with
    | false =>
      obtain ⟨h', tk', m', news', rfl, F₃, N₃, oI₃, oD₃, hj₃⟩ := p
      exact ⟨n - (i + 1), by omega, i + 1, h', tk', m', news', o₁, ys, k, rfl, hlt, rfl, hj₃, oI₃, oD₃, F₃, N₃, hio₁, by omega⟩
    | true =>
      refine wpAny_mono p (fun y s₄ p₄ => ?_) fun _ _ e => e.elim
      obtain ⟨h', tk', m', news', rfl, F₃, N₃, oI₃, oD₃, hj₃⟩ := p₄
      have N₃' : News g cenv.locals h' ((D, listOf ys.toArray k) :: (I, o₁) :: news') := nsub N₃ fun p hp => by
        rcases List.mem_cons.mp hp with rfl | hp
        · exact .tail _ (.head _)
        · rcases List.mem_cons.mp hp with rfl | hp
          · exact .head _
          · exact .tail _ (.tail _ hp)
      refine append_L F₃ N₃' (Off.cons (Ne.symm hDI) oD₃) (by omega) fun h₅ F₅ N₅ _ => ?_
      refine ⟨n - (i + 1), by omega, i + 1, h₅, tk', m', news', o₁, ys ++ [y], k + 1, rfl, hlt, rfl, hj₃, oI₃, oD₃, F₅, nsub N₅ fun p hp => ?_, hio₁, by simp; omega⟩
      rcases List.mem_cons.mp hp with rfl | hp
      · exact .tail _ (.head _)
      · rcases List.mem_cons.mp hp with rfl | hp
        · exact .head _
        · exact .tail _ (.tail _ hp)
  · have hin : i = n := by omega
    subst hin
    refine it.done _ o _ _ F'.keep hI.1 hio fun h₁ tk₁ he₁ => ?_
    exact done m ys news h₁ tk₁ k hj hoD (fr_ext F' he₁ hI.2.1 hI.2.2) (news_ext (news_tl N') he₁ offI') hys
end
end

section

/-- the heap less some places -/
abbrev Hid (h : Heap) (l : List Addr) : Heap := hideAll h l
theorem none_of_size {h : Heap} : h.get? h.objs.size = none := by
  cases e : h.get? h.objs.size with
  | none => rfl
  | some o => exact absurd (Heap.lt_size e) (Nat.lt_irrefl _)
theorem none_of_le {h : Heap} {a : Addr} (q : h.objs.size ≤ a) : h.get? a = none := by
  cases e : h.get? a with
  | none => rfl
  | some o => exact absurd (Heap.lt_size e) (Nat.not_lt.mpr q)
theorem hid_ns {h : Heap} {l : List Addr} {a : Addr} {m : Str → Option Value} (n : h.Ns a m) (ha : a ∉ l) : (Hid h l).Ns a m :=
  let ⟨o, es, ep, ho, r⟩ := n; ⟨o, es, ep, hideAll_get _ ho ha, r⟩
theorem hid_list {h : Heap} {l : List Addr} {a : Addr} {xs : Array Value} (n : h.IsList a xs) (ha : a ∉ l) : (Hid h l).IsList a xs :=
  let ⟨o, ho, r⟩ := n; ⟨o, hideAll_get _ ho ha, r⟩

section
variable {prog : Program} {w : World} {A : Around} {E : Value → Shared → Prop} {s : Shared} {h₀ : Heap} {I : Addr} {io : Nat → Obj → Prop} {n : Nat} {P : Nat → Value → Prop} {L : Addr} {m : Str → Option Value} {news muts : Led} {env : Env} {scope : Scope} {cl : List (Str × Addr)}

/-- the block of a comprehension, from its iterator on -/
theorem comp_block {elt iter : Expr} {x : Str} {px : Pos} {ifs : List Expr} {pos : Pos} {o₀ : Obj} {RR : Value → Addr → Result → Shared → Prop} (J : Nat → List Value → Led → Prop)
    (hcell : ∀ y ∈ scope.names, y.2 ≠ .cell) (hkind : scope.kind = .function) (hx : scope.names.lookup x = some .local)
    (F : Fr h₀ L s.heap m) (N : News h₀ L s.heap ((I, o₀) :: (muts ++ news))) (offm : Off I muts) (it : It prog w A (Hid s.heap (I :: muts.map (·.1))) I io n P) (h0 : io 0 o₀) (hmn : ∀ p ∈ muts, Off p.1 news)
    (offn : Off I news) (j0 : J 0 [] muts) (hsz : n ≤ 1000000)
    (turn : ∀ C D, s.heap.get? C = none → s.heap.get? D = none → ∀ i v (mc : Str → Option Value) nw h tk o ys k, i < n → P i v → J i ys nw → Off I nw → Off D nw → Fr (Hid s.heap (I :: muts.map (·.1))) C h (fun y => if y = x then some v else mc y) →
      News (Hid s.heap (I :: muts.map (·.1))) C h ((I, o) :: (D, listOf ys.toArray k) :: nw) → io (i + 1) o → ys.length ≤ i →
      wpAny (model prog w) A (forIn ifs true fun c r => if r = true then do let ok ← isTrue c (compEnvC scope cl C env) (eval c (compEnvC scope cl C env)); pure (ForInStep.yield ok) else pure (ForInStep.yield r)) (fun ok s' =>
        if ok = true then wpAny (model prog w) A (eval elt (compEnvC scope cl C env)) (fun y s'' => CompEnd (Hid s.heap (I :: muts.map (·.1))) C I D o ys k (J (i + 1) (ys ++ [y])) { s with heap := h, toks := tk } s'') (fun _ _ => False) s'
        else CompEnd (Hid s.heap (I :: muts.map (·.1))) C I D o ys k (J (i + 1) ys) { s with heap := h, toks := tk } s') (fun _ _ => False) { s with heap := h, toks := tk })
    (hRR : ∀ D C h' tk m' ys k nw, s.heap.get? D = none → s.heap.get? C = none → D ≠ C → h'.Ns C m' → J n ys nw → Off D nw → ys.length ≤ n →
      Fr h₀ L h' m → News h₀ L h' ((D, listOf ys.toArray k) :: (nw ++ news)) → Kp (Hid s.heap (I :: muts.map (·.1))) h' → Off C ((D, listOf ys.toArray k) :: (nw ++ news)) → C ≠ L → (∀ p ∈ nw, (Hid s.heap (I :: muts.map (·.1))).get? p.1 = none) → RR (.ref D) C (.ok .next) { s with heap := h', toks := tk }) :
    wpAny (model prog w) A (newList []) (fun acc s₃ => wpAny (model prog w) A (newFunctionEnv scope env.globals cl [] env.qual none .none (some env)) (fun cenv s₄ =>
      codeAny (model prog w) A (.compStart (.ListComp elt [⟨.Name x px, iter, ifs, 0⟩] scope pos) 0 (.ref I) acc { cenv with scope := relabel scope env }) (RR acc cenv.locals) s₄) E s₃) E s := by
  refine wpAny_newObj_type (wpAny_newFunctionEnv hcell (by intro y hy; simp at hy) (fun h₁ hns₁ hsb₁ => ?_) hkind)
  dsimp only at hns₁ hsb₁ ⊢
  generalize hH2 : s.heap.push { cls := .type "list", dict := none, data := .seq ([] : List Value).toArray } = H2 at hns₁ hsb₁ ⊢
  have hC : H2.objs.size = s.heap.objs.size + 1 := by rw [← hH2, Heap.size_push]
  have hDC : s.heap.objs.size ≠ H2.objs.size := by rw [hC]; exact Nat.ne_of_lt (Nat.lt_succ_self _)
  have below : ∀ b, b < s.heap.objs.size → b ≠ H2.objs.size ∧ b ≠ s.heap.objs.size := fun b hb => ⟨by rw [hC]; exact Nat.ne_of_lt (Nat.lt_succ_of_lt hb), Nat.ne_of_lt hb⟩
  have old : Kp s.heap h₁ := fun b o e => hsb₁.extBut b o (below b (Heap.lt_size e)).1 (Heap.get?_push_of_some _ (hH2 ▸ Heap.get?_push_of_some _ e))
  have hacc : h₁.get? s.heap.objs.size = some (listOf ([] : List Value).toArray 0) := hsb₁.extBut _ _ hDC (Heap.get?_push_of_some _ (hH2 ▸ Heap.get?_push_size _ rfl))
  let gs := Hid s.heap (I :: muts.map (·.1))
  have hgs : gs.objs.size = s.heap.objs.size := hideAll_size _ _
  have hI := N _ (.head _)
  have F₁ : Fr gs H2.objs.size h₁ (fun _ => none) := ⟨hns₁, fun b o e => old b o (of_hideAll _ e), by rw [hgs, hC]; exact Nat.le_succ _⟩
  have hnone : ∀ a, s.heap.objs.size ≤ a → gs.get? a = none := fun a ha => none_of_le (by rw [hgs]; exact ha)
  have hsizeI : I < s.heap.objs.size := Heap.lt_size hI.1
  have N₁ : News gs H2.objs.size h₁ ((I, o₀) :: (s.heap.objs.size, listOf ([] : List Value).toArray 0) :: muts) := fun p hp => by
    rcases List.mem_cons.mp hp with rfl | hp
    · exact ⟨old _ _ hI.1, (below _ hsizeI).1, hideAll_none _ (.head _)⟩
    · rcases List.mem_cons.mp hp with rfl | hp
      · exact ⟨hacc, hDC, hnone _ (Nat.le_refl _)⟩
      · have z := N p (.tail _ (List.mem_append.mpr (.inl hp)))
        exact ⟨old _ _ z.1, (below _ (Heap.lt_size z.1)).1, hideAll_none _ (.tail _ (List.mem_map_of_mem hp))⟩
  have offD : Off s.heap.objs.size muts := fun p hp => (below _ (Heap.lt_size (N p (.tail _ (List.mem_append.mpr (.inl hp)))).1)).2
  have hLgs : L ∉ I :: muts.map (·.1) := fun q => by
    rcases List.mem_cons.mp q with q | q
    · exact hI.2.1 q.symm
    · obtain ⟨p, hp, e⟩ := List.mem_map.mp q
      exact (N p (.tail _ (List.mem_append.mpr (.inl hp)))).2.1 e
  have kp0 : Kp h₀ gs := fun b o e => hideAll_get _ (F.keep b o e) fun q => by
    rcases List.mem_cons.mp q with q | q
    · rw [q, hI.2.2] at e; cases e
    · obtain ⟨p, hp, ep⟩ := List.mem_map.mp q
      rw [← ep, (N p (.tail _ (List.mem_append.mpr (.inl hp)))).2.2] at e; cases e
  have nsL : gs.Ns L m := hid_ns F.ns hLgs
  have loop : ∀ s₃ : Shared, s₃ = { s with heap := h₁, toks := s.toks + ([] : List (Str × Value)).length } →
      codeAny (model prog w) A (.compLoop (.ListComp elt [⟨.Name x px, iter, ifs, 0⟩] scope pos) 0 (.ref I) (.ref s.heap.objs.size) (compEnvC scope cl H2.objs.size env))
        (RR (.ref s.heap.objs.size) H2.objs.size) s₃ := by
    rintro s₃ rfl
    refine comp_go (cenv := compEnvC scope cl H2.objs.size env) J it (lookup_relabel_local hx) (by simp [compEnvC, relabel, hkind]) F₁ N₁ (Ne.symm (below _ hsizeI).2) offm offD h0 j0 hsz ?_ ?_
    · intro i v mc nw h tk o ys k a1 a2 a3 a4 a5 a6 a7 a8 a9
      exact turn H2.objs.size s.heap.objs.size (none_of_le (by rw [hC]; exact Nat.le_succ _)) none_of_size i v mc nw h tk o ys k a1 a2 a3 a4 a5 a6 a7 a8 a9
    · intro mc ys nw h tk k hj hoD Fc Nc hys
      have hCn : gs.get? H2.objs.size = none := hnone _ (by rw [hC]; exact Nat.le_succ _)
      have hLs : ∃ oL, gs.get? L = some oL := let ⟨oL, _, _, e, _⟩ := nsL; ⟨oL, e⟩
      have fromN : ∀ p : Addr × Obj, h.get? p.1 = some p.2 ∧ p.1 ≠ H2.objs.size ∧ gs.get? p.1 = none → h.get? p.1 = some p.2 ∧ p.1 ≠ L ∧ h₀.get? p.1 = none := fun p z => by
        refine ⟨z.1, fun q => ?_, ?_⟩
        · obtain ⟨oL, e⟩ := hLs; rw [← q, z.2.2] at e; cases e
        · cases e : h₀.get? p.1 with
          | none => rfl
          | some o => have := kp0 _ _ e; rw [z.2.2] at this; cases this
      have inG : ∀ p ∈ news, gs.get? p.1 = some p.2 := fun p hp => by
        have z := N p (.tail _ (List.mem_append.mpr (.inr hp)))
        refine hideAll_get _ z.1 fun q => ?_
        rcases List.mem_cons.mp q with q | q
        · exact offn p hp q
        · obtain ⟨p', hp', ep⟩ := List.mem_map.mp q
          exact hmn p' hp' p hp ep.symm
      refine hRR _ _ h _ mc ys k nw none_of_size (none_of_le (by rw [hC]; exact Nat.le_succ _)) hDC Fc.ns hj hoD hys ⟨nsL.keeps Fc.keep, fun b o e => Fc.keep b o (kp0 b o e), F.above⟩ (fun p hp => ?_) Fc.keep ?_ ?_ fun p hp => (Nc p (.tail _ hp)).2.2
      · rcases List.mem_cons.mp hp with rfl | hp
        · exact fromN _ (Nc _ (.head _))
        · rcases List.mem_append.mp hp with hp | hp
          · exact fromN _ (Nc _ (.tail _ hp))
          · exact ⟨Fc.keep _ _ (inG p hp), (N p (.tail _ (List.mem_append.mpr (.inr hp)))).2⟩
      · refine Off.cons hDC (Off.append (fun p hp => (Nc p (.tail _ hp)).2.1) fun p hp q => ?_)
        have := inG p hp
        rw [q, hCn] at this; cases this
      · rintro q
        obtain ⟨oL, e⟩ := hLs
        rw [← q, hCn] at e; cases e
  exact codeAny_compStart_list (loop _ rfl) (it.self 0 _ o₀ _ _ (old _ _ hI.1) h0 (loop _ rfl))

def CompBlock (prog : Program) (w : World) (A : Around) (env : Env) (scope : Scope) (cl : List (Str × Addr)) (e : Expr) (RR : Value → Addr → Result → Shared → Prop) (E : Value → Shared → Prop) (it : Value) (s : Shared) : Prop :=
  wpAny (model prog w) A (newList []) (fun acc s₃ => wpAny (model prog w) A (newFunctionEnv scope env.globals cl [] env.qual none .none (some env)) (fun cenv s₄ =>
      codeAny (model prog w) A (.compStart e 0 it acc { cenv with scope := relabel scope env }) (RR acc cenv.locals) s₄) E s₃) E s

theorem listcomp_eval {elt iter : Expr} {x : Str} {px : Pos} {ifs : List Expr} {rest : List Comprehension} {pos : Pos} {Q : Value → Shared → Prop}
    (hclos : closureFor scope env = pure cl) (hkind : scope.kind = .function) (hnames : ∀ y ∈ scope.names, y.2 = .local → scope.names.lookup y.1 = some .local)
    (h : wpAny (model prog w) A (eval iter env) (fun xv s₁ => wpAny (model prog w) A (pyIter xv) (fun it s₂ => CompBlock prog w A env scope cl (.ListComp elt (⟨.Name x px, iter, ifs, 0⟩ :: rest) scope pos) (fun acc C => compPost (model prog w) A E none Q acc C) E it s₂) E s₁) E s)
    (hs : ∀ x, foldedSetIterable iter env x = pure x := by intro _; rfl) :
    wpAny (model prog w) A (eval (.ListComp elt (⟨.Name x px, iter, ifs, 0⟩ :: rest) scope pos) env) Q E s := by
  rw [eval_ListComp]
  exact wpAny_comprehension_free (use := none) rfl hs hclos hkind hnames h

theorem listcomp_assign {elt iter : Expr} {x y : Str} {px py : Pos} {ifs : List Expr} {rest : List Comprehension} {pos spos : Pos} {Q : Flow → Shared → Prop}
    (hsw : swapsWith (.ListComp elt (⟨.Name x px, iter, ifs, 0⟩ :: rest) scope pos) (some (.Name y py)) spos.line env = pure true)
    (hclos : closureFor scope env = pure cl) (hkind : scope.kind = .function) (hnames : ∀ y ∈ scope.names, y.2 = .local → scope.names.lookup y.1 = some .local)
    (h : wpAny (model prog w) A (eval iter env) (fun xv s₁ => wpAny (model prog w) A (pyIter xv) (fun it s₂ => CompBlock prog w A env scope cl (.ListComp elt (⟨.Name x px, iter, ifs, 0⟩ :: rest) scope pos)
      (fun acc C => compPost (model prog w) A E (some (assign (.Name y py) env)) (fun _ s' => Q .next s') acc C) E it s₂) E s₁) E s)
    (hs : ∀ x, foldedSetIterable iter env x = pure x := by intro _; rfl) :
    wpAny (model prog w) A (exec (.Assign [.Name y py] (.ListComp elt (⟨.Name x px, iter, ifs, 0⟩ :: rest) scope pos) spos) env) Q E s := by
  rw [exec_Assign_Name_used _ _ _ _ hsw]
  apply wpAny_bind
  apply wpAny_standAt
  apply wpAny_bind
  apply wpAny_bind
  apply wpAny_mono (wpAny_comprehension_free (use := some (assign (.Name y py) env)) (Q := fun _ u => Q .next u) rfl hs hclos hkind hnames h)
  · intro _ u q
    apply wpAny_pure
    exact wpAny_pure q
  · intro _ _ e
    exact e

/-- what a block's end hands on to an expression -/
theorem post_eval {D C : Addr} {h' : Heap} {tk : Nat} {m' : Str → Option Value} {l : Led} {Q : Value → Shared → Prop} (hn : h'.Ns C m') (F : Fr h₀ L h' m) (N : News h₀ L h' l) (oC : Off C l) (hCL : C ≠ L) (hC0 : h₀.get? C = none)
    (hQ : ∀ h'', Fr h₀ L h'' m → News h₀ L h'' l → Heap.ExtBut C h' h'' → Q (.ref D) { s with heap := h'', toks := tk }) :
    compPost (model prog w) A E none Q (.ref D) C (.ok .next) { s with heap := h', toks := tk } :=
  ⟨m', hn, fun h'' hs => hQ h'' (fr_ext F hs.extBut hCL hC0) (news_ext N hs.extBut oC) hs.extBut⟩

theorem post_assign {D C : Addr} {h' : Heap} {tk : Nat} {m' : Str → Option Value} {l : Led} {y : Str} {py : Pos} {Q : Shared → Prop} (hn : h'.Ns C m') (F : Fr h₀ env.locals h' m) (N : News h₀ env.locals h' l) (oC : Off C l) (hCL : C ≠ env.locals) (hC0 : h₀.get? C = none)
    (hy : env.kindOf y = some .local) (hp : (env.scope.kind == .class || (env.scope.kind == .module && env.locals != env.globals)) = false)
    (hQ : ∀ h'' tk', Fr h₀ env.locals h'' (fun z => if z = y then some (.ref D) else m z) → News h₀ env.locals h'' l → (∀ b o, b ≠ env.locals → b ≠ C → h'.get? b = some o → h''.get? b = some o) → Q { s with heap := h'', toks := tk' }) :
    compPost (model prog w) A E (some (assign (.Name y py) env)) (fun _ s' => Q s') (.ref D) C (.ok .next) { s with heap := h', toks := tk } := by
  show wpAny _ A (assign (.Name y py) env (.ref D)) _ _ _
  refine wpAny_assign_Name (wpAny_storeName_local hy F.ns (fun h₂ hn₂ hs₂ => ?_) hp)
  refine ⟨m', hn.sameBut hs₂ hCL, fun h₃ hs₃ => ?_⟩
  exact hQ h₃ _ (fr_ext (F.set hn₂ hs₂) hs₃.extBut hCL hC0) (news_ext (N.set hs₂) hs₃.extBut oC) fun b o b1 b2 e => hs₃.extBut b o b2 (hs₂.extBut b o b1 e)
end
end

section

section
variable {prog : Program} {w : World} {A : Around} {E : Value → Shared → Prop} {s : Shared} {h₀ : Heap} {I : Addr} {io : Nat → Obj → Prop} {n : Nat} {P : Nat → Value → Prop} {L : Addr} {m : Str → Option Value} {news muts : Led} {env : Env} {scope : Scope} {cl : List (Str × Addr)}

/-- a turn of a block, over any ground that holds what stands -/
def CompTurn (prog : Program) (w : World) (A : Around) (env : Env) (scope : Scope) (cl : List (Str × Addr)) (x : Str) (ifs : List Expr) (elt : Expr) (gs : Heap) (I : Addr) (io : Nat → Obj → Prop) (n : Nat) (P : Nat → Value → Prop) (J : Nat → List Value → Led → Prop) (s : Shared) : Prop :=
  ∀ C D i v (mc : Str → Option Value) nw h tk o ys k, s.heap.get? C = none → s.heap.get? D = none → i < n → P i v → J i ys nw → Off I nw → Off D nw → Fr gs C h (fun y => if y = x then some v else mc y) →
      News gs C h ((I, o) :: (D, listOf ys.toArray k) :: nw) → io (i + 1) o → ys.length ≤ i →
      wpAny (model prog w) A (forIn ifs true fun c r => if r = true then do let ok ← isTrue c (compEnvC scope cl C env) (eval c (compEnvC scope cl C env)); pure (ForInStep.yield ok) else pure (ForInStep.yield r)) (fun ok s' =>
        if ok = true then wpAny (model prog w) A (eval elt (compEnvC scope cl C env)) (fun y s'' => CompEnd gs C I D o ys k (J (i + 1) (ys ++ [y])) { s with heap := h, toks := tk } s'') (fun _ _ => False) s'
        else CompEnd gs C I D o ys k (J (i + 1) ys) { s with heap := h, toks := tk } s') (fun _ _ => False) { s with heap := h, toks := tk }

/-- the ground of a block: all that stands, less the iterator and what the block turns -/
structure Gs (h₀ gs : Heap) (L I : Addr) (m : Str → Option Value) (muts news : Led) (s : Shared) : Prop where
  base : Kp h₀ gs
  got : ∀ p ∈ news, gs.get? p.1 = some p.2
  ns : gs.Ns L m
  free : ∀ p ∈ muts, gs.get? p.1 = none
  freeI : gs.get? I = none
  back : Kp gs s.heap

theorem gs_of {o₀ : Obj} (F : Fr h₀ L s.heap m) (N : News h₀ L s.heap ((I, o₀) :: (muts ++ news))) (hmn : ∀ p ∈ muts, Off p.1 news) (offn : Off I news) : Gs h₀ (Hid s.heap (I :: muts.map (·.1))) L I m muts news s := by
  have hI := N _ (.head _)
  refine ⟨fun b o e => hideAll_get _ (F.keep b o e) fun q => ?_, fun p hp => ?_, hid_ns F.ns fun q => ?_, fun p hp => hideAll_none _ (.tail _ (List.mem_map_of_mem hp)), hideAll_none _ (.head _), fun b o e => of_hideAll _ e⟩
  · rcases List.mem_cons.mp q with q | q
    · rw [q, hI.2.2] at e; cases e
    · obtain ⟨p, hp, ep⟩ := List.mem_map.mp q
      rw [← ep, (N p (.tail _ (List.mem_append.mpr (.inl hp)))).2.2] at e; cases e
  · have z := N p (.tail _ (List.mem_append.mpr (.inr hp)))
    refine hideAll_get _ z.1 fun q => ?_
    rcases List.mem_cons.mp q with q | q
    · exact offn p hp q
    · obtain ⟨p', hp', ep⟩ := List.mem_map.mp q
      exact hmn p' hp' p hp ep.symm
  · rcases List.mem_cons.mp q with q | q
    · exact hI.2.1 q.symm
    · obtain ⟨p, hp, e⟩ := List.mem_map.mp q
      exact (N p (.tail _ (List.mem_append.mpr (.inl hp)))).2.1 e

theorem comp_e {elt iter : Expr} {x : Str} {px : Pos} {ifs : List Expr} {pos : Pos} {o₀ : Obj} {Q : Value → Shared → Prop} (J : Nat → List Value → Led → Prop)
    (hcell : ∀ y ∈ scope.names, y.2 ≠ .cell) (hkind : scope.kind = .function) (hx : scope.names.lookup x = some .local)
    (F : Fr h₀ L s.heap m) (N : News h₀ L s.heap ((I, o₀) :: (muts ++ news))) (offm : Off I muts) (h0 : io 0 o₀) (hmn : ∀ p ∈ muts, Off p.1 news) (offn : Off I news) (j0 : J 0 [] muts) (hsz : n ≤ 1000000)
    (turn : ∀ gs, Gs h₀ gs L I m muts news s → It prog w A gs I io n P ∧ CompTurn prog w A env scope cl x ifs elt gs I io n P J s)
    (hQ : ∀ D h'' tk ys k nw, s.heap.get? D = none → J n ys nw → Off D nw → ys.length ≤ n → Fr h₀ L h'' m → News h₀ L h'' ((D, listOf ys.toArray k) :: (nw ++ news)) → (∀ p ∈ nw, ∀ q ∈ news, p.1 ≠ q.1) → Q (.ref D) { s with heap := h'', toks := tk }) :
    CompBlock prog w A env scope cl (.ListComp elt [⟨.Name x px, iter, ifs, 0⟩] scope pos) (fun acc C => compPost (model prog w) A E none Q acc C) E (.ref I) s := by
  have G := gs_of F N hmn offn
  obtain ⟨it, tn⟩ := turn _ G
  refine comp_block J hcell hkind hx F N offm it h0 hmn offn j0 hsz ?_ ?_
  · intro C D hC hD i v mc nw h tk o ys k
    exact tn C D i v mc nw h tk o ys k hC hD
  · intro D C h' tk m' ys k nw hD hC hDC hn hj oD hys F' N' kp oC hCL hnw
    refine post_eval hn F' N' oC hCL ?_ fun h'' F'' N'' _ => hQ D h'' tk ys k nw hD hj oD hys F'' N'' fun p hp q hq e => ?_
    · cases e : h₀.get? C with
      | none => rfl
      | some o => have := F.keep _ _ e; rw [hC] at this; cases this
    · have a := hnw p hp
      rw [e, G.got q hq] at a; cases a

theorem comp_a {elt iter : Expr} {x y : Str} {px py : Pos} {ifs : List Expr} {pos : Pos} {o₀ : Obj} {Q : Shared → Prop} (J : Nat → List Value → Led → Prop)
    (hcell : ∀ y ∈ scope.names, y.2 ≠ .cell) (hkind : scope.kind = .function) (hx : scope.names.lookup x = some .local)
    (hy : env.kindOf y = some .local) (hp : (env.scope.kind == .class || (env.scope.kind == .module && env.locals != env.globals)) = false)
    (hL : env.locals = L) (F : Fr h₀ L s.heap m) (N : News h₀ L s.heap ((I, o₀) :: (muts ++ news))) (offm : Off I muts) (h0 : io 0 o₀) (hmn : ∀ p ∈ muts, Off p.1 news) (offn : Off I news) (j0 : J 0 [] muts) (hsz : n ≤ 1000000)
    (turn : ∀ gs, Gs h₀ gs L I m muts news s → It prog w A gs I io n P ∧ CompTurn prog w A env scope cl x ifs elt gs I io n P J s)
    (hQ : ∀ D h'' tk ys k nw, s.heap.get? D = none → J n ys nw → Off D nw → ys.length ≤ n → Fr h₀ L h'' (fun z => if z = y then some (.ref D) else m z) → News h₀ L h'' ((D, listOf ys.toArray k) :: (nw ++ news)) → (∀ p ∈ nw, ∀ q ∈ news, p.1 ≠ q.1) → Q { s with heap := h'', toks := tk }) :
    CompBlock prog w A env scope cl (.ListComp elt [⟨.Name x px, iter, ifs, 0⟩] scope pos) (fun acc C => compPost (model prog w) A E (some (assign (.Name y py) env)) (fun _ s' => Q s') acc C) E (.ref I) s := by
  subst hL
  have G := gs_of F N hmn offn
  obtain ⟨it, tn⟩ := turn _ G
  refine comp_block J hcell hkind hx F N offm it h0 hmn offn j0 hsz ?_ ?_
  · intro C D hC hD i v mc nw h tk o ys k
    exact tn C D i v mc nw h tk o ys k hC hD
  · intro D C h' tk m' ys k nw hD hC hDC hn hj oD hys F' N' kp oC hCL hnw
    refine post_assign hn F' N' oC hCL ?_ hy hp fun h'' tk' F'' N'' _ => hQ D h'' tk' ys k nw hD hj oD hys F'' N'' fun p hp q hq e => ?_
    · cases e : h₀.get? C with
      | none => rfl
      | some o => have := F.keep _ _ e; rw [hC] at this; cases this
    · have a := hnw p hp
      rw [e, G.got q hq] at a; cases a

-- two clauses
theorem compTurn_outer (elt t₁ i₁ t₂ i₂ : Expr) (ifs₂ : List Expr) (scope : Scope) (pos : Pos) (it acc : Value) (env : Env) :
    compTurn (.ListComp elt [⟨t₁, i₁, [], 0⟩, ⟨t₂, i₂, ifs₂, 0⟩] scope pos) 0 it acc env = (standAt i₁.pos >>= fun _ => pyNext it >>= fun r => match r with
      | none => pure (.done .next)
      | some v => letOwnedTupleGo t₁ it v >>= fun _ => assign t₁ env v >>= fun _ => eval i₂ env >>= fun x => standAt i₂.pos >>= fun _ => foldedSetIterable i₂ env x >>= fun x => (holding [x] (pyIter x)) >>= fun it' =>
          runOwn (.compStart (.ListComp elt [⟨t₁, i₁, [], 0⟩, ⟨t₂, i₂, ifs₂, 0⟩] scope pos) 1 it' acc env) env >>= fun _ => again (.compLoop (.ListComp elt [⟨t₁, i₁, [], 0⟩, ⟨t₂, i₂, ifs₂, 0⟩] scope pos) 0 it acc env)) := by rfl
theorem compTurn_inner (elt t₁ i₁ t₂ i₂ : Expr) (ifs₂ : List Expr) (scope : Scope) (pos : Pos) (it acc : Value) (env : Env) :
    compTurn (.ListComp elt [⟨t₁, i₁, [], 0⟩, ⟨t₂, i₂, ifs₂, 0⟩] scope pos) 1 it acc env = (standAt i₂.pos >>= fun _ => pyNext it >>= fun r => match r with
      | none => pure (.done .next)
      | some v => letOwnedTupleGo t₂ it v >>= fun _ => assign t₂ env v >>= fun _ => (forIn ifs₂ true fun c r => if r = true then do let ok ← isTrue c env (eval c env); pure (ForInStep.yield ok) else pure (ForInStep.yield r)) >>= fun ok =>
          (if ok = true then (eval elt env >>= fun x => call (.builtin "list.append") [acc, x] >>= fun _ => pure ()) >>= fun _ => again (.compLoop (.ListComp elt [⟨t₁, i₁, [], 0⟩, ⟨t₂, i₂, ifs₂, 0⟩] scope pos) 1 it acc env)
           else again (.compLoop (.ListComp elt [⟨t₁, i₁, [], 0⟩, ⟨t₂, i₂, ifs₂, 0⟩] scope pos) 1 it acc env))) := by rfl
end
end

section

section
variable {prog : Program} {w : World} {A : Around} {E : Value → Shared → Prop} {R : Result → Shared → Prop} {s : Shared}
/-- what the inner of two loops does with one item: bind it, ask the tests, append; `back` must stand when it is through -/
def ItemRun (prog : Program) (w : World) (A : Around) (x : Str) (px : Pos) (elt : Expr) (ifs : List Expr) (acc : Value) (env : Env) (back : Shared → Prop) (v : Value) (u : Shared) : Prop :=
  wpAny (model prog w) A (assign (.Name x px) env v) (fun _ a =>
    wpAny (model prog w) A (forIn ifs true fun c r => if r = true then do let ok ← isTrue c env (eval c env); pure (ForInStep.yield ok) else pure (ForInStep.yield r))
      (fun ok b => (ok = false → back b) ∧ (ok = true → wpAny (model prog w) A (eval elt env) (fun y c => wpAny (model prog w) A (call (.builtin "list.append") [acc, y]) (fun _ d => back d) (fun _ _ => False) c) (fun _ _ => False) b))
      (fun _ _ => False) a) (fun _ _ => False) u

theorem inner_loop {elt t₁ i₁ iter : Expr} {x : Str} {px : Pos} {ifs : List Expr} {scope : Scope} {pos : Pos} {it acc : Value} {env : Env} {n₀ : Nat} (I : Nat → Shared → Prop) (start : I n₀ s)
    (step : ∀ k t, I k t → wpAny (model prog w) A (pyNext it) (fun r u => (r = none → R (.ok .next) u) ∧ ∀ v, r = some v → ItemRun prog w A x px elt ifs acc env (fun z => ∃ j, j < k ∧ I j z) v u) (fun _ _ => False) t) :
    codeAny (model prog w) A (.compLoop (.ListComp elt [⟨t₁, i₁, [], 0⟩, ⟨.Name x px, iter, ifs, 0⟩] scope pos) 1 it acc env) R s := by
  apply codeAny_loop (hq := rfl) (I := I) (h := start)
  intro k t inv
  apply wpAny_noted
  have through : ∀ {α : Type} {m : Sem α} {P Q' : α → Shared → Prop} {u : Shared} {E' : Value → Shared → Prop}, wpAny (model prog w) A m P (fun _ _ => False) u → (∀ a z, P a z → Q' a z) → wpAny (model prog w) A m Q' E' u :=
    fun hm hp => wpAny_mono hm hp fun _ _ f => f.elim
  have turn := compTurn_inner elt t₁ i₁ (.Name x px) iter ifs scope pos it acc env
  rw [turn]
  apply wpAny_bind
  apply wpAny_standAt
  apply wpAny_bind
  apply through (step k t inv)
  rintro (_ | v) u ⟨stop, go⟩
  · exact wpAny_pure (stop rfl)
  · have run := go v rfl
    unfold ItemRun at run
    apply wpAny_bind
    apply wpAny_pure
    apply wpAny_bind
    apply through run
    intro _ a tests
    apply wpAny_bind
    apply through tests
    rintro (_ | _) b ⟨no, yes⟩
    · exact wpAny_pure (And.intro rfl (no rfl))
    · apply wpAny_bind
      apply wpAny_bind
      apply through (yes rfl)
      intro y c app
      apply wpAny_bind
      apply through app
      intro _ d home
      apply wpAny_pure
      exact wpAny_pure (And.intro rfl home)

theorem outer_loop {elt i₁ t₂ i₂ : Expr} {x : Str} {px : Pos} {ifs₂ : List Expr} {scope : Scope} {pos : Pos} {it acc : Value} {env : Env} {n₀ : Nat} (I : Nat → Shared → Prop) (start : I n₀ s) (plain : ∀ y, foldedSetIterable i₂ env y = pure y)
    (step : ∀ k t, I k t → wpAny (model prog w) A (pyNext it) (fun r u => (r = none → R (.ok .next) u) ∧ ∀ v, r = some v →
      wpAny (model prog w) A (assign (.Name x px) env v) (fun _ a => wpAny (model prog w) A (eval i₂ env) (fun y b => wpAny (model prog w) A (pyIter y) (fun it' c =>
        codeAny (model prog w) A (.compStart (.ListComp elt [⟨.Name x px, i₁, [], 0⟩, ⟨t₂, i₂, ifs₂, 0⟩] scope pos) 1 it' acc env) (fun r d => (∃ f, r = .ok f) ∧ ∃ j, j < k ∧ I j d) c)
        (fun _ _ => False) b) (fun _ _ => False) a) (fun _ _ => False) u) (fun _ _ => False) t) :
    codeAny (model prog w) A (.compLoop (.ListComp elt [⟨.Name x px, i₁, [], 0⟩, ⟨t₂, i₂, ifs₂, 0⟩] scope pos) 0 it acc env) R s := by
  apply codeAny_loop (hq := rfl) (I := I) (h := start)
  intro k t inv
  apply wpAny_noted
  have through : ∀ {α : Type} {m : Sem α} {P Q' : α → Shared → Prop} {u : Shared} {E' : Value → Shared → Prop}, wpAny (model prog w) A m P (fun _ _ => False) u → (∀ a z, P a z → Q' a z) → wpAny (model prog w) A m Q' E' u :=
    fun hm hp => wpAny_mono hm hp fun _ _ f => f.elim
  have turn := compTurn_outer elt (.Name x px) i₁ t₂ i₂ ifs₂ scope pos it acc env
  rw [turn]
  apply wpAny_bind
  apply wpAny_standAt
  apply wpAny_bind
  apply through (step k t inv)
  rintro (_ | v) u ⟨stop, go⟩
  · exact wpAny_pure (stop rfl)
  · apply wpAny_bind
    apply wpAny_pure
    apply wpAny_bind
    apply through (go v rfl)
    intro _ a source
    apply wpAny_bind
    apply through source
    intro y b opened
    apply wpAny_bind
    apply wpAny_standAt
    apply wpAny_bind
    rw [plain y]
    apply wpAny_pure
    apply wpAny_bind
    apply wpAny_holding
    apply through opened
    intro it' c inner
    apply wpAny_bind
    refine wpAny_runOwn ?_
    apply codeAny_mono inner
    rintro _ d ⟨⟨f, rfl⟩, home⟩
    exact wpAny_pure (And.intro rfl home)

/-- the inner loop is entered with an iterator that is its own iterator -/
theorem inner_start {elt t₁ i₁ t₂ i₂ : Expr} {ifs₂ : List Expr} {scope : Scope} {pos : Pos} {it acc : Value} {env : Env} (self : ∀ (Q : Value → Shared → Prop) (E : Value → Shared → Prop), Q it s → wpAny (model prog w) A (pyIter it) Q E s)
    (loop : codeAny (model prog w) A (.compLoop (.ListComp elt [⟨t₁, i₁, [], 0⟩, ⟨t₂, i₂, ifs₂, 0⟩] scope pos) 1 it acc env) R s) :
    codeAny (model prog w) A (.compStart (.ListComp elt [⟨t₁, i₁, [], 0⟩, ⟨t₂, i₂, ifs₂, 0⟩] scope pos) 1 it acc env) R s := by
  apply codeAny_of_tree
  apply wpAny_notedAt
  have on : ∀ {E' : Value → Shared → Prop}, wpAny (model prog w) A (again (.compLoop (.ListComp elt [⟨t₁, i₁, [], 0⟩, ⟨t₂, i₂, ifs₂, 0⟩] scope pos) 1 it acc env))
      (fun fin s' => match fin with | .done f => R (.ok f) s' | .again c' => c'.quiet = true ∧ codeAny (model prog w) A c' R s') E' s := wpAny_pure (And.intro rfl loop)
  apply wpAny_bind
  apply wpAny_askSetting
  apply wpAny_ite
  split
  · exact on
  · apply wpAny_bind
    apply wpAny_rule
    apply wpAny_bind
    apply wpAny_standAt
    apply wpAny_bind
    exact self _ _ on
end

section
variable {prog : Program} {w : World} {A : Around} {E : Value → Shared → Prop} {s : Shared} {g : Heap} {I D : Addr} {io : Nat → Obj → Prop} {n : Nat} {P : Nat → Value → Prop} {R : Result → Shared → Prop} {L : Addr} {m : Str → Option Value} {news : Led}

/-- what one turn leaves, the frame told too -/
def CompEndM (g : Heap) (C I D : Addr) (o : Obj) (ys : List Value) (k : Nat) (J : (Str → Option Value) → Led → Prop) (s₁ s' : Shared) : Prop :=
  ∃ h' tk' m' news', s' = { s₁ with heap := h', toks := tk' } ∧ Fr g C h' m' ∧ News g C h' ((I, o) :: (D, listOf ys.toArray k) :: news') ∧ Off I news' ∧ Off D news' ∧ J m' news'

theorem cendM {g h' : Heap} {C I D : Addr} {o : Obj} {ys : List Value} {k : Nat} {J : (Str → Option Value) → Led → Prop} {s₁ : Shared} {tk' : Nat} {m' : Str → Option Value} (news' : Led) (F : Fr g C h' m') (N : News g C h' ((I, o) :: (D, listOf ys.toArray k) :: news')) (oI : Off I news') (oD : Off D news') (j : J m' news') :
    CompEndM g C I D o ys k J s₁ { s₁ with heap := h', toks := tk' } := ⟨h', tk', m', news', rfl, F, N, oI, oD, j⟩
theorem comp_go2 {elt iter t₁ i₁ : Expr} {x : Str} {px : Pos} {ifs : List Expr} {scope : Scope} {pos : Pos} {cenv : Env} {m₀ : Str → Option Value} {news₀ : Led} {o₀ : Obj} {k₀ : Nat} {ys₀ : List Value} {C : Addr} (J : Nat → (Str → Option Value) → List Value → Led → Prop) (hCl : cenv.locals = C)
    (it : It prog w A g I io n P) (hx : cenv.kindOf x = some .local) (hp : (cenv.scope.kind == .class || (cenv.scope.kind == .module && cenv.locals != cenv.globals)) = false)
    (F : Fr g C s.heap m₀) (N : News g C s.heap ((I, o₀) :: (D, listOf ys₀.toArray k₀) :: news₀)) (hDI : D ≠ I) (offI : Off I news₀) (offD : Off D news₀) (h0 : io 0 o₀) (j0 : J 0 m₀ ys₀ news₀) (hsz : ys₀.length + n ≤ 1000000)
    (turn : ∀ i v (m : Str → Option Value) news h tk o ys k, i < n → P i v → J i m ys news → Off I news → Off D news → Fr g C h (fun y => if y = x then some v else m y) → News g C h ((I, o) :: (D, listOf ys.toArray k) :: news) → io (i + 1) o → ys.length ≤ ys₀.length + i →
      wpAny (model prog w) A (forIn ifs true fun c r => if r = true then do let ok ← isTrue c cenv (eval c cenv); pure (ForInStep.yield ok) else pure (ForInStep.yield r)) (fun ok s' =>
        if ok = true then wpAny (model prog w) A (eval elt cenv) (fun y s'' => CompEndM g C I D o ys k (fun m' => J (i + 1) m' (ys ++ [y])) { s with heap := h, toks := tk } s'') (fun _ _ => False) s'
        else CompEndM g C I D o ys k (fun m' => J (i + 1) m' ys) { s with heap := h, toks := tk } s') (fun _ _ => False) { s with heap := h, toks := tk })
    (done : ∀ (m : Str → Option Value) ys news h tk k, J n m ys news → Off D news → Fr g C h m → News g C h ((D, listOf ys.toArray k) :: news) → ys.length ≤ ys₀.length + n → R (.ok .next) { s with heap := h, toks := tk }) :
    codeAny (model prog w) A (.compLoop (.ListComp elt [⟨t₁, i₁, [], 0⟩, ⟨.Name x px, iter, ifs, 0⟩] scope pos) 1 (.ref I) (.ref D) cenv) R s := by
  subst hCl
  refine inner_loop (n₀ := n) (fun q s' => ∃ i h tk m news o ys k, s' = { s with heap := h, toks := tk } ∧ i ≤ n ∧ q = n - i ∧ J i m ys news ∧ Off I news ∧ Off D news ∧ Fr g cenv.locals h m ∧ News g cenv.locals h ((I, o) :: (D, listOf ys.toArray k) :: news) ∧ io i o ∧ ys.length ≤ ys₀.length + i)
    ⟨0, s.heap, s.toks, m₀, news₀, o₀, ys₀, k₀, rfl, Nat.zero_le _, rfl, j0, offI, offD, F, N, h0, Nat.le_refl _⟩ ?_
  rintro q s' ⟨i, h, tk, m, news, o, ys, k, rfl, hi, rfl, hj, hoI, hoD, F', N', hio, hys⟩
  have hI := N' _ (.head _)
  have offI' : Off I ((D, listOf ys.toArray k) :: news) := Off.cons hDI hoI
  by_cases hlt : i < n
  · refine it.item i _ o _ _ hlt F'.keep hI.1 hio fun v h₁ tk₁ o₁ hP ho₁ hio₁ hs₁ => ?_
    have F₁ := fr_ext F' hs₁.extBut hI.2.1 hI.2.2
    have N₁ := news_more (news_ext (news_tl N') hs₁.extBut offI') ho₁ hI.2.1 hI.2.2
    refine ⟨fun z => (nomatch z), fun v' e => ?_⟩
    obtain rfl := Option.some.inj e
    refine wpAny_assign_Name (wpAny_storeName_local hx F₁.ns (fun h₂ hn₂ hs₂ => ?_) hp)
    have F₂ := F₁.set hn₂ hs₂
    have N₂ := N₁.set hs₂
    refine wpAny_mono (turn i v m news h₂ _ o₁ ys k hlt hP hj hoI hoD F₂ N₂ hio₁ hys) (fun ok s₃ p => ?_) fun _ _ e => e.elim
    cases ok with
    | false =>
      refine ⟨fun _ => ?_, fun z => nomatch z⟩
      obtain ⟨h', tk', m', news', rfl, F₃, N₃, oI₃, oD₃, hj₃⟩ := p
      exact ⟨n - (i + 1), by omega, i + 1, h', tk', m', news', o₁, ys, k, rfl, hlt, rfl, hj₃, oI₃, oD₃, F₃, N₃, hio₁, by omega⟩
    | true =>
      refine ⟨fun z => (nomatch z), fun _ => wpAny_mono p (fun y s₄ p₄ => ?_) fun _ _ e => e.elim⟩
      obtain ⟨h', tk', m', news', rfl, F₃, N₃, oI₃, oD₃, hj₃⟩ := p₄
      have N₃' : News g cenv.locals h' ((D, listOf ys.toArray k) :: (I, o₁) :: news') := nsub N₃ fun p hp => by
        rcases List.mem_cons.mp hp with rfl | hp
        · exact .tail _ (.head _)
        · rcases List.mem_cons.mp hp with rfl | hp
          · exact .head _
          · exact .tail _ (.tail _ hp)
      refine append_L F₃ N₃' (Off.cons (Ne.symm hDI) oD₃) (by omega) fun h₅ F₅ N₅ _ => ?_
      refine ⟨n - (i + 1), by omega, i + 1, h₅, tk', m', news', o₁, ys ++ [y], k + 1, rfl, hlt, rfl, hj₃, oI₃, oD₃, F₅, nsub N₅ fun p hp => ?_, hio₁, by simp; omega⟩
      rcases List.mem_cons.mp hp with rfl | hp
      · exact .tail _ (.head _)
      · rcases List.mem_cons.mp hp with rfl | hp
        · exact .head _
        · exact .tail _ (.tail _ hp)
  · have hin : i = n := by omega
    subst hin
    refine it.done _ o _ _ F'.keep hI.1 hio fun h₁ tk₁ he₁ => ?_
    exact ⟨fun _ => done m ys news h₁ tk₁ k hj hoD (fr_ext F' he₁ hI.2.1 hI.2.2) (news_ext (news_tl N') he₁ offI') hys, fun _ z => nomatch z⟩
end
end

section

section
variable {prog : Program} {w : World} {A : Around} {E : Value → Shared → Prop} {s : Shared} {h₀ : Heap} {I : Addr} {io : Nat → Obj → Prop} {n : Nat} {P : Nat → Value → Prop} {L : Addr} {m : Str → Option Value} {news muts : Led} {env : Env} {scope : Scope} {cl : List (Str × Addr)}

/-- the block of a comprehension, from its iterator on -/
theorem comp_blockG {elt iter : Expr} {x : Str} {px : Pos} {ifs : List Expr} {rest : List Comprehension} {pos : Pos} {o₀ : Obj} {RR : Value → Addr → Result → Shared → Prop} (J : List Value → Led → Prop)
    (hcell : ∀ y ∈ scope.names, y.2 ≠ .cell) (hkind : scope.kind = .function)
    (F : Fr h₀ L s.heap m) (N : News h₀ L s.heap ((I, o₀) :: (muts ++ news))) (offm : Off I muts) (it : It prog w A (Hid s.heap (I :: muts.map (·.1))) I io n P) (h0 : io 0 o₀) (hmn : ∀ p ∈ muts, Off p.1 news)
    (offn : Off I news) (bd : Nat)
    (body : ∀ C D h₁ tk, s.heap.get? C = none → s.heap.get? D = none → D ≠ I → Off D muts → Fr (Hid s.heap (I :: muts.map (·.1))) C h₁ (fun _ => none) → News (Hid s.heap (I :: muts.map (·.1))) C h₁ ((I, o₀) :: (D, listOf ([] : List Value).toArray 0) :: muts) →
      (∀ (mc : Str → Option Value) ys nw h tk' k, J ys nw → Off D nw → Fr (Hid s.heap (I :: muts.map (·.1))) C h mc → News (Hid s.heap (I :: muts.map (·.1))) C h ((D, listOf ys.toArray k) :: nw) → ys.length ≤ bd → RR (.ref D) C (.ok .next) { s with heap := h, toks := tk' }) →
      codeAny (model prog w) A (.compLoop (.ListComp elt (⟨.Name x px, iter, ifs, 0⟩ :: rest) scope pos) 0 (.ref I) (.ref D) (compEnvC scope cl C env)) (RR (.ref D) C) { s with heap := h₁, toks := tk })
    (hRR : ∀ D C h' tk m' ys k nw, s.heap.get? D = none → s.heap.get? C = none → D ≠ C → h'.Ns C m' → J ys nw → Off D nw → ys.length ≤ bd →
      Fr h₀ L h' m → News h₀ L h' ((D, listOf ys.toArray k) :: (nw ++ news)) → Kp (Hid s.heap (I :: muts.map (·.1))) h' → Off C ((D, listOf ys.toArray k) :: (nw ++ news)) → C ≠ L → (∀ p ∈ nw, (Hid s.heap (I :: muts.map (·.1))).get? p.1 = none) → RR (.ref D) C (.ok .next) { s with heap := h', toks := tk }) :
    wpAny (model prog w) A (newList []) (fun acc s₃ => wpAny (model prog w) A (newFunctionEnv scope env.globals cl [] env.qual none .none (some env)) (fun cenv s₄ =>
      codeAny (model prog w) A (.compStart (.ListComp elt (⟨.Name x px, iter, ifs, 0⟩ :: rest) scope pos) 0 (.ref I) acc { cenv with scope := relabel scope env }) (RR acc cenv.locals) s₄) E s₃) E s := by
  refine wpAny_newObj_type (wpAny_newFunctionEnv hcell (by intro y hy; simp at hy) (fun h₁ hns₁ hsb₁ => ?_) hkind)
  dsimp only at hns₁ hsb₁ ⊢
  generalize hH2 : s.heap.push { cls := .type "list", dict := none, data := .seq ([] : List Value).toArray } = H2 at hns₁ hsb₁ ⊢
  have hC : H2.objs.size = s.heap.objs.size + 1 := by rw [← hH2, Heap.size_push]
  have hDC : s.heap.objs.size ≠ H2.objs.size := by rw [hC]; exact Nat.ne_of_lt (Nat.lt_succ_self _)
  have below : ∀ b, b < s.heap.objs.size → b ≠ H2.objs.size ∧ b ≠ s.heap.objs.size := fun b hb => ⟨by rw [hC]; exact Nat.ne_of_lt (Nat.lt_succ_of_lt hb), Nat.ne_of_lt hb⟩
  have old : Kp s.heap h₁ := fun b o e => hsb₁.extBut b o (below b (Heap.lt_size e)).1 (Heap.get?_push_of_some _ (hH2 ▸ Heap.get?_push_of_some _ e))
  have hacc : h₁.get? s.heap.objs.size = some (listOf ([] : List Value).toArray 0) := hsb₁.extBut _ _ hDC (Heap.get?_push_of_some _ (hH2 ▸ Heap.get?_push_size _ rfl))
  let gs := Hid s.heap (I :: muts.map (·.1))
  have hgs : gs.objs.size = s.heap.objs.size := hideAll_size _ _
  have hI := N _ (.head _)
  have F₁ : Fr gs H2.objs.size h₁ (fun _ => none) := ⟨hns₁, fun b o e => old b o (of_hideAll _ e), by rw [hgs, hC]; exact Nat.le_succ _⟩
  have hnone : ∀ a, s.heap.objs.size ≤ a → gs.get? a = none := fun a ha => none_of_le (by rw [hgs]; exact ha)
  have hsizeI : I < s.heap.objs.size := Heap.lt_size hI.1
  have N₁ : News gs H2.objs.size h₁ ((I, o₀) :: (s.heap.objs.size, listOf ([] : List Value).toArray 0) :: muts) := fun p hp => by
    rcases List.mem_cons.mp hp with rfl | hp
    · exact ⟨old _ _ hI.1, (below _ hsizeI).1, hideAll_none _ (.head _)⟩
    · rcases List.mem_cons.mp hp with rfl | hp
      · exact ⟨hacc, hDC, hnone _ (Nat.le_refl _)⟩
      · have z := N p (.tail _ (List.mem_append.mpr (.inl hp)))
        exact ⟨old _ _ z.1, (below _ (Heap.lt_size z.1)).1, hideAll_none _ (.tail _ (List.mem_map_of_mem hp))⟩
  have offD : Off s.heap.objs.size muts := fun p hp => (below _ (Heap.lt_size (N p (.tail _ (List.mem_append.mpr (.inl hp)))).1)).2
  have hLgs : L ∉ I :: muts.map (·.1) := fun q => by
    rcases List.mem_cons.mp q with q | q
    · exact hI.2.1 q.symm
    · obtain ⟨p, hp, e⟩ := List.mem_map.mp q
      exact (N p (.tail _ (List.mem_append.mpr (.inl hp)))).2.1 e
  have kp0 : Kp h₀ gs := fun b o e => hideAll_get _ (F.keep b o e) fun q => by
    rcases List.mem_cons.mp q with q | q
    · rw [q, hI.2.2] at e; cases e
    · obtain ⟨p, hp, ep⟩ := List.mem_map.mp q
      rw [← ep, (N p (.tail _ (List.mem_append.mpr (.inl hp)))).2.2] at e; cases e
  have nsL : gs.Ns L m := hid_ns F.ns hLgs
  have loop : ∀ s₃ : Shared, s₃ = { s with heap := h₁, toks := s.toks + ([] : List (Str × Value)).length } →
      codeAny (model prog w) A (.compLoop (.ListComp elt (⟨.Name x px, iter, ifs, 0⟩ :: rest) scope pos) 0 (.ref I) (.ref s.heap.objs.size) (compEnvC scope cl H2.objs.size env))
        (RR (.ref s.heap.objs.size) H2.objs.size) s₃ := by
    rintro s₃ rfl
    refine body H2.objs.size s.heap.objs.size h₁ _ (none_of_le (by rw [hC]; exact Nat.le_succ _)) none_of_size (Ne.symm (below _ hsizeI).2) offD F₁ N₁ ?_
    · intro mc ys nw h tk k hj hoD Fc Nc hys
      have hCn : gs.get? H2.objs.size = none := hnone _ (by rw [hC]; exact Nat.le_succ _)
      have hLs : ∃ oL, gs.get? L = some oL := let ⟨oL, _, _, e, _⟩ := nsL; ⟨oL, e⟩
      have fromN : ∀ p : Addr × Obj, h.get? p.1 = some p.2 ∧ p.1 ≠ H2.objs.size ∧ gs.get? p.1 = none → h.get? p.1 = some p.2 ∧ p.1 ≠ L ∧ h₀.get? p.1 = none := fun p z => by
        refine ⟨z.1, fun q => ?_, ?_⟩
        · obtain ⟨oL, e⟩ := hLs; rw [← q, z.2.2] at e; cases e
        · cases e : h₀.get? p.1 with
          | none => rfl
          | some o => have := kp0 _ _ e; rw [z.2.2] at this; cases this
      have inG : ∀ p ∈ news, gs.get? p.1 = some p.2 := fun p hp => by
        have z := N p (.tail _ (List.mem_append.mpr (.inr hp)))
        refine hideAll_get _ z.1 fun q => ?_
        rcases List.mem_cons.mp q with q | q
        · exact offn p hp q
        · obtain ⟨p', hp', ep⟩ := List.mem_map.mp q
          exact hmn p' hp' p hp ep.symm
      refine hRR _ _ h _ mc ys k nw none_of_size (none_of_le (by rw [hC]; exact Nat.le_succ _)) hDC Fc.ns hj hoD hys ⟨nsL.keeps Fc.keep, fun b o e => Fc.keep b o (kp0 b o e), F.above⟩ (fun p hp => ?_) Fc.keep ?_ ?_ fun p hp => (Nc p (.tail _ hp)).2.2
      · rcases List.mem_cons.mp hp with rfl | hp
        · exact fromN _ (Nc _ (.head _))
        · rcases List.mem_append.mp hp with hp | hp
          · exact fromN _ (Nc _ (.tail _ hp))
          · exact ⟨Fc.keep _ _ (inG p hp), (N p (.tail _ (List.mem_append.mpr (.inr hp)))).2⟩
      · refine Off.cons hDC (Off.append (fun p hp => (Nc p (.tail _ hp)).2.1) fun p hp q => ?_)
        have := inG p hp
        rw [q, hCn] at this; cases this
      · rintro q
        obtain ⟨oL, e⟩ := hLs
        rw [← q, hCn] at e; cases e
  exact codeAny_compStart_list (loop _ rfl) (it.self 0 _ o₀ _ _ (old _ _ hI.1) h0 (loop _ rfl))

/-- the loop of a block, over any ground -/
def Comp2Loop (prog : Program) (w : World) (A : Around) (env : Env) (scope : Scope) (cl : List (Str × Addr)) (e : Expr) (gs : Heap) (I : Addr) (o₀ : Obj) (muts : Led) (J : List Value → Led → Prop) (bd : Nat) (s : Shared) : Prop :=
  ∀ C D h₁ tk (R : Result → Shared → Prop), s.heap.get? C = none → s.heap.get? D = none → D ≠ I → Off D muts → Fr gs C h₁ (fun _ => none) → News gs C h₁ ((I, o₀) :: (D, listOf ([] : List Value).toArray 0) :: muts) →
      (∀ (mc : Str → Option Value) ys nw h tk' k, J ys nw → Off D nw → Fr gs C h mc → News gs C h ((D, listOf ys.toArray k) :: nw) → ys.length ≤ bd → R (.ok .next) { s with heap := h, toks := tk' }) →
      codeAny (model prog w) A (.compLoop e 0 (.ref I) (.ref D) (compEnvC scope cl C env)) R { s with heap := h₁, toks := tk }

theorem comp_eG {elt iter : Expr} {x : Str} {px : Pos} {ifs : List Expr} {rest : List Comprehension} {pos : Pos} {o₀ : Obj} {Q : Value → Shared → Prop} (J : List Value → Led → Prop)
    (hcell : ∀ y ∈ scope.names, y.2 ≠ .cell) (hkind : scope.kind = .function)
    (F : Fr h₀ L s.heap m) (N : News h₀ L s.heap ((I, o₀) :: (muts ++ news))) (offm : Off I muts) (h0 : io 0 o₀) (hmn : ∀ p ∈ muts, Off p.1 news) (offn : Off I news) (bd : Nat)
    (turn : ∀ gs, Gs h₀ gs L I m muts news s → It prog w A gs I io n P ∧ Comp2Loop prog w A env scope cl (.ListComp elt (⟨.Name x px, iter, ifs, 0⟩ :: rest) scope pos) gs I o₀ muts J bd s)
    (hQ : ∀ D h'' tk ys k nw, s.heap.get? D = none → J ys nw → Off D nw → ys.length ≤ bd → Fr h₀ L h'' m → News h₀ L h'' ((D, listOf ys.toArray k) :: (nw ++ news)) → (∀ p ∈ nw, ∀ q ∈ news, p.1 ≠ q.1) → Q (.ref D) { s with heap := h'', toks := tk }) :
    CompBlock prog w A env scope cl (.ListComp elt (⟨.Name x px, iter, ifs, 0⟩ :: rest) scope pos) (fun acc C => compPost (model prog w) A E none Q acc C) E (.ref I) s := by
  have G := gs_of F N hmn offn
  obtain ⟨it, tn⟩ := turn _ G
  refine comp_blockG J hcell hkind F N offm it h0 hmn offn bd ?_ ?_
  · intro C D h₁ tk hC hD hDI oD F₁ N₁ dn
    exact tn C D h₁ tk _ hC hD hDI oD F₁ N₁ fun mc ys nw h tk' k a b c d e => dn mc ys nw h tk' k a b c d e
  · intro D C h' tk m' ys k nw hD hC hDC hn hj oD hys F' N' kp oC hCL hnw
    refine post_eval hn F' N' oC hCL ?_ fun h'' F'' N'' _ => hQ D h'' tk ys k nw hD hj oD hys F'' N'' fun p hp q hq e => ?_
    · cases e : h₀.get? C with
      | none => rfl
      | some o => have := F.keep _ _ e; rw [hC] at this; cases this
    · have a := hnw p hp
      rw [e, G.got q hq] at a; cases a

theorem comp_aG {elt iter : Expr} {x y : Str} {px py : Pos} {ifs : List Expr} {rest : List Comprehension} {pos : Pos} {o₀ : Obj} {Q : Shared → Prop} (J : List Value → Led → Prop)
    (hcell : ∀ y ∈ scope.names, y.2 ≠ .cell) (hkind : scope.kind = .function)
    (hy : env.kindOf y = some .local) (hp : (env.scope.kind == .class || (env.scope.kind == .module && env.locals != env.globals)) = false)
    (hL : env.locals = L) (F : Fr h₀ L s.heap m) (N : News h₀ L s.heap ((I, o₀) :: (muts ++ news))) (offm : Off I muts) (h0 : io 0 o₀) (hmn : ∀ p ∈ muts, Off p.1 news) (offn : Off I news) (bd : Nat)
    (turn : ∀ gs, Gs h₀ gs L I m muts news s → It prog w A gs I io n P ∧ Comp2Loop prog w A env scope cl (.ListComp elt (⟨.Name x px, iter, ifs, 0⟩ :: rest) scope pos) gs I o₀ muts J bd s)
    (hQ : ∀ D h'' tk ys k nw, s.heap.get? D = none → J ys nw → Off D nw → ys.length ≤ bd → Fr h₀ L h'' (fun z => if z = y then some (.ref D) else m z) → News h₀ L h'' ((D, listOf ys.toArray k) :: (nw ++ news)) → (∀ p ∈ nw, ∀ q ∈ news, p.1 ≠ q.1) → Q { s with heap := h'', toks := tk }) :
    CompBlock prog w A env scope cl (.ListComp elt (⟨.Name x px, iter, ifs, 0⟩ :: rest) scope pos) (fun acc C => compPost (model prog w) A E (some (assign (.Name y py) env)) (fun _ s' => Q s') acc C) E (.ref I) s := by
  subst hL
  have G := gs_of F N hmn offn
  obtain ⟨it, tn⟩ := turn _ G
  refine comp_blockG J hcell hkind F N offm it h0 hmn offn bd ?_ ?_
  · intro C D h₁ tk hC hD hDI oD F₁ N₁ dn
    exact tn C D h₁ tk _ hC hD hDI oD F₁ N₁ fun mc ys nw h tk' k a b c d e => dn mc ys nw h tk' k a b c d e
  · intro D C h' tk m' ys k nw hD hC hDC hn hj oD hys F' N' kp oC hCL hnw
    refine post_assign hn F' N' oC hCL ?_ hy hp fun h'' tk' F'' N'' _ => hQ D h'' tk' ys k nw hD hj oD hys F'' N'' fun p hp q hq e => ?_
    · cases e : h₀.get? C with
      | none => rfl
      | some o => have := F.keep _ _ e; rw [hC] at this; cases this
    · have a := hnw p hp
      rw [e, G.got q hq] at a; cases a


/-- the outer loop of two -/
def Comp2End (g : Heap) (C I D : Addr) (o : Obj) (J : List Value → Led → Prop) (s₁ s' : Shared) : Prop :=
  ∃ h' tk' m' news' ys' k', s' = { s₁ with heap := h', toks := tk' } ∧ Fr g C h' m' ∧ News g C h' ((I, o) :: (D, listOf ys'.toArray k') :: news') ∧ Off I news' ∧ Off D news' ∧ J ys' news'

theorem cend2 {g h' : Heap} {C I D : Addr} {o : Obj} {J : List Value → Led → Prop} {s₁ : Shared} {tk' : Nat} {m' : Str → Option Value} (news' : Led) {ys' : List Value} {k' : Nat} (F : Fr g C h' m') (N : News g C h' ((I, o) :: (D, listOf ys'.toArray k') :: news')) (oI : Off I news') (oD : Off D news') (j : J ys' news') :
    Comp2End g C I D o J s₁ { s₁ with heap := h', toks := tk' } := ⟨h', tk', m', news', ys', k', rfl, F, N, oI, oD, j⟩
theorem comp2_go {g : Heap} {D : Addr} {R : Result → Shared → Prop} {elt i₁ t₂ i₂ : Expr} {x : Str} {px : Pos} {ifs₂ : List Expr} {pos : Pos} {cenv : Env} {m₀ : Str → Option Value} {news₀ : Led} {o₀ : Obj} {k₀ : Nat} {C : Addr} (J : Nat → List Value → Led → Prop) (hCl : cenv.locals = C)
    (it : It prog w A g I io n P) (hx : cenv.kindOf x = some .local) (hp : (cenv.scope.kind == .class || (cenv.scope.kind == .module && cenv.locals != cenv.globals)) = false)
    (F : Fr g C s.heap m₀) (N : News g C s.heap ((I, o₀) :: (D, listOf ([] : List Value).toArray k₀) :: news₀)) (hDI : D ≠ I) (offI : Off I news₀) (offD : Off D news₀) (h0 : io 0 o₀) (j0 : J 0 [] news₀) (hs : ∀ x, foldedSetIterable i₂ cenv x = pure x)
    (turn : ∀ i v (m : Str → Option Value) news h tk o ys k, i < n → P i v → J i ys news → Off I news → Off D news → Fr g C h (fun y => if y = x then some v else m y) → News g C h ((I, o) :: (D, listOf ys.toArray k) :: news) → io (i + 1) o →
      wpAny (model prog w) A (eval i₂ cenv) (fun xv s₃ => wpAny (model prog w) A (pyIter xv) (fun it' s₄ =>
            codeAny (model prog w) A (.compStart (.ListComp elt [⟨.Name x px, i₁, [], 0⟩, ⟨t₂, i₂, ifs₂, 0⟩] scope pos) 1 it' (.ref D) cenv) (fun r s₅ => match r with | .ok _ => Comp2End g C I D o (J (i + 1)) { s with heap := h, toks := tk } s₅ | .error _ => False) s₄)
            (fun _ _ => False) s₃) (fun _ _ => False) { s with heap := h, toks := tk })
    (done : ∀ (m : Str → Option Value) ys news h tk k, J n ys news → Off D news → Fr g C h m → News g C h ((D, listOf ys.toArray k) :: news) → R (.ok .next) { s with heap := h, toks := tk }) :
    codeAny (model prog w) A (.compLoop (.ListComp elt [⟨.Name x px, i₁, [], 0⟩, ⟨t₂, i₂, ifs₂, 0⟩] scope pos) 0 (.ref I) (.ref D) cenv) R s := by
  subst hCl
  refine outer_loop (n₀ := n) (fun q s' => ∃ i h tk m news o ys k, s' = { s with heap := h, toks := tk } ∧ i ≤ n ∧ q = n - i ∧ J i ys news ∧ Off I news ∧ Off D news ∧ Fr g cenv.locals h m ∧ News g cenv.locals h ((I, o) :: (D, listOf ys.toArray k) :: news) ∧ io i o)
    ⟨0, s.heap, s.toks, m₀, news₀, o₀, [], k₀, rfl, Nat.zero_le _, rfl, j0, offI, offD, F, N, h0⟩ hs ?_
  rintro q s' ⟨i, h, tk, m, news, o, ys, k, rfl, hi, rfl, hj, hoI, hoD, F', N', hio⟩
  have hI := N' _ (.head _)
  have offI' : Off I ((D, listOf ys.toArray k) :: news) := Off.cons hDI hoI
  by_cases hlt : i < n
  · refine it.item i _ o _ _ hlt F'.keep hI.1 hio fun v h₁ tk₁ o₁ hP ho₁ hio₁ hs₁ => ?_
    have F₁ := fr_ext F' hs₁.extBut hI.2.1 hI.2.2
    have N₁ := news_more (news_ext (news_tl N') hs₁.extBut offI') ho₁ hI.2.1 hI.2.2
    refine ⟨fun z => (nomatch z), fun v' e => ?_⟩
    obtain rfl := Option.some.inj e
    refine wpAny_assign_Name (wpAny_storeName_local hx F₁.ns (fun h₂ hn₂ hs₂ => ?_) hp)
    have F₂ := F₁.set hn₂ hs₂
    have N₂ := N₁.set hs₂
    refine wpAny_mono (turn i v m news h₂ _ o₁ ys k hlt hP hj hoI hoD F₂ N₂ hio₁) (fun x s₃ p => wpAny_mono p (fun it' s₄ p₄ => codeAny_mono p₄ fun r s₅ p₅ => ?_) fun _ _ e => e) fun _ _ e => e
    cases r with
    | error e => exact p₅.elim
    | ok f =>
      refine ⟨⟨f, rfl⟩, ?_⟩
      obtain ⟨h', tk', m', news', ys', k', rfl, F₃, N₃, oI₃, oD₃, hj₃⟩ := p₅
      exact ⟨n - (i + 1), by omega, i + 1, h', tk', m', news', o₁, ys', k', rfl, hlt, rfl, hj₃, oI₃, oD₃, F₃, N₃, hio₁⟩
  · have hin : i = n := by omega
    subst hin
    refine it.done _ o _ _ F'.keep hI.1 hio fun h₁ tk₁ he₁ => ?_
    exact ⟨fun _ => done m ys news h₁ tk₁ k hj hoD (fr_ext F' he₁ hI.2.1 hI.2.2) (news_ext (news_tl N') he₁ offI'), fun _ z => nomatch z⟩
end
end

section

section
variable {prog : Program} {w : World} {A : Around} {E : Value → Shared → Prop} {s : Shared} {h₀ : Heap} {I : Addr} {io : Nat → Obj → Prop} {n : Nat} {P : Nat → Value → Prop} {L : Addr} {m : Str → Option Value} {news muts : Led} {env : Env} {scope : Scope} {cl : List (Str × Addr)}

theorem post_assignC {D C c : Addr} {h' : Heap} {tk : Nat} {m' : Str → Option Value} {l : Led} {o : Obj} {v0 : Option Value} {y : Str} {py : Pos} {Q : Shared → Prop} (hn : h'.Ns C m') (F : Fr h₀ L h' m) (N : News h₀ L h' ((c, o) :: l)) (off : Off c l) (oC : Off C ((c, o) :: l)) (hCL : C ≠ L) (hC0 : h₀.get? C = none)
    (hk : env.scope.kind = .function) (hy : env.kindOf y = some .cell) (hc : env.cells.lookup y = some c) (hd : o.data = .cell v0)
    (hQ : ∀ h'' o', Fr h₀ L h'' m → News h₀ L h'' ((c, o') :: l) → o'.data = .cell (some (.ref D)) → Q { s with heap := h'', toks := tk }) :
    compPost (model prog w) A E (some (assign (.Name y py) env)) (fun _ s' => Q s') (.ref D) C (.ok .next) { s with heap := h', toks := tk } := by
  show wpAny _ A (assign (.Name y py) env (.ref D)) _ _ _
  have z := N _ (.head _)
  refine wpAny_assign_Name (wpAny_storeName_cell hk hy hc ⟨o, z.1, hd⟩ fun h₂ hv hs₂ => ?_)
  obtain ⟨o', ho', hd'⟩ := hv
  have hCc : c ≠ C := oC _ (.head _)
  refine ⟨m', hn.sameBut hs₂ (Ne.symm hCc), fun h₃ hs₃ => ?_⟩
  have F2 := fr_ext F hs₂.extBut z.2.1 z.2.2
  have N2 := news_more (news_ext (news_tl N) hs₂.extBut off) ho' z.2.1 z.2.2
  refine hQ h₃ o' (fr_ext F2 hs₃.extBut hCL hC0) (news_ext N2 hs₃.extBut ?_) hd'
  exact Off.cons hCc fun p hp => oC p (.tail _ hp)

theorem comp_c {elt iter : Expr} {x y : Str} {px py : Pos} {ifs : List Expr} {pos : Pos} {o₀ oc : Obj} {c : Addr} {v0 : Option Value} {Q : Shared → Prop} (J : Nat → List Value → Led → Prop)
    (hcell : ∀ y ∈ scope.names, y.2 ≠ .cell) (hkind : scope.kind = .function) (hx : scope.names.lookup x = some .local)
    (hk : env.scope.kind = .function) (hy : env.kindOf y = some .cell) (hc : env.cells.lookup y = some c) (hd : oc.data = .cell v0) (offc : Off c news)
    (F : Fr h₀ L s.heap m) (N : News h₀ L s.heap ((I, o₀) :: (muts ++ ((c, oc) :: news)))) (offm : Off I muts) (h0 : io 0 o₀) (hmn : ∀ p ∈ muts, Off p.1 ((c, oc) :: news)) (offn : Off I ((c, oc) :: news)) (j0 : J 0 [] muts) (hsz : n ≤ 1000000)
    (turn : ∀ gs, Gs h₀ gs L I m muts ((c, oc) :: news) s → It prog w A gs I io n P ∧ CompTurn prog w A env scope cl x ifs elt gs I io n P J s)
    (hL : env.locals = L)
    (hQ : ∀ D h'' tk ys k nw o', s.heap.get? D = none → J n ys nw → Off D nw → ys.length ≤ n → Fr h₀ L h'' m → News h₀ L h'' ((c, o') :: (D, listOf ys.toArray k) :: (nw ++ news)) → o'.data = .cell (some (.ref D)) → (∀ p ∈ nw, ∀ q ∈ ((c, oc) :: news), p.1 ≠ q.1) → Q { s with heap := h'', toks := tk }) :
    CompBlock prog w A env scope cl (.ListComp elt [⟨.Name x px, iter, ifs, 0⟩] scope pos) (fun acc C => compPost (model prog w) A E (some (assign (.Name y py) env)) (fun _ s' => Q s') acc C) E (.ref I) s := by
  subst hL
  have G := gs_of F N hmn offn
  obtain ⟨it, tn⟩ := turn _ G
  refine comp_block J hcell hkind hx F N offm it h0 hmn offn j0 hsz ?_ ?_
  · intro C D hC hD i v mc nw h tk o ys k
    exact tn C D i v mc nw h tk o ys k hC hD
  · intro D C h' tk m' ys k nw hD hC hDC hn hj oD hys F' N' kp oC hCL hnw
    have hc0 := (N (c, oc) (.tail _ (List.mem_append_right _ (.head _)))).1
    have apart : ∀ p ∈ nw, ∀ q ∈ ((c, oc) :: news), p.1 ≠ q.1 := fun p hp q hq e => by
      have a := hnw p hp
      rw [e, G.got q hq] at a; cases a
    have sub : ∀ p ∈ (c, oc) :: (D, listOf ys.toArray k) :: (nw ++ news), p ∈ (D, listOf ys.toArray k) :: (nw ++ ((c, oc) :: news)) := by
      intro p hp
      simp only [List.mem_cons, List.mem_append] at hp ⊢
      rcases hp with h | h | h | h
      · exact .inr (.inr (.inl h))
      · exact .inl h
      · exact .inr (.inl h)
      · exact .inr (.inr (.inr h))
    refine post_assignC hn F' (nsub N' sub) (Off.cons (fun e => ?_) (Off.append (fun p hp e => apart p hp _ (.head _) e) offc)) (fun p hp => oC p (sub p hp)) hCL ?_ hk hy hc hd fun h'' o' F'' N'' d' => hQ D h'' tk ys k nw o' hD hj oD hys F'' N'' d' apart
    · rw [e, hc0] at hD; cases hD
    · cases e : h₀.get? C with
      | none => rfl
      | some o => have := F.keep _ _ e; rw [hC] at this; cases this
end
end

section

section
variable {prog : Program} {w : World} {A : Around} {E : Value → Shared → Prop} {s : Shared} {K : Frag} {Q : Value → Shared → Prop}
  {name qual : Str} {params : Arguments} {body : List Stmt} {scope : Scope} {dV kV doc pm cdv ct oc : Value} {an od : Option Addr} {osl : Array (Option Value)} {f : Addr} {args : List Value} {binds : List (Str × Value)} {g : Heap}

/-- a call of a def with cells -/
theorem enterC (X : K.In g) (hlim : g.NoLimit) (hg : Kp g s.heap) (hgs : g.objs.size ≤ s.heap.objs.size)
    (ho : K.lookup f = some ⟨oc, od, .func (fnOf name qual params body scope dV kV doc pm an cdv ct), osl⟩) (hcd : codeIn K cdv qual = true) (hroom : A.depth < recursionLimit)
    (hbind : BindsTo s (fnOf name qual params body scope dV kV doc pm an cdv ct) ⟨args, []⟩ binds) (hkind : (binds.all fun y => scope.names.lookup y.1 == some .local || scope.names.lookup y.1 == some .cell) = true)
    (hnd : ((cellsFrom 0 scope.names []).map (·.1)).Nodup)
    (h : ∀ L h₁ tk cells, Fr g L h₁ (bindL (envOfC qual scope L f cdv).kindOf binds fun _ => none) → News g L h₁ cells → CellsAre (bindC (envOfC qual scope L f cdv).kindOf binds fun _ => none) (cellsFrom (L + 1) scope.names []) cells → L = s.heap.objs.size → Kp s.heap h₁ →
      (∀ p ∈ cells, s.heap.get? p.1 = none) →
      wpAny (model prog w) (A.deeper (envOfC qual scope L f cdv)) (execs body (envOfC qual scope L f cdv))
        (fun fl s' => Q (match fl with | .ret v => v | _ => .none) s') (fun _ _ => False)
        { s with heap := h₁, toks := tk })
    (hco : scope.isCoroutine = false) (hgen : scope.isGenerator = false) (hk : scope.kind = .function) : wpAny (model prog w) A (call (.ref f) args []) Q E s := by
  refine wpAny_call ?_
  refine codeAny_call_function hroom (hg _ _ (X _ _ ho)) rfl hco hgen rfl (codeRec_of (X.keeps hg) hcd) (hbind _ _ _ _ ?_)
  refine wpAny_newFunctionEnv_cells hk (kindsX hkind _) fun env' he s' x => ?_
  subst he
  refine ⟨(hlim.keeps hg).keeps x.toInCall.keep, codeAny_func ?_⟩
  obtain ⟨h₁, tk, rfl, _⟩ := x.done
  have hk₁ := x.toInCall.keep
  obtain ⟨cells, NC, Y⟩ := Cl.news (h₀ := s.heap) (Nat.le_refl _) fun n c hm => ⟨x.cell n c (lookup_of_mem_nodup (cellsFrom_names scope.names 0 (s.heap.objs.size + 1) [] [] rfl ▸ hnd) hm), x.above n c hm⟩
  refine wpAny_mono (h _ h₁ tk cells ⟨x.toInCall.ns, fun b o e => hk₁ b o (hg b o e), hgs⟩ (fun p hp => ⟨(NC p hp).1, (NC p hp).2.1, ?_⟩) Y rfl hk₁ fun p hp => (NC p hp).2.2) (fun _ _ y => y) fun _ _ y => y.elim
  cases q : g.get? p.1 with
  | none => rfl
  | some o => have := hg _ _ q; rw [(NC p hp).2.2] at this; cases this
end

/-- what stands in a heap -/
def Has (h : Heap) (l : Led) : Prop := ∀ p ∈ l, h.get? p.1 = some p.2
theorem Has.nil {h : Heap} : Has h [] := fun _ q => nomatch q
theorem Has.keeps {h h' : Heap} {l : Led} (x : Has h l) (k : Kp h h') : Has h' l := fun p hp => k _ _ (x p hp)
theorem Has.sub {h : Heap} {l l' : Led} (x : Has h l') (s : ∀ p ∈ l, p ∈ l') : Has h l := fun p hp => x p (s p hp)
theorem Has.app {h : Heap} {l l' : Led} (x : Has h l) (y : Has h l') : Has h (l ++ l') := fun p hp => (List.mem_append.mp hp).elim (x p) (y p)
theorem has_news {g h : Heap} {L : Addr} {l : Led} (N : News g L h l) : Has h l := fun p hp => (N p hp).1
theorem Has.news {h : Heap} {l : Led} (x : Has h l) : News ⟨#[], {}⟩ h.objs.size h l := fun p hp => ⟨x p hp, Nat.ne_of_lt (Heap.lt_size (x p hp)), rfl⟩
theorem Has.list {h : Heap} {l : Led} (x : Has h l) {a : Addr} {xs : Array Value} {n : Nat} (q : (a, listOf xs n) ∈ l) : h.IsList a xs := ⟨_, x _ q, rfl, n, rfl⟩

end

section

def lz (ns : List Int) : Dat := .list (ns.map .int)
def lzz (rows : List (List Int)) : Dat := .list (rows.map lz)
theorem lz_ok (ns : List Int) : ∀ d ∈ ns.map Dat.int, kqdOk 8 d = true := by
  intro d hd; obtain ⟨x, _, rfl⟩ := List.mem_map.mp hd; rfl
theorem lz_ok' (ns : List Int) (k : Nat) : kqdOk (k + 1) (lz ns) = true := by
  simp [lz, kqdOk]
theorem lzz_ok (rows : List (List Int)) : ∀ d ∈ rows.map lz, kqdOk 8 d = true := by
  intro d hd; obtain ⟨x, _, rfl⟩ := List.mem_map.mp hd; exact lz_ok' _ _
theorem int_inj {a b : Int} (h : Dat.int a = Dat.int b) : a = b := by cases h; rfl
theorem mem_ints {n : Int} {ns : List Int} : Dat.int n ∈ ns.map Dat.int ↔ n ∈ ns := by
  constructor
  · intro h; obtain ⟨x, hx, e⟩ := List.mem_map.mp h; rw [← int_inj e]; exact hx
  · exact fun h => List.mem_map_of_mem h
theorem map_int_inj : ∀ {a b : List Int}, a.map Dat.int = b.map Dat.int → a = b
  | [], [], _ => rfl
  | [], _ :: _, h => by cases h
  | _ :: _, [], h => by cases h
  | x :: a, y :: b, h => by
    rw [List.map_cons, List.map_cons] at h
    obtain ⟨h1, h2⟩ := List.cons.inj h
    rw [int_inj h1, map_int_inj h2]
theorem lz_inj {a b : List Int} (h : lz a = lz b) : a = b := by
  unfold lz at h; exact map_int_inj (Dat.list.inj h)
theorem map_lz_inj : ∀ {a b : List (List Int)}, a.map lz = b.map lz → a = b
  | [], [], _ => rfl
  | [], _ :: _, h => by cases h
  | _ :: _, [], h => by cases h
  | x :: a, y :: b, h => by
    rw [List.map_cons, List.map_cons] at h
    obtain ⟨h1, h2⟩ := List.cons.inj h
    rw [lz_inj h1, map_lz_inj h2]
theorem mem_rows {r : List Int} {rows : List (List Int)} : lz r ∈ rows.map lz ↔ r ∈ rows := by
  constructor
  · intro h; obtain ⟨x, hx, e⟩ := List.mem_map.mp h; rw [← lz_inj e]; exact hx
  · exact fun h => List.mem_map_of_mem h

theorem datIn_list {l : Led} {v : Value} {ds : List Dat} (h : DatIn l v (.list ds)) : ∃ a vs n, v = .ref a ∧ (a, listOf vs.toArray n) ∈ l ∧ DatAll l vs ds := by
  cases h with
  | list hm hr => exact ⟨_, _, _, rfl, hm, hr⟩
theorem datIn_int {l : Led} {v : Value} {i : Int} (h : DatIn l v (.int i)) : ∃ t, v = .int i t := by
  cases h; exact ⟨_, rfl⟩

section
variable {prog : Program} {w : World} {A : Around} {E : Value → Shared → Prop} {s : Shared} {Q : Value → Shared → Prop} {l : Led}

theorem in_z {num : Int} {t : Tok} {a : Addr} {row : List Int} (H : Has s.heap l) (hr : DatIn l (.ref a) (lz row)) (hu : A.units + 64 < cLine) (h : Q (.bool (row.contains num)) s) : wpAny (model prog w) A (compareOp .In (.int num t) (.ref a)) Q E s := by
  obtain ⟨a', vs, n, e, hm, hv⟩ := datIn_list hr
  cases e
  have q : ∀ i : Decidable (Dat.int num ∈ row.map Dat.int), @decide _ i = row.contains num := fun i => by
    rw [Bool.eq_iff_iff]; simp [mem_ints]
  exact kqd_isIn (n₂ := []) H.news hm rfl rfl hv (fun _ z => z) (DatIn.int num t) (fun _ z => nomatch z) (lz_ok _) rfl hu (by rw [q]; exact h)
theorem notin_z {num : Int} {t : Tok} {a : Addr} {row : List Int} (H : Has s.heap l) (hr : DatIn l (.ref a) (lz row)) (hu : A.units + 64 < cLine) (h : Q (.bool (!row.contains num)) s) : wpAny (model prog w) A (compareOp .NotIn (.int num t) (.ref a)) Q E s := by
  obtain ⟨a', vs, n, e, hm, hv⟩ := datIn_list hr
  cases e
  have q : ∀ i : Decidable (Dat.int num ∈ row.map Dat.int), @decide _ i = row.contains num := fun i => by
    rw [Bool.eq_iff_iff]; simp [mem_ints]
  exact kqd_notIn (n₂ := []) H.news hm rfl rfl hv (fun _ z => z) (DatIn.int num t) (fun _ z => nomatch z) (lz_ok _) rfl hu (by rw [q]; exact h)

/-- the dict of what must stand ahead -/
def AheadIs (prog : Program) (w : World) (l : Led) (a : Addr) (ah : List (Int × List Int)) : Prop :=
  ∃ o kvs, (a, o) ∈ l ∧ o.IsDictOf (intKind prog w) kvs ∧ kvs.map (·.1) = ah.map (·.1) ∧ DatAll l (kvs.map (·.2)) (ah.map fun p => lz p.2)
theorem AheadIs.mono {l' : Led} {a : Addr} {ah : List (Int × List Int)} (x : AheadIs prog w l a ah) (hs : ∀ p ∈ l, p ∈ l') : AheadIs prog w l' a ah :=
  let ⟨o, kvs, h1, h2, h3, h4⟩ := x; ⟨o, kvs, hs _ h1, h2, h3, h4.mono hs⟩

theorem lookup_vals {num : Int} {ahk : List Int} : ∀ {kvs : List (Int × Value)} {ah : List (Int × List Int)}, kvs.map (·.1) = ah.map (·.1) → DatAll l (kvs.map (·.2)) (ah.map fun p => lz p.2) → ah.lookup num = some ahk → ∃ v, valueAt kvs num = some v ∧ DatIn l v (lz ahk)
  | [], [], _, _, h => by cases h
  | [], _ :: _, h, _, _ => by cases h
  | _ :: _, [], h, _, _ => by cases h
  | (k, v) :: kvs, (k', x) :: ah, h, hd, hl => by
    rw [List.map_cons, List.map_cons] at h
    obtain ⟨h1, h2⟩ := List.cons.inj h
    dsimp only at h1
    subst h1
    cases hd with
    | cons d1 d2 =>
      by_cases e : num = k
      · subst e
        rw [List.lookup_cons, beq_self_eq_true] at hl
        obtain rfl := Option.some.inj hl
        exact ⟨v, by simp [valueAt], d1⟩
      · have eb : (num == k) = false := by simpa using e
        rw [List.lookup_cons, eb] at hl
        obtain ⟨v', q1, q2⟩ := lookup_vals h2 d2 hl
        exact ⟨v', by simp only [valueAt, List.find?_cons] at q1 ⊢; simpa [Ne.symm e] using q1, q2⟩

theorem ahead_item {num : Int} {t : Tok} {a : Addr} {ah : List (Int × List Int)} {ahk : List Int} {value slice : Expr} (H : Has s.heap l) (ha : AheadIs prog w l a ah) (hk : ah.lookup num = some ahk)
    (h : ∀ v, DatIn l v (lz ahk) → Q v { s with toks := s.toks + 1 })
    (hs : subscripted slice false (.ref a) (.int num t) = operate [.ref a, .int num t] (getItem (.ref a) (.int num t)) := by with_unfolding_all rfl) :
    wpAny (model prog w) A (subscriptTail value slice (.ref a) (.int num t)) Q E s := by
  obtain ⟨o, kvs, hm, hd, e1, e2⟩ := ha
  obtain ⟨v, hv, dv⟩ := lookup_vals e1 e2 hk
  have hD : s.heap.DictOf (intKind prog w) a kvs := Heap.dictOf_iff.mpr ⟨o, H _ hm, hd⟩
  exact tail_any hD.mapOf.typeIs slot_dict_getitem.lookup (wpAny_getItem_of (intKind_is prog w num t) hD.mapOf hv (h v dv)) hs
end
end

section
section
variable {M : Model} {A : Around} {E : Value → Shared → Prop} {s : Shared} {Q : Value → Shared → Prop} {g : Heap} {m : Str → Option Value} {env : Env} {x : Str} {pos : Pos} {v : Value} {c L : Addr} {o : Obj} {news : Led}
theorem nm_local (F : Fr g env.locals s.heap m) (hl : env.kindOf x = some .local) (hk : env.scope.kind = .function) (hd : (x == ("__debug__" : Str)) = false) (hv : m x = some v) (h : Q v s) :
    wpAny M A (eval (.Name x pos) env) Q E s := wpAny_Name (wpAny_loadName_local hk hl F.ns hv h) hd
theorem nm_cell (F : Fr g L s.heap m) (hl : env.kindOf x = some .cell) (hk : env.scope.kind = .function) (hd : (x == ("__debug__" : Str)) = false) (hc : env.cells.lookup x = some c) (hg : g.get? c = some o) (ho : o.data = .cell (some v)) (h : Q v s) :
    wpAny M A (eval (.Name x pos) env) Q E s := wpAny_Name (wpAny_loadName_cell hk hl hc ⟨o, F.keep _ _ hg, ho⟩ h) hd
theorem nm_cellN (N : News g L s.heap news) (hl : env.kindOf x = some .cell) (hk : env.scope.kind = .function) (hd : (x == ("__debug__" : Str)) = false) (hc : env.cells.lookup x = some c) (hg : (c, o) ∈ news) (ho : o.data = .cell (some v)) (h : Q v s) :
    wpAny M A (eval (.Name x pos) env) Q E s := wpAny_Name (wpAny_loadName_cell hk hl hc ⟨o, (N _ hg).1, ho⟩ h) hd
theorem nm_glob {K : Frag} {p : Program} {loose : List Str} {mg mb : Str → Option Value} (F : Fr g L s.heap m) (hx : env.kindOf x = some .globalImplicit) (hk : env.scope.kind = .function) (hg : env.globals = mainGlobals) (hd : (x == ("__debug__" : Str)) = false)
    (X : K.In g) (T : TopRead p loose mg mb g) (e : nsIn K mainGlobals x = some (some v)) (h : Q v s) : wpAny M A (eval (.Name x pos) env) Q E s :=
  nameG_K F X T e h hg hk hx hd
theorem nm_boot {K : Frag} {p : Program} {loose : List Str} {mg mb : Str → Option Value} (F : Fr g L s.heap m) (hx : env.kindOf x = some .globalImplicit) (hk : env.scope.kind = .function) (hg : env.globals = mainGlobals) (hb : env.builtins = builtinsNs) (hd : (x == ("__debug__" : Str)) = false)
    (X : K.In g) (T : TopRead p loose mg mb g) (e : nsIn K mainGlobals x = some none) (hv : bootBuiltins x = some v) (hn : x ≠ "__name__") (h : Q v s) : wpAny M A (eval (.Name x pos) env) Q E s :=
  Name_function_global hk hx (loadGlobal_builtin (env := env) (by rw [hg]; exact T.g.keeps F.keep) (mg_none_of X T.g e) (by rw [hb]; exact T.b.keeps F.keep) ((T.builtins x hn).trans hv) h) hd
end
end

section

theorem datAll_take {l : Led} : ∀ {vs : List Value} {ds : List Dat} (n : Nat), DatAll l vs ds → DatAll l (vs.take n) (ds.take n)
  | _, _, 0, _ => by simpa using DatAll.nil
  | [], _, n + 1, h => by cases h; simpa using DatAll.nil
  | _ :: _, _, n + 1, h => by cases h with | cons a b => simpa using DatAll.cons a (datAll_take n b)
theorem datAll_drop {l : Led} : ∀ {vs : List Value} {ds : List Dat} (n : Nat), DatAll l vs ds → DatAll l (vs.drop n) (ds.drop n)
  | _, _, 0, h => by simpa using h
  | [], _, n + 1, h => by cases h; simpa using DatAll.nil
  | _ :: _, _, n + 1, h => by cases h with | cons a b => simpa using datAll_drop n b
theorem datAll_rev {l : Led} {vs : List Value} {ds : List Dat} (h : DatAll l vs ds) : DatAll l vs.reverse ds.reverse := by
  induction vs generalizing ds with
  | nil => cases h; simpa using DatAll.nil
  | cons v vs ih => cases h with | cons a b => simpa using DatAll.append (ih b) (DatAll.one a)
theorem datAll_ints {l : Led} {vs : List Value} {ns : List Int} (h : DatAll l vs (ns.map Dat.int)) : IntsAre vs ns := by
  induction vs generalizing ns with
  | nil => cases ns with | nil => exact .nil | cons _ _ => cases h
  | cons v vs ih =>
    cases ns with
    | nil => cases h
    | cons n ns =>
      cases h with
      | cons a b => obtain ⟨t, rfl⟩ := datIn_int a; exact .cons n t (ih b)
theorem ints_datAll {l : Led} : ∀ {vs : List Value} {ns : List Int}, IntsAre vs ns → DatAll l vs (ns.map Dat.int)
  | _, _, .nil => .nil
  | _, _, .cons n t r => .cons (.int n t) (ints_datAll r)
theorem lz_in {l : Led} {a : Addr} {vs : List Value} {n : Nat} {ns : List Int} (h : (a, listOf vs.toArray n) ∈ l) (hi : IntsAre vs ns) : DatIn l (.ref a) (lz ns) := .list h (ints_datAll hi)

/-- what a call has made goes onto the caller's ledger -/
theorem news_new {g h h' : Heap} {L : Addr} {m : Str → Option Value} {l' : Led} (F : Fr g L h m) (H : Has h' l') (fr : ∀ p ∈ l', h.get? p.1 = none) : News g L h' l' := fun p hp => by
  refine ⟨H p hp, ?_, ?_⟩
  · rintro e
    obtain ⟨o, _, _, ho, _⟩ := F.ns
    have := fr p hp; rw [e, ho] at this; cases this
  · cases e : g.get? p.1 with
    | none => rfl
    | some o => have := fr p hp; rw [F.keep _ _ e] at this; cases this
theorem off_new {h : Heap} {l' : Led} {d : Addr} {o : Obj} (fr : ∀ p ∈ l', h.get? p.1 = none) (e : h.get? d = some o) : Off d l' := fun p hp q => by
  have := fr p hp; rw [q, e] at this; cases this

section
variable {prog : Program} {w : World} {A : Around} {E : Value → Shared → Prop} {s : Shared} {g : Heap} {L D : Addr} {m : Str → Option Value} {news : Led}
theorem setItem_D {o : Obj} {kvs : List (Int × Value)} {k : Int} {t : Tok} {v : Value} {Q : Unit → Shared → Prop} (F : Fr g L s.heap m) (N : News g L s.heap ((D, o) :: news)) (off : Off D news) (hd : o.IsDictOf (intKind prog w) kvs) (hsz : kvs.length ≤ 1000000)
    (h : ∀ h' o', Fr g L h' m → News g L h' ((D, o') :: news) → o'.IsDictOf (intKind prog w) (stored kvs k v) → Q () { s with heap := h', toks := s.toks + 1 }) : wpAny (model prog w) A (setItem (.ref D) (.int k t) v) Q E s := by
  have z := N _ (.head _)
  have hD : s.heap.DictOf (intKind prog w) D kvs := Heap.dictOf_iff.mpr ⟨o, z.1, hd⟩
  refine wpAny_setItem_pairs (intKind_is prog w k t) hD (fun h' hmm hs => ?_) (by exact Nat.le_trans hsz (by decide))
  obtain ⟨o', ho', hd'⟩ := Heap.dictOf_iff.mp hmm
  exact h h' o' (fr_ext F hs.extBut z.2.1 z.2.2) (news_more (news_ext (news_tl N) hs.extBut off) ho' z.2.1 z.2.2) hd'

theorem item_D {l : Led} {a : Addr} {ds : List Dat} {k : Int} {u : Tok} {d : Dat} {value slice : Expr} {Q : Value → Shared → Prop} (H : Has s.heap l) (hd : DatIn l (.ref a) (.list ds)) (h0 : 0 ≤ k) (hk : ds[k.toNat]? = some d) (hfit : k < 2 ^ 62)
    (h : ∀ v, DatIn l v d → Q v s)
    (hs : subscripted slice false (.ref a) (.int k u) = operate [.ref a, .int k u] (getItem (.ref a) (.int k u)) := by with_unfolding_all rfl) :
    wpAny (model prog w) A (subscriptTail value slice (.ref a) (.int k u)) Q E s := by
  obtain ⟨a', vs, n, e, hm, hv⟩ := datIn_list hd
  cases e
  obtain ⟨hlt, e⟩ := List.getElem?_eq_some_iff.mp hk
  obtain ⟨v, q1, q2⟩ := hv.get hlt
  rw [e] at q2
  exact item_litK (H.list hm) h0 (by omega) q1 (h v q2) hs

theorem cut_D {l : Addr} {vs : List Value} {vl vu : Value} {lo hi : Option Int} {value slice : Expr} {Q : Value → Shared → Prop} (zs : List Value) (F : Fr g L s.heap m) (N : News g L s.heap news) (hl : s.heap.IsList l vs.toArray) (pl : IsPart vl lo) (pu : IsPart vu hi)
    (e : (slicePick vs.toArray lo hi none).toList = zs) (hz : vs.length ≤ 1000000)
    (h : ∀ D h', Fr g L h' m → News g L h' ((D, listOf zs.toArray 0) :: news) → (∀ p ∈ news, p.1 < D) → s.heap.get? D = none → Q (.ref D) { s with heap := h' })
    (hs : subscripted slice false (.ref l) (.ref s.heap.objs.size) = operate [.ref s.heap.objs.size, .ref l] (getItem (.ref l) (.ref s.heap.objs.size))) (ht : ∀ r, letTemporaryGo value (.ref l) r = pure ()) :
    wpAny (model prog w) A (subscriptTail value slice (.ref l) (.ref s.heap.objs.size)) Q E { s with heap := s.heap.push { cls := .type "slice", data := .fields #[vl, vu, .none] } } := by
  subst e
  refine slice_list F N hl pl pu (fun h' F' N' => ?_) hs ht (by rw [List.size_toArray]; exact Nat.le_trans hz (by decide))
  exact h _ h' F' (by rw [Array.toArray_toList]; exact N') (fun p hp => Nat.lt_succ_of_lt (Heap.lt_size (N p hp).1)) (none_of_le (Nat.le_succ _))
theorem pick_upto (vs : List Value) {y : Int} (h : 0 ≤ y) : (slicePick vs.toArray none (some y) none).toList = vs.take y.toNat := by
  obtain ⟨k, rfl⟩ := Int.eq_ofNat_of_zero_le h
  rw [slicePick_upto']; simp
theorem pick_from (vs : List Value) {y : Int} (h : 0 ≤ y) : (slicePick vs.toArray (some y) none none).toList = vs.drop y.toNat := by
  obtain ⟨k, rfl⟩ := Int.eq_ofNat_of_zero_le h
  rw [slicePick_from']; simp
theorem pick_butlast (vs : List Value) : (slicePick vs.toArray none (some (-1)) none).toList = vs.dropLast := by
  have := slicePick_butLast vs.toArray 1 (Nat.le_refl _)
  rw [show (-((1 : Nat) : Int)) = -1 from rfl] at this
  rw [this]; simp [List.dropLast_eq_take]

section
variable {l : Addr} {vs : List Value} {y : Int} {u : Tok} {value slice : Expr} {Q : Value → Shared → Prop}
theorem cut_upto (F : Fr g L s.heap m) (N : News g L s.heap news) (hl : s.heap.IsList l vs.toArray) (h0 : 0 ≤ y) (hz : vs.length ≤ 1000000)
    (h : ∀ D h', Fr g L h' m → News g L h' ((D, listOf (vs.take y.toNat).toArray 0) :: news) → (∀ p ∈ news, p.1 < D) → s.heap.get? D = none → Q (.ref D) { s with heap := h' })
    (hs : subscripted slice false (.ref l) (.ref s.heap.objs.size) = operate [.ref s.heap.objs.size, .ref l] (getItem (.ref l) (.ref s.heap.objs.size))) (ht : ∀ r, letTemporaryGo value (.ref l) r = pure ()) :
    wpAny (model prog w) A (subscriptTail value slice (.ref l) (.ref s.heap.objs.size)) Q E { s with heap := s.heap.push { cls := .type "slice", data := .fields #[.none, .int y u, .none] } } :=
  cut_D _ F N hl .none (.int _ _) (pick_upto vs h0) hz h hs ht
theorem cut_from (F : Fr g L s.heap m) (N : News g L s.heap news) (hl : s.heap.IsList l vs.toArray) (h0 : 0 ≤ y) (hz : vs.length ≤ 1000000)
    (h : ∀ D h', Fr g L h' m → News g L h' ((D, listOf (vs.drop y.toNat).toArray 0) :: news) → (∀ p ∈ news, p.1 < D) → s.heap.get? D = none → Q (.ref D) { s with heap := h' })
    (hs : subscripted slice false (.ref l) (.ref s.heap.objs.size) = operate [.ref s.heap.objs.size, .ref l] (getItem (.ref l) (.ref s.heap.objs.size))) (ht : ∀ r, letTemporaryGo value (.ref l) r = pure ()) :
    wpAny (model prog w) A (subscriptTail value slice (.ref l) (.ref s.heap.objs.size)) Q E { s with heap := s.heap.push { cls := .type "slice", data := .fields #[.int y u, .none, .none] } } :=
  cut_D _ F N hl (.int _ _) .none (pick_from vs h0) hz h hs ht
theorem cut_last (F : Fr g L s.heap m) (N : News g L s.heap news) (hl : s.heap.IsList l vs.toArray) (hz : vs.length ≤ 1000000)
    (h : ∀ D h', Fr g L h' m → News g L h' ((D, listOf vs.dropLast.toArray 0) :: news) → (∀ p ∈ news, p.1 < D) → s.heap.get? D = none → Q (.ref D) { s with heap := h' })
    (hs : subscripted slice false (.ref l) (.ref s.heap.objs.size) = operate [.ref s.heap.objs.size, .ref l] (getItem (.ref l) (.ref s.heap.objs.size))) (ht : ∀ r, letTemporaryGo value (.ref l) r = pure ()) :
    wpAny (model prog w) A (subscriptTail value slice (.ref l) (.ref s.heap.objs.size)) Q E { s with heap := s.heap.push { cls := .type "slice", data := .fields #[.none, .int (-1) u, .none] } } :=
  cut_D _ F N hl .none (.int _ _) (pick_butlast vs) hz h hs ht
end

theorem newList_D {vs : List Value} {Q : Value → Shared → Prop} (F : Fr g L s.heap m) (N : News g L s.heap news) (hsz : vs.length ≤ 1000000)
    (h : ∀ D h', Fr g L h' m → News g L h' ((D, listOf vs.toArray 0) :: news) → (∀ p ∈ news, p.1 < D) → s.heap.get? D = none → Q (.ref D) { s with heap := h' }) : wpAny (model prog w) A (newList vs) Q E s := by
  refine newList_N F N (fun h' F' N' => h _ h' F' N' (fun p hp => Heap.lt_size (N p hp).1) none_of_size) (Nat.le_trans hsz (by decide))

theorem add_D {a b : Addr} {xs ys : List Value} {Q : Value → Shared → Prop} (F : Fr g L s.heap m) (N : News g L s.heap news) (ha : s.heap.IsList a xs.toArray) (hb : s.heap.IsList b ys.toArray) (hsz : xs.length + ys.length ≤ 1000000)
    (h : ∀ D h', Fr g L h' m → News g L h' ((D, listOf (xs ++ ys).toArray 0) :: news) → (∀ p ∈ news, p.1 < D) → s.heap.get? D = none → Q (.ref D) { s with heap := h' }) :
    wpAny (model prog w) A (binaryOp .Add (.ref a) (.ref b)) Q E s := by
  refine add_lists F N ha hb (fun h' F' N' => h _ h' F' N' (fun p hp => Heap.lt_size (N p hp).1) none_of_size) (Nat.le_trans hsz (by decide))
end

theorem kf_ints_of : ∀ {vs : List Value} {ns : List Int}, IntsAre vs ns → kf_ints vs = true
  | _, _, .nil => rfl
  | _, _, .cons _ _ r => by have := kf_ints_of r; exact this
theorem kf_at_of {k : Int} : ∀ {vs : List Value} {ns : List Int}, IntsAre vs ns → k ∈ ns → kf_at k vs = some (ns.idxOf k)
  | _, _, .nil, h => nomatch h
  | _, _, .cons (vs := vs) (ns := ns) n t r, h => by
    unfold kf_at
    by_cases e : n = k
    · subst e; simp [isInt]
    · have hk : k ∈ ns := by
        rcases List.mem_cons.mp h with h | h
        · exact absurd h.symm e
        · exact h
      have eb : isInt k (.int n t) = false := by simp [isInt, e]
      rw [eb, kf_at_of r hk, List.idxOf_cons]
      have : (n == k) = false := by simpa using e
      rw [this]; rfl
section
variable {prog : Program} {w : World} {A : Around} {E : Value → Shared → Prop} {s : Shared} {Q : Value → Shared → Prop} {l : Led}
theorem index_z {a : Addr} {vs : List Value} {n : Nat} {ns : List Int} {k : Int} {t : Tok} (H : Has s.heap l) (hm : (a, listOf vs.toArray n) ∈ l) (hi : IntsAre vs ns) (hk : k ∈ ns) (hz : vs.length ≤ 1000000)
    (h : Q (.int (ns.idxOf k : Nat) s.toks) { s with toks := s.toks + 1 }) : wpAny (model prog w) A (call (.builtin "list.index") [.ref a, .int k t]) Q E s :=
  kf_index H.news hm (by simpa using kf_ints_of hi) (by simpa using kf_at_of hi hk) rfl (by simpa using Nat.le_trans hz (by decide)) h
theorem len_L {a : Addr} {vs : List Value} {n : Nat} (hl : s.heap.IsList a vs.toArray) (e : vs.length = n) (hz : n ≤ 1000000) (h : Q (.int n (s.toks + 1)) { s with toks := s.toks + 1 + 1 }) : wpAny (model prog w) A (call (.builtin "len") [.ref a]) Q E s := by
  have e' : vs.toArray.size = n := by rw [List.size_toArray]; exact e
  exact call_len_list hl (by rw [e']; omega) (by rw [e']; exact h)
end
end

local macro_rules | `(tactic| walk_at "mine") => `(tactic| repeat' (
   (fail_if_success (with_reducible show wpAny _ _ (exec (Stmt.For _ _ _ _ _) _) _ _ _));
   (fail_if_success (with_reducible show wpAny _ _ (exec (Stmt.While _ _ _ _) _) _ _ _));
   (fail_if_success (with_reducible show wpAny _ _ (eval (Expr.ListComp _ _ _ _) _) _ _ _));
   (fail_if_success (with_reducible show wpAny _ _ (exec (Stmt.Assign _ (Expr.ListComp _ _ _ _) _) _) _ _ _));
   (fail_if_success (with_reducible show wpAny _ _ (call (Value.ref _) _ _) _ _ _));
   (fail_if_success (with_reducible show wpAny _ _ (call (Value.type "range") _ _) _ _ _));
   (fail_if_success (with_reducible show wpAny _ _ (pyIter _) _ _ _));
   (fail_if_success (with_reducible show wpAny _ _ (newList _) _ _ _));
   (fail_if_success (with_reducible show wpAny _ _ (getMethod (Value.ref _) (PySem.Str.ofString "index") _) _ _ _));
   (fail_if_success (with_reducible show wpAny _ _ (getMethod (Value.ref _) (PySem.Str.ofString "pop") _) _ _ _));
   (fail_if_success (with_reducible show wpAny _ _ (call (Value.builtin "list.append") _ _) _ _ _));
   (fail_if_success (with_reducible show wpAny _ _ (call (Value.builtin "list.pop") _ _) _ _ _));
   (fail_if_success (with_reducible show wpAny _ _ (call (Value.builtin "list.index") _ _) _ _ _));
   (fail_if_success (with_reducible show wpAny _ _ (call (Value.builtin "sorted") _ _) _ _ _));
   (fail_if_success (with_reducible show wpAny _ _ (call (Value.type "list") _ _) _ _ _));
   (fail_if_success (with_reducible show wpAny _ _ (compareOp _ (Value.ref _) (Value.ref _)) _ _ _));
   (fail_if_success (with_reducible show wpAny _ _ (eval (Expr.Dict _ _ _) _) _ _ _));
   (fail_if_success (with_reducible show wpAny _ _ (subscriptTail _ (Expr.Slice _ _ _ _) _ _) _ _ _));
   (fail_if_success (with_reducible show wpAny _ _ (binaryOp Operator.Add (Value.ref _) _) _ _ _));
   first | (k_unfold; (try dsimp only)) | walk1 | (dsimp only; walk1)))
local macro_rules | `(tactic| walk_at "fill") => `(tactic| (
  refine (?_ : (PySem.Challenge.rw_nt0088_01 = PySem.Challenge.rw_nt0088_01 → hd.heap_39 = hd.heap_39 → _)) rfl rfl
  k_fill
  intro _ _))
local macro_rules | `(tactic| walk_at "mlook") => `(tactic| first
  | with_reducible assumption
  | exact if_pos rfl
  | (refine (if_neg (by decide)).trans ?_; walk_at "mlook")
  | exact rfl
  | assumption)
local macro_rules | `(tactic| walk_at "eval Name") => `(tactic| k_dflt (first
  | (refine' nm_local ?F ?l ?k ?d ?v ?_; (case l => exact rfl); (case k => exact rfl); (case d => decide); (case F => k_asm); (case v => walk_at "mlook"); k_whole)
  | (refine' nm_cell ?F ?l ?k ?d ?c ?g ?o ?_; (case l => exact rfl); (case k => exact rfl); (case d => decide); (case F => k_asm); (case c => exact rfl); (case g => k_asm); (case o => first | k_asm | exact rfl); k_whole)
  | (refine' nm_glob ?F ?x ?k ?g ?d ?X ?T ?e ?_; (case x => exact rfl); (case k => exact rfl); (case g => exact rfl); (case d => decide); (case F => k_asm); (case X => k_asm); (case T => k_asm); (case e => k_is); k_whole)
  | (refine' nm_boot ?F ?x ?k ?g ?b ?d ?X ?T ?e ?v ?n ?_; (case x => exact rfl); (case k => exact rfl); (case g => exact rfl); (case b => exact rfl); (case d => decide); (case F => k_asm); (case X => k_asm); (case T => k_asm); (case e => k_is); (case v => boot_fast); (case n => decide); k_whole)
  | (refine' nm_cellN ?F ?l ?k ?d ?c ?g ?o ?_; (case l => exact rfl); (case k => exact rfl); (case d => decide); (case F => k_asm); (case c => exact rfl); (case g => k_mem); (case o => first | k_asm | exact rfl); k_whole)))
local macro_rules | `(tactic| walk_at "lst") => `(tactic| first | k_asm | exact Has.list (by k_asm) (by k_mem) | exact News.isList (by k_asm) (by k_mem) | exact Fr.lst (by k_asm) (by k_asm))
local macro_rules | `(tactic| walk_at "cut") => `(tactic| (
  first | refine' cut_last ?F ?N ?l ?z ?_ ?s ?t | refine' cut_upto ?F ?N ?l ?h0 ?z ?_ ?s ?t | refine' cut_from ?F ?N ?l ?h0 ?z ?_ ?s ?t
  (case F => k_asm)
  (case N => k_asm)
  (case l => walk_at "lst")
  (try (case h0 => omega))
  (case z => omega)
  (case s => with_unfolding_all rfl)
  (case t => (intro _; with_unfolding_all rfl))))
local macro_rules | `(tactic| walk_at "mem") => `(tactic| first
  | with_reducible assumption
  | with_reducible exact mem_hd
  | (with_reducible refine mem_tl ?_; walk_at "mem")
  | (with_reducible refine mem_lf ?_; walk_at "mem")
  | (with_reducible refine mem_rt ?_; walk_at "mem"))
local macro_rules | `(tactic| walk_at "subv") => `(tactic| first
  | with_reducible assumption
  | with_reducible exact sub_refl
  | (with_reducible refine sub_tail ?_; walk_at "subv")
  | (with_reducible refine sub_left ?_; walk_at "subv")
  | (with_reducible refine sub_right ?_; walk_at "subv"))
local macro_rules | `(tactic| walk_at "sub") => `(tactic| first
  | with_reducible exact sub_refl
  | with_reducible exact sub_nil
  | (with_reducible refine sub_cons ?_ ?_; (focus walk_at "mem"); walk_at "sub")
  | (with_reducible refine sub_app ?_ ?_; (focus walk_at "sub"); walk_at "sub")
  | walk_at "subv")
local macro_rules | `(tactic| walk_at "off") => `(tactic| (repeat' (first | exact Off.nil | assumption | (refine Off.cons ?_ ?_) | (refine Off.append ?_ ?_) | (refine Nat.ne_of_lt ?_; omega) | (refine Nat.ne_of_gt ?_; omega) | (refine Ne.symm ?_; assumption))))
local macro_rules | `(tactic| walk_at "lc_assign") => `(tactic| (
  refine' listcomp_assign ?sw ?cl ?k ?n ?_ ?hs
  (case sw => with_unfolding_all rfl)
  (case cl => with_unfolding_all rfl)
  (case k => exact rfl)
  (case n => decide)
  (case hs => intro _; with_unfolding_all rfl)))
local macro_rules | `(tactic| walk_at "lc_eval") => `(tactic| (
  refine' listcomp_eval ?cl ?k ?n ?_ ?hs
  (case cl => with_unfolding_all rfl)
  (case k => exact rfl)
  (case n => decide)
  (case hs => intro _; with_unfolding_all rfl)))
local macro_rules | `(tactic| walk_at "sub2") => `(tactic| first | walk_at "mem" | (refine memsub (by assumption) ?_; walk_at "sub"))


section

def mayB (n : Int) (row ahk : List Int) : Bool := !(row.contains n) && ahk.all (row.contains ·)

theorem bools_snoc {vs : List Value} {bs : List Bool} {b : Bool} (h : LSm.BoolsAre vs bs) : LSm.BoolsAre (vs ++ [.bool b]) (bs ++ [b]) := by
  induction h with
  | nil => exact .cons b .nil
  | cons b' _ ih => exact .cons b' ih

set_option maxHeartbeats 4000000 in
theorem may_spec {prog : Program} {w : World} {A : Around} {E : Value → Shared → Prop} {s : Shared} {Q : Value → Shared → Prop} {l : Led} {num : Int} {tn : Tok} {rv : Value} {row ahk : List Int} {a : Addr} {ah : List (Int × List Int)}
    (G : Gd w s.heap) (ok : Ok A 20) (H : Has s.heap l) (hr : DatIn l rv (lz row)) (ha : AheadIs prog w l a ah) (hk : ah.lookup num = some ahk) (hlen : ahk.length ≤ 1000)
    (h : ∀ h' tk', Kp s.heap h' → Q (.bool (mayB num row ahk)) { s with heap := h', toks := tk' }) :
    wpAny (model prog w) A (call (.ref 26) [.int num tn, rv, .ref a] []) Q E s := by
  obtain ⟨X, lo, mg, mb, T⟩ := id G
  obtain ⟨r, rvs, rn, rfl, hrm, hrv⟩ := datIn_list hr
  walk_at "fill"
  refine enterC X T.nolimit (Kp.refl _) (Nat.le_refl _) (by k_is) (by k_is) (by have := ok.2.1; omega) (BindsTo.of_eq rfl) rfl (by decide +kernel) ?_ rfl rfl rfl
  intro L h₁ tk cells F N Y hL hk₁ hcf
  k_cells Y
  rename _ = Data.cell _ => d1
  have d1 : _ = Data.cell (some (.ref r)) := d1
  obtain ⟨m, F, hm1, hm2⟩ : ∃ m, Fr s.heap L h₁ m ∧ m "number" = some (.int num tn) ∧ m "ahead" = some (.ref a) := ⟨_, F, rfl, rfl⟩
  walk_at "mine"
  refine notin_z (H.keeps F.keep) hr (by have := ok.2.2; simp only [Around.deeper_units]; omega) ?_
  walk_at "mine"
  · rename_i hc
    dsimp only
    have e : mayB num row ahk = !row.contains num := by unfold mayB; rw [hc]; rfl
    rw [← e]
    exact h _ _ hk₁
  · rename_i hc
    have hcell := N _ (.head _)
    refine listcomp_eval (by with_unfolding_all rfl) rfl (by decide) ?_
    walk_at "mine"
    refine ahead_item (H.keeps F.keep) ha hk ?_
    intro v dv
    obtain ⟨b, bvs, bn, rfl, hbm, hbv⟩ := datIn_list dv
    dsimp only
    refine iter_list F N ((H.keeps F.keep).list hbm) ?_
    intro I h₂ o₂ F₂ N₂ io₂ l₂ k₂ f₂
    have offI : Off I [(L + 1, _)] := fun p hp => Nat.ne_of_lt (l₂ p hp)
    refine comp_e (muts := []) (n := bvs.toArray.size) (P := fun i v => bvs.toArray[i]? = some v) (fun (i : Nat) ys nw => nw = [] ∧ LSm.BoolsAre ys ((ahk.take i).map (row.contains ·))) (by decide) rfl rfl F₂ N₂ Off.nil io₂ (fun _ z => nomatch z) offI ⟨rfl, .nil⟩ ?_ ?_ ?_
    · have := hbv.length
      simp at this ⊢
      omega
    · intro gs Gs
      refine ⟨It.list (A := A.deeper _) ok.1 ((H.keeps Gs.base).list hbm), ?_⟩
      intro C D i v mc nw h tk o ys k hC hD hi hv hj oI oD FC NC hio hys
      refine wpAny_tests_nil ?_
      rw [if_pos rfl]
      obtain ⟨rfl, hb⟩ := hj
      have hv' : bvs[i]? = some v := by simpa using hv
      have hi' : i < ahk.length := by have := hbv.length; simp at this hi; omega
      obtain ⟨v', e1, e2⟩ := hbv.get (k := i) (by simpa using hi')
      rw [hv'] at e1
      obtain rfl := Option.some.inj e1
      rw [List.getElem_map] at e2
      obtain ⟨tv, rfl⟩ := datIn_int e2
      have Xg := X.keeps Gs.base
      have Tg := T.keeps Gs.base
      have hcg := Gs.got _ (.head _)
      walk_at "mine"
      refine in_z ((H.keeps Gs.base).keeps FC.keep) hr (by have := ok.2.2; simp only [Around.deeper_units]; omega) ?_
      dsimp only
      refine cend [] FC NC Off.nil Off.nil ⟨rfl, ?_⟩
      rw [List.take_add_one, List.getElem?_eq_getElem hi', List.map_append]
      exact bools_snoc hb
    · intro D h'' tk ys k nw hD hj oD hys F'' N'' _
      obtain ⟨rfl, hb⟩ := hj
      dsimp only
      walk_at "mine"
      refine LSm.all_bools F'' N'' ok.1 ((has_news N'').list (.head _)) hb ?_
      intro h₃ tk₃ F₃ N₃
      walk_at "mine"
      dsimp only
      have e : mayB num row ahk = (List.map (fun x => row.contains x) (List.take bvs.toArray.size ahk)).all id := by
        have := hbv.length
        have e2 : bvs.toArray.size = ahk.length := by simpa using this
        unfold mayB
        rw [hc, e2, List.take_length]
        simp
      rw [← e]
      exact h _ _ F₃.keep
end

section


def isOuter (k : Str) : Bool := k == ("left" : Str) || k == ("cross" : Str)
/-- what must stand ahead of the i-th -/
def aheadAt (ns : List Int) (ks : List Str) (i : Nat) : Int × List Int := (ns.getD i 0, if isOuter (ks.getD i "") then ns.take i else [])
def aheadL (ns : List Int) (ks : List Str) : List (Int × List Int) := (List.range ns.length).map (aheadAt ns ks)
def lstr (xs : List Str) : Dat := .list (xs.map .str)

theorem getD_lt {α : Type} (l : List α) (d : α) {i : Nat} (h : i < l.length) : l.getD i d = l[i] := by simp [List.getD, List.getElem?_eq_getElem h]
theorem stored_new {kvs : List (Int × Value)} {k : Int} {v : Value} (h : k ∉ kvs.map (·.1)) : stored kvs k v = kvs ++ [(k, v)] := by
  unfold stored
  rw [if_neg]
  intro e
  obtain ⟨p, hp, e⟩ := List.any_eq_true.mp e
  exact h (List.mem_map.mpr ⟨p, hp, of_decide_eq_true e⟩)
theorem keys_aheadL (ns : List Int) (ks : List Str) (i : Nat) (hi : i ≤ ns.length) : ((aheadL ns ks).take i).map (·.1) = ns.take i := by
  apply List.ext_getElem
  · simp [aheadL]
  · intro j h1 h2
    simp [aheadL, aheadAt] at h1 h2 ⊢
    rw [List.getElem?_eq_getElem (by omega)]
    rfl
theorem notin_take {ns : List Int} (h : ns.Nodup) {i : Nat} (hi : i < ns.length) : ns[i] ∉ ns.take i := by
  intro hm
  obtain ⟨j, hj, e⟩ := List.mem_iff_getElem.mp hm
  rw [List.getElem_take] at e
  simp at hj
  have := (List.getElem_inj h).mp e
  omega
theorem take_succ_map {α β : Type} (f : α → β) (xs : List α) (i : Nat) (h : i < xs.length) : (xs.take (i + 1)).map f = (xs.take i).map f ++ [f xs[i]] := by
  rw [List.take_add_one, List.getElem?_eq_getElem h, List.map_append]; rfl

/-- a turn of the building loop, in plain words -/
theorem kept_step {prog : Program} {w : World} {imm : Led} {kvs : List (Int × Value)} {ns : List Int} {ks : List Str} {i : Nat} {D : Addr} {vs : List Value} {o₇ : Obj} (hi : i < ns.length) (hnd : ns.Nodup)
    (e1 : kvs.map (·.1) = ((aheadL ns ks).take i).map (·.1)) (e2 : DatAll imm (kvs.map (·.2)) (((aheadL ns ks).take i).map fun p => lz p.2))
    (hI : IntsAre vs (if isOuter (ks.getD i "") then ns.take i else [])) (hd : o₇.IsDictOf (intKind prog w) (stored kvs (ns.getD i 0) (.ref D))) :
    ∃ kvs', o₇.IsDictOf (intKind prog w) kvs' ∧ kvs'.map (·.1) = ((aheadL ns ks).take (i + 1)).map (·.1) ∧
      DatAll ((D, listOf vs.toArray 0) :: imm) (kvs'.map (·.2)) (((aheadL ns ks).take (i + 1)).map fun p => lz p.2) := by
  have hl : i < (aheadL ns ks).length := by simpa [aheadL] using hi
  have hx : (aheadL ns ks)[i] = aheadAt ns ks i := by simp [aheadL]
  have hn : ns.getD i 0 ∉ kvs.map (·.1) := by
    rw [e1, keys_aheadL _ _ _ (Nat.le_of_lt hi), getD_lt _ _ hi]; exact notin_take hnd hi
  rw [stored_new hn] at hd
  refine ⟨_, hd, ?_, ?_⟩
  · rw [take_succ_map _ _ _ hl, List.map_append, e1, hx]; rfl
  · rw [take_succ_map _ _ _ hl, List.map_append, hx]
    exact (e2.mono fun p hp => .tail _ hp).append (.one (lz_in (.head _) hI))

set_option maxHeartbeats 4000000 in
theorem kept_spec {prog : Program} {w : World} {A : Around} {E : Value → Shared → Prop} {s : Shared} {Q : Value → Shared → Prop} {l : Led} {nv kv : Value} {ns : List Int} {ks : List Str}
    (G : Gd w s.heap) (ok : Ok A 20) (H : Has s.heap l) (hn : DatIn l nv (lz ns)) (hk : DatIn l kv (lstr ks)) (hlen : ks.length = ns.length) (hsz : ns.length ≤ 1000) (hnd : ns.Nodup)
    (h : ∀ a l' h' tk', Kp s.heap h' → Has h' l' → (∀ p ∈ l', s.heap.get? p.1 = none) → AheadIs prog w l' a (aheadL ns ks) → Q (.ref a) { s with heap := h', toks := tk' }) :
    wpAny (model prog w) A (call (.ref 21) [nv, kv] []) Q E s := by
  obtain ⟨X, lo, mg, mb, T⟩ := id G
  obtain ⟨nr, nvs, nn, rfl, hnm, hnv⟩ := datIn_list hn
  obtain ⟨kr, kvs, kn, rfl, hkm, hkv⟩ := datIn_list hk
  have hI := datAll_ints hnv
  have hnl := H.list hnm
  walk_at "fill"
  refine enter X T.nolimit (Kp.refl _) (Nat.le_refl _) (by k_is) (by k_is) (by have := ok.2.1; omega) (BindsTo.of_eq rfl) (locs rfl) ?_ rfl rfl rfl (by decide)
  intro L h₁ tk F hL hk₁
  have N : News s.heap L h₁ [] := News.nil
  obtain ⟨m, F, hm1, hm2⟩ : ∃ m, Fr s.heap L h₁ m ∧ m "numbers" = some (.ref nr) ∧ m "kinds" = some (.ref kr) := ⟨_, F, rfl, rfl⟩
  walk_at "mine"
  refine newDict_K F N T.nolimit ?_
  intro d h₂ o₀ F₂ N₂ _ _ _ _ hd₀ _
  walk_at "mine"
  refine wpAny_For ?_
  walk_at "mine"
  rename Fr _ _ _ _ => F₂
  rename News _ _ _ _ => N₂
  refine range1_rows F₂ N₂ ?_
  intro h₃ tk₃ t₁ u₁ v₁ hr F₃ N₃ k₃
  walk_at "mine"
  refine iter_range F₃ N₃ hr (by omega) (by omega) ?_
  intro I h₄ io₀ F₄ N₄ hio l₄ k₄ f₄
  have hdI : d < I := l₄ _ (.head _)
  refine for_goN (L := L) (fun i m news => m "numbers" = some (.ref nr) ∧ m "kinds" = some (.ref kr) ∧ m "found" = some (.ref d) ∧
      ∃ o kvs imm, news = (d, o) :: imm ∧ Off d imm ∧ o.IsDictOf (intKind prog w) kvs ∧ kvs.map (·.1) = ((aheadL ns ks).take i).map (·.1) ∧ DatAll imm (kvs.map (·.2)) (((aheadL ns ks).take i).map fun p => lz p.2))
    rfl (It.range0 (A := A.deeper _) ok.1) rfl rfl F₄ N₄ (Off.cons (Nat.ne_of_lt hdI) Off.nil) hio ?_ ?_ ?_
  · exact ⟨(if_neg (by decide)).trans hm1, (if_neg (by decide)).trans hm2, if_pos rfl, o₀, [], [], rfl, Off.nil, hd₀, rfl, .nil⟩
  · intro i v m' news h tk o hi hv hj off FL NL hio
    obtain ⟨t, rfl⟩ := hv
    obtain ⟨j1, j2, j3, od, kvs, imm, rfl, offd, hd, e1, e2⟩ := hj
    have hi' : i < ks.length := by omega
    have offI : Off I imm := fun p hp => off p (.tail _ hp)
    have hkl : kvs.length ≤ 1000 := by have := congrArg List.length e1; simp [aheadL] at this; omega
    walk_at "mine"
    refine item_D (H.keeps FL.keep) hk (by omega) (d := .str ks[i]) (by simp [hi']) (by omega) ?_
    intro v dv
    cases dv with
    | str _ t₁ => ?_
    have hvl : nvs.length = ns.length := hI.length
    walk_at "mine"
    · rename_i hc
      walk_at "cut"
      intro D h₅ F₅ N₅ l₅ f₅
      dsimp only at *
      walk_at "mine"
      have lt5 := allLt_of l₅
      simp only [AllLt] at lt5
      have N₆ : News s.heap L h₅ ((d, od) :: (I, o) :: (D, listOf (List.take (↑i : Int).toNat nvs).toArray 0) :: imm) := nsub N₅ (by walk_at "sub")
      refine setItem_D F₅ N₆ (by walk_at "off") hd (by omega) ?_
      intro h₇ o₇ F₇ N₇ hd₇
      walk_at "mine"
      (try dsimp only)
      obtain ⟨kvs', q1, q2, q3⟩ := kept_step (vs := List.take (↑i : Int).toNat nvs) (D := D) hi hnd e1 e2 (by rw [getD_lt _ _ hi', show isOuter ks[i] = true from by simp at hc; unfold isOuter; rcases hc with hc | hc <;> simp [← hc], if_pos rfl]; exact hI.take _) hd₇
      refine tend ((d, o₇) :: (D, listOf (List.take (↑i : Int).toNat nvs).toArray 0) :: imm) F₇ (nsub N₇ (by walk_at "sub")) (by walk_at "off") ⟨by walk_at "mlook", by walk_at "mlook", by walk_at "mlook", o₇, kvs', _, rfl, (by walk_at "off"), q1, q2, q3⟩
    · rename_i hc
      refine newList_D (by k_asm) (by k_asm) (by decide) ?_
      intro D h₅ F₅ N₅ l₅ f₅
      dsimp only at *
      walk_at "mine"
      have lt5 := allLt_of l₅
      simp only [AllLt] at lt5
      have N₆ : News s.heap L h₅ ((d, od) :: (I, o) :: (D, listOf ([] : List Value).toArray 0) :: imm) := nsub N₅ (by walk_at "sub")
      refine setItem_D F₅ N₆ (by walk_at "off") hd (by omega) ?_
      intro h₇ o₇ F₇ N₇ hd₇
      walk_at "mine"
      (try dsimp only)
      obtain ⟨kvs', q1, q2, q3⟩ := kept_step (vs := []) (D := D) hi hnd e1 e2 (by rw [getD_lt _ _ hi', show isOuter ks[i] = false from by simp at hc; unfold isOuter; simp [Ne.symm hc.1, Ne.symm hc.2], if_neg (by decide)]; exact .nil) hd₇
      refine tend ((d, o₇) :: (D, listOf ([] : List Value).toArray 0) :: imm) F₇ (nsub N₇ (by walk_at "sub")) (by walk_at "off") ⟨by walk_at "mlook", by walk_at "mlook", by walk_at "mlook", o₇, kvs', _, rfl, (by walk_at "off"), q1, q2, q3⟩
  · intro m' news h' tk hj FL NL
    obtain ⟨j1, j2, j3, od, kvs, imm, rfl, offd, hd, e1, e2⟩ := hj
    walk_at "mine"
    (try dsimp only)
    have hl : (aheadL ns ks).take ns.length = aheadL ns ks := List.take_of_length_le (by simp [aheadL])
    rw [hl] at e1 e2
    exact h d _ h' _ FL.keep (has_news NL) (fun p hp => (NL p hp).2.2) ⟨od, kvs, .head _, hd, e1, e2.mono fun p hp => .tail _ hp⟩
end

section


def lk (ah : List (Int × List Int)) (n : Int) : List Int := (ah.lookup n).getD []
def stepRow (ns : List Int) (ah : List (Int × List Int)) (row : List Int) : List (List Int) := (ns.filter fun n => mayB n row (lk ah n)).map fun n => row ++ [n]
def allRows (ns : List Int) (ah : List (Int × List Int)) : Nat → List (List Int)
  | 0 => [[]]
  | k + 1 => (allRows ns ah k).flatMap (stepRow ns ah)

theorem step_len {ns : List Int} (hsz : ns.length ≤ 4) (ah : List (Int × List Int)) (row : List Int) : (stepRow ns ah row).length ≤ 4 := by
  unfold stepRow
  rw [List.length_map]
  exact Nat.le_trans (List.length_filter_le _ _) hsz
theorem flat_len {ns : List Int} (hsz : ns.length ≤ 4) {ah : List (Int × List Int)} (xs : List (List Int)) (j : Nat) (h : xs.length ≤ j) : (xs.flatMap (stepRow ns ah)).length ≤ 4 * j := by
  induction xs generalizing j with
  | nil => simp
  | cons x xs ih =>
    cases j with
    | zero => simp at h
    | succ j =>
      rw [List.flatMap_cons, List.length_append]
      have h1 := ih j (by simpa using h)
      have h2 := step_len hsz ah x
      omega
theorem rows_len {ns : List Int} (hsz : ns.length ≤ 4) {ah : List (Int × List Int)} (i : Nat) : (allRows ns ah i).length ≤ 4 ^ i := by
  induction i with
  | zero => simp [allRows]
  | succ i ih =>
    rw [allRows, Nat.pow_succ]
    have := flat_len hsz (ah := ah) (allRows ns ah i) _ (Nat.le_refl _)
    omega
theorem rows_small {n i : Nat} (hsz : n ≤ 4) (hi : i ≤ n) : 4 ^ i ≤ 256 := by
  have : 4 ^ i ≤ 4 ^ 4 := Nat.pow_le_pow_right (by decide) (by omega)
  omega
theorem row_len {ns : List Int} (hsz : ns.length ≤ 4) {ah : List (Int × List Int)} (i : Nat) (row : List Int) (h : row ∈ allRows ns ah i) : row.length = i := by
  induction i generalizing row with
  | zero => simp [allRows] at h; simp [h]
  | succ i ih =>
    rw [allRows] at h
    obtain ⟨r, hr, h⟩ := List.mem_flatMap.mp h
    obtain ⟨n, _, rfl⟩ := List.mem_map.mp h
    simp [ih r hr]

set_option maxHeartbeats 4000000 in
theorem all_spec {prog : Program} {w : World} {A : Around} {E : Value → Shared → Prop} {s : Shared} {Q : Value → Shared → Prop} {l : Led} {nv : Value} {ns : List Int} {a : Addr} {ah : List (Int × List Int)}
    (G : Gd w s.heap) (ok : Ok A 30) (H : Has s.heap l) (hn : DatIn l nv (lz ns)) (ha : AheadIs prog w l a ah) (hk : ∀ n ∈ ns, ∃ x, ah.lookup n = some x ∧ x.length ≤ 1000) (hsz : ns.length ≤ 4)
    (h : ∀ a' l' h' tk', Kp s.heap h' → Has h' l' → (∀ p ∈ l', s.heap.get? p.1 = none) → DatIn l' (.ref a') (lzz (allRows ns ah ns.length)) → Q (.ref a') { s with heap := h', toks := tk' }) :
    wpAny (model prog w) A (call (.ref 31) [nv, .ref a] []) Q E s := by
  obtain ⟨X, lo, mg, mb, T⟩ := id G
  obtain ⟨nr, nvs, nn, rfl, hnm, hnv⟩ := datIn_list hn
  have hI := datAll_ints hnv
  have hnl := H.list hnm
  walk_at "fill"
  refine enterC X T.nolimit (Kp.refl _) (Nat.le_refl _) (by k_is) (by k_is) (by have := ok.2.1; omega) (BindsTo.of_eq rfl) rfl (by decide +kernel) ?_ rfl rfl rfl
  intro L h₁ tk cells F N Y hL hk₁ hcf
  obtain ⟨o1, o2, he, d1, d2⟩ := CellsAre.two Y
  subst he
  have d1 : o1.data = Data.cell (some (.ref a)) := d1
  have d2 : o2.data = Data.cell (some (.ref nr)) := d2
  obtain ⟨m, F⟩ : ∃ m, Fr s.heap L h₁ m := ⟨_, F⟩
  walk_at "mine"
  refine newList_D F N (by decide) ?_
  intro D0 h₂ F₂ N₂ l₂ f₂
  walk_at "mine"
  refine newList_D F₂ N₂ (by simp) ?_
  intro D1 h₃ F₃ N₃ l₃ f₃
  walk_at "mine"
  rename Fr _ _ _ _ => F₄
  rename News _ _ _ _ => N₄
  refine wpAny_For ?_
  walk_at "mine"
  rename Fr _ _ _ _ => F₄
  rename News _ _ _ _ => N₄
  refine range1_rows F₄ N₄ ?_
  intro h₅ tk₅ t₁ u₁ v₁ hr F₅ N₅ k₅
  walk_at "mine"
  refine iter_range F₅ N₅ hr (by omega) (by omega) ?_
  intro I h₆ io₀ F₆ N₆ hio l₆ k₆ f₆
  have l6 := allLt_of l₆
  simp only [AllLt] at l6
  refine for_goN (L := L) (fun i m news => ∃ rv imm, m "rows" = some rv ∧ news = (L + 1, o2) :: (L + 2, o1) :: imm ∧ DatIn imm rv (lzz (allRows ns ah i)))
    rfl (It.range0 (A := A.deeper _) ok.1) rfl rfl F₆ (nsub N₆ (l := (I, io₀) :: (L + 1, o2) :: (L + 2, o1) :: [(D1, listOf #[Value.ref D0] 0), (D0, listOf #[] 0)]) (by walk_at "sub")) (by walk_at "off") hio ?_ ?_ ?_
  · refine ⟨_, _, if_pos rfl, rfl, ?_⟩
    exact .list (.head _) (.cons (.list (.tail _ (.head _)) .nil) .nil)
  · intro i v m' news h tk o hi hv hj off FL NL hio
    obtain ⟨t, rfl⟩ := hv
    obtain ⟨rv, imm, j1, rfl, j2⟩ := hj
    obtain ⟨rr, rvs, rn, rfl, hrm, hrv⟩ := datIn_list j2
    walk_at "mine"
    walk_at "lc_assign"
    walk_at "mine"
    have NL' : News s.heap L h ((I, o) :: (L + 1, o2) :: (L + 2, o1) :: imm) := NL
    refine iter_list FL NL' ((has_news NL).list (.tail _ (.tail _ (.tail _ hrm)))) ?_
    intro Ir h₇ or F₇ N₇ hior l₇ k₇ f₇
    have offr : Off Ir ((I, o) :: (L + 1, o2) :: (L + 2, o1) :: imm) := fun p hp => Nat.ne_of_lt (l₇ p hp)
    refine comp_aG (L := L) (muts := []) (n := rvs.toArray.size) (P := fun i v => rvs.toArray[i]? = some v) (fun ys nw => DatAll nw ys ((allRows ns ah (i + 1)).map lz)) (by decide) rfl rfl rfl rfl F₇ N₇ Off.nil hior (fun _ z => nomatch z) offr 100000 ?_ ?_
    · intro gs Gs
      have hls : gs.IsList rr rvs.toArray := ⟨_, Gs.got _ (.tail _ (.tail _ (.tail _ hrm))), rfl, _, rfl⟩
      refine ⟨It.list ok.1 hls, ?_⟩
      intro C D h₈ tk₈ R hC hD hDI oD F₈ N₈ dn
      have Xg := X.keeps Gs.base
      have Tg := T.keeps Gs.base
      have c1 : gs.get? (L + 1) = some o2 := Gs.got _ (.tail _ (.head _))
      have c2 : gs.get? (L + 1 + 1) = some o1 := Gs.got _ (.tail _ (.tail _ (.head _)))
      have himm : Has gs imm := fun p hp => Gs.got _ (.tail _ (.tail _ (.tail _ hp)))
      refine comp2_go (C := C) (fun j ys nw => DatAll nw ys (((allRows ns ah i).take j).flatMap (stepRow ns ah) |>.map lz)) rfl (It.list ok.1 hls) rfl rfl F₈ N₈ hDI Off.nil Off.nil hior .nil (by intro _; with_unfolding_all rfl) ?_ ?_
      · intro j v mc nw h₉ tk₉ o₉ ys k hj hv j3 oI₉ oD₉ F₉ N₉ hio₉
        walk_at "mine"
        have hnl9 : Heap.IsList h₉ nr nvs.toArray := (H.keeps (Gs.base.trans F₉.keep)).list hnm
        refine iter_list F₉ N₉ hnl9 ?_
        intro I2 h10 o10 F10 N10 hio10 l10 k10 f10
        have l10' := allLt_of l10
        simp only [AllLt] at l10'
        have hjr : j < (allRows ns ah i).length := by have := hrv.length; simp at this hj; omega
        obtain ⟨rowv, e1, e2⟩ := hrv.get (k := j) (by simpa using hjr)
        rw [show rvs[j]? = some v from by simpa using hv] at e1
        obtain rfl := Option.some.inj e1
        rw [List.getElem_map] at e2
        obtain ⟨wr, wvs, wn, rfl, hwm, hwv⟩ := datIn_list e2
        have hwI := datAll_ints hwv
        have hysl : ys.length ≤ 4 * j := by have := j3.length; rw [List.length_map] at this; rw [this]; exact flat_len hsz _ _ (by rw [List.length_take]; omega)
        have hrl := rows_len (ah := ah) hsz i
        have hrs := rows_small hsz (Nat.le_of_lt hi)
        have hlist : gs.IsList nr nvs.toArray := (H.keeps Gs.base).list hnm
        have hwl : gs.IsList wr wvs.toArray := himm.list hwm
        have hrl9 : (allRows ns ah i)[j].length = i := row_len (ah := ah) hsz i _ (List.getElem_mem hjr)
        have hwlen : wvs.length ≤ 1000 := by rw [hwI.length, hrl9]; omega
        refine inner_start (fun _ _ q => ItS.self (It.list (A := A.deeper _) (g := gs) ok.1 hlist) 0 _ o10 _ _ (N10 _ (.head _)).1 hio10 q) ?_
        refine comp_go2 (C := C) (ys₀ := ys) (fun jj m ys news => m "row" = some (.ref wr) ∧ ∃ nw, news = (Ir, o₉) :: nw ∧ Off D nw ∧ Off Ir nw ∧ DatAll nw ys ((((allRows ns ah i).take j).flatMap (stepRow ns ah) ++ ((ns.take jj).filter fun n => mayB n (allRows ns ah i)[j] (lk ah n)).map fun n => (allRows ns ah i)[j] ++ [n]).map lz)) rfl
          (It.list (g := gs) ok.1 hlist) rfl rfl F10 (nsub N10 (l := (I2, o10) :: (D, listOf ys.toArray k) :: (Ir, o₉) :: nw) (by walk_at "sub")) (Nat.ne_of_lt (by omega)) ?_ (Off.cons (Ne.symm hDI) oD₉) hio10 ?_ (by have := hI.length; rw [List.size_toArray]; omega) ?_ ?_
        · refine Off.cons (Nat.ne_of_lt (by omega)) fun p hp => Nat.ne_of_lt (l10 p (.tail _ (.tail _ hp)))
        · exact ⟨if_pos rfl, nw, rfl, oD₉, oI₉, by simpa using j3⟩
        · intro jj v mc' nw' h tk o ys' k' hjj hv' hJ oI oD F N hio' hys'
          obtain ⟨r1, nw2, rfl, od2, oi2, q⟩ := hJ
          have hjn : jj < ns.length := by have := hI.length; simp at hjj; omega
          obtain ⟨t9, e9⟩ := hI.get jj ns[jj] (by simp [hjn])
          rw [show nvs[jj]? = some v from by simpa using hv'] at e9
          obtain rfl := Option.some.inj e9
          refine wpAny_tests_one ?_
          have hf : Kp gs h := F.keep
          walk_at "mine"
          obtain ⟨ahk, hka, hkl⟩ := hk ns[jj] (List.getElem_mem hjn)
          refine may_spec (l := imm ++ l) (G.keeps (Gs.base.trans hf)) (ok.deeper.le (by decide)) ((himm.keeps hf).app ((H.keeps Gs.base).keeps hf)) ((DatIn.list hwm hwv).mono fun p hp => List.mem_append.mpr (.inl hp)) (ha.mono fun p hp => List.mem_append.mpr (.inr hp)) hka hkl ?_
          intro h11 tk11 k11
          have F11 := Fr.keeps F k11
          have N11 := News.grown N k11
          have hlk : lk ah ns[jj] = ahk := by unfold lk; rw [hka]; rfl
          walk_at "mine"
          · rename_i hc
            refine newList_D F11 N11 (by simp) ?_
            intro D2 h12 F12 N12 l12 f12
            dsimp only at *
            walk_at "mine"
            have hw12 : h12.IsList wr wvs.toArray := (himm.keeps F12.keep).list hwm
            refine add_D F12 N12 hw12 ((has_news N12).list (xs := [Value.int ns[jj] t9].toArray) (.head _)) (by show wvs.length + 1 ≤ _; omega) ?_
            intro D3 h13 F13 N13 l13 f13
            dsimp only at *
            have lt12 := allLt_of l12
            have lt13 := allLt_of l13
            simp only [AllLt] at lt12 lt13
            refine cendM ((Ir, o₉) :: (D3, listOf (wvs ++ [Value.int ns[jj] t9]).toArray 0) :: nw2) F13 (nsub N13 (by walk_at "sub")) ?_ ?_ ?_
            · exact Off.cons (oI _ (.head _)) (Off.cons (Nat.ne_of_gt (by omega)) fun p hp => oI p (.tail _ hp))
            · exact Off.cons (Ne.symm hDI) (Off.cons (Nat.ne_of_gt (by omega)) od2)
            · refine ⟨by walk_at "mlook", _, rfl, Off.cons (Nat.ne_of_gt (by omega)) od2, Off.cons (Nat.ne_of_gt (by omega)) oi2, ?_⟩
              rw [take_succ_filter _ _ _ _ (List.getElem?_eq_getElem hjn), hlk, if_pos hc, List.map_append, List.map_append, List.map_append, ← List.append_assoc, ← List.map_append]
              exact (q.mono fun p hp => .tail _ hp).append (.one (lz_in (.head _) (hwI.append (.cons _ t9 .nil))))
          · rename_i hc
            refine cendM ((Ir, o₉) :: nw2) F11 N11 oI (Off.cons (Ne.symm hDI) od2) ⟨by walk_at "mlook", nw2, rfl, od2, oi2, ?_⟩
            rw [take_succ_filter _ _ _ _ (List.getElem?_eq_getElem hjn), hlk, if_neg (by rw [hc]; decide), List.append_nil]
            exact q
        · intro mc' ys' nw' h tk k' hJ oD F N hys'
          obtain ⟨r1, nw2, rfl, od2, oi2, q⟩ := hJ
          refine cend2 nw2 F (nsub N (by walk_at "sub")) oi2 od2 ?_
          have hle : nvs.toArray.size = ns.length := by have := hI.length; simpa using this
          rw [hle, List.take_length] at q
          rw [List.take_add_one, List.getElem?_eq_getElem hjr, List.flatMap_append]
          simpa [stepRow] using q
      · intro mc ys nw h₉ tk₉ k j3 oD₉ F₉ N₉
        have hle : rvs.toArray.size = (allRows ns ah i).length := by have := hrv.length; simpa using this
        rw [hle, List.take_length] at j3
        refine dn mc ys nw h₉ tk₉ k j3 oD₉ F₉ N₉ ?_
        have := j3.length; rw [List.length_map] at this; rw [this]
        exact Nat.le_trans (flat_len hsz _ (allRows ns ah i).length (Nat.le_refl _)) (by have := rows_len (ah := ah) hsz i; have := rows_small hsz (Nat.le_of_lt hi); omega)
    · intro D h₈ tk₈ ys k nw hD hj oD hys F₈ N₈ hnw
      walk_at "mine"
      refine tend ((L + 1, o2) :: (L + 2, o1) :: (D, listOf ys.toArray k) :: nw) F₈ (nsub N₈ (by walk_at "sub")) ?_ ⟨.ref D, _, by walk_at "mlook", rfl, ?_⟩
      · have oI' : Off I ((L + 1, o2) :: (L + 2, o1) :: imm) := off
        refine Off.cons (oI' _ (.head _)) (Off.cons (oI' _ (.tail _ (.head _))) (Off.cons ?_ fun p hp => hnw p hp _ (.head _)))
        rintro rfl
        have := k₇ _ _ (NL' _ (.head _)).1
        rw [hD] at this; cases this
      · exact .list (.head _) (hj.mono fun p hp => .tail _ hp)
  · intro m' news h' tk hj FL NL
    obtain ⟨rv, imm, j1, rfl, j2⟩ := hj
    obtain ⟨rr, rvs, rn, rfl, hrm, hrv⟩ := datIn_list j2
    walk_at "mine"
    (try dsimp only)
    exact h rr imm h' _ FL.keep (fun p hp => has_news NL p (.tail _ (.tail _ hp))) (fun p hp => (NL p (.tail _ (.tail _ hp))).2.2) j2
end

section


/-- all mixtures of n things -/
def mixedN : Nat → List Int → List (List Int)
  | 0, _ => [[]]
  | n + 1, xs => (List.range (n + 1)).flatMap fun i => (mixedN n (xs.eraseIdx i)).map (xs.getD i 0 :: ·)
theorem mixedN_len (n : Nat) : ∀ (xs : List Int), ∀ r ∈ mixedN n xs, r.length = n := by
  induction n with
  | zero => intro xs r h; simp [mixedN] at h; simp [h]
  | succ n ih =>
    intro xs r h
    rw [mixedN] at h
    obtain ⟨i, _, h⟩ := List.mem_flatMap.mp h
    obtain ⟨q, hq, rfl⟩ := List.mem_map.mp h
    simp [ih _ q hq]
def facN : Nat → Nat
  | 0 => 1
  | n + 1 => (n + 1) * facN n
theorem flat_range_len {α : Type} (f : Nat → List α) (c n : Nat) (h : ∀ i < n, (f i).length ≤ c) : ((List.range n).flatMap f).length ≤ n * c := by
  induction n with
  | zero => simp
  | succ n ih =>
    rw [List.range_succ, List.flatMap_append, List.length_append]
    have h1 := ih fun i hi => h i (by omega)
    have h2 := h n (by omega)
    simp only [List.flatMap_cons, List.flatMap_nil, List.append_nil]
    have : (n + 1) * c = n * c + c := Nat.succ_mul n c
    omega
theorem mixedN_count (n : Nat) : ∀ xs : List Int, (mixedN n xs).length ≤ facN n := by
  induction n with
  | zero => intro xs; simp [mixedN, facN]
  | succ n ih =>
    intro xs
    rw [mixedN, facN]
    exact flat_range_len _ _ _ fun i _ => by rw [List.length_map]; exact ih _
theorem facN_small {n : Nat} (h : n ≤ 4) : facN n ≤ 24 := by
  match n, h with
  | 0, _ => decide
  | 1, _ => decide
  | 2, _ => decide
  | 3, _ => decide
  | 4, _ => decide

set_option maxHeartbeats 4000000 in
theorem mixed_spec {prog : Program} {w : World} (n : Nat) : ∀ {A : Around} {E : Value → Shared → Prop} {s : Shared} {Q : Value → Shared → Prop} {l : Led} {tv : Value} {xs : List Int}
    (_ : Gd w s.heap) (_ : Ok A (30 + 2 * n)) (_ : Has s.heap l) (_ : DatIn l tv (lz xs)) (_ : xs.length = n) (_ : n ≤ 4)
    (_ : ∀ a' l' h' tk', Kp s.heap h' → Has h' l' → (∀ p ∈ l', s.heap.get? p.1 = none) → DatIn l' (.ref a') (lzz (mixedN n xs)) → Q (.ref a') { s with heap := h', toks := tk' }),
    wpAny (model prog w) A (call (.ref 73) [tv] []) Q E s := by
  induction n with
  | zero =>
    intro A E s Q l tv xs G ok H hx hlen hn h
    obtain ⟨X, lo, mg, mb, T⟩ := id G
    obtain ⟨tr, tvs, tn, rfl, htm, htv⟩ := datIn_list hx
    have hI := datAll_ints htv
    have hxs : xs = [] := List.length_eq_zero_iff.mp hlen
    subst hxs
    have htl := H.list htm
    walk_at "fill"
    refine enter X T.nolimit (Kp.refl _) (Nat.le_refl _) (by k_is) (by k_is) (by have := ok.2.1; omega) (BindsTo.of_eq rfl) (locs rfl) ?_ rfl rfl rfl (by decide)
    intro L h₁ tk F hL hk₁
    have N : News s.heap L h₁ [] := News.nil
    obtain ⟨m, F, hm1⟩ : ∃ m, Fr s.heap L h₁ m ∧ m "things" = some (.ref tr) := ⟨_, F, rfl⟩
    walk_at "mine"
    refine newList_D F N (by decide) ?_
    intro D0 h₂ F₂ N₂ l₂ f₂
    walk_at "mine"
    refine ke_eq_ints (xs := tvs) (ys := []) ((H.keeps F₂.keep).list htm) ((has_news N₂).list (.head _)) hI .nil (by have := ok.2.2; simp only [Around.deeper_units]; omega) ?_
    walk_at "mine"
    refine newList_D F₂ N₂ (by decide) ?_
    intro D1 h₃ F₃ N₃ l₃ f₃
    walk_at "mine"
    refine newList_D F₃ N₃ (by simp) ?_
    intro D2 h₄ F₄ N₄ l₄ f₄
    walk_at "mine"
    (try dsimp only)
    exact h D2 _ h₄ _ F₄.keep (has_news N₄) (fun p hp => (N₄ p hp).2.2) (.list (.head _) (.cons (.list (.tail _ (.head _)) .nil) .nil))
  | succ n ih =>
    intro A E s Q l tv xs G ok H hx hlen hn h
    obtain ⟨X, lo, mg, mb, T⟩ := id G
    obtain ⟨tr, tvs, tn, rfl, htm, htv⟩ := datIn_list hx
    have hI := datAll_ints htv
    have htl := H.list htm
    have hvl := hI.length
    walk_at "fill"
    refine enter X T.nolimit (Kp.refl _) (Nat.le_refl _) (by k_is) (by k_is) (by have := ok.2.1; omega) (BindsTo.of_eq rfl) (locs rfl) ?_ rfl rfl rfl (by decide)
    intro L h₁ tk F hL hk₁
    have N : News s.heap L h₁ [] := News.nil
    obtain ⟨m, F, hm1⟩ : ∃ m, Fr s.heap L h₁ m ∧ m "things" = some (.ref tr) := ⟨_, F, rfl⟩
    walk_at "mine"
    refine newList_D F N (by decide) ?_
    intro D0 h₂ F₂ N₂ l₂ f₂
    walk_at "mine"
    refine ke_eq_ints (xs := tvs) (ys := []) ((H.keeps F₂.keep).list htm) ((has_news N₂).list (.head _)) hI .nil (by have := ok.2.2; simp only [Around.deeper_units]; omega) ?_
    rw [decide_eq_false (show ¬ xs = [] by rintro rfl; cases hlen)]
    walk_at "mine"
    refine newList_D F₂ N₂ (by decide) ?_
    intro d h₃ F₃ N₃ l₃ f₃
    walk_at "mine"
    rename Fr _ _ _ _ => F₄
    rename News _ _ _ _ => N₄
    refine wpAny_For ?_
    walk_at "mine"
    rename Fr _ _ _ _ => F₄
    rename News _ _ _ _ => N₄
    refine range1_rows F₄ N₄ ?_
    intro h₅ tk₅ t₁ u₁ v₁ hr F₅ N₅ k₅
    walk_at "mine"
    refine iter_range F₅ N₅ hr (by omega) (by omega) ?_
    intro I h₆ io₀ F₆ N₆ hio l₆ k₆ f₆
    have l6 := allLt_of l₆
    simp only [AllLt] at l6
    refine for_goN (L := L) (fun i m news => m "things" = some (.ref tr) ∧ m "found" = some (.ref d) ∧ ∃ vs k imm, news = (d, listOf vs.toArray k) :: imm ∧ Off d imm ∧ DatAll imm vs (((List.range i).flatMap fun i => (mixedN n (xs.eraseIdx i)).map (xs.getD i 0 :: ·)).map lz))
      rfl (It.range0 (A := A.deeper _) ok.1) rfl rfl F₆ (nsub N₆ (l := (I, io₀) :: [(d, listOf ([] : List Value).toArray 0)]) (by walk_at "sub")) (by walk_at "off") hio ?_ ?_ ?_
    · exact ⟨by walk_at "mlook", by walk_at "mlook", [], 0, [], rfl, Off.nil, .nil⟩
    · intro i v m' news h tk o hi hv hj off FL NL hio
      obtain ⟨t, rfl⟩ := hv
      obtain ⟨j1, j2, vs, k, imm, rfl, offd, hvs⟩ := hj
      have hdI : d ≠ I := off _ (.head _)
      have offI : Off I imm := fun p hp => off p (.tail _ hp)
      walk_at "mine"
      refine wpAny_For ?_
      walk_at "mine"
      walk_at "cut"
      intro D1 h₁₁ F11 N11 l11 f11
      dsimp only at *
      walk_at "mine"
      walk_at "cut"
      intro D2 h12 F12 N12 l12 f12
      dsimp only at *
      walk_at "mine"
      refine add_D F12 N12 ((has_news N12).list (.tail _ (.head _))) ((has_news N12).list (.head _)) (by simp; omega) ?_
      intro D3 h13 F13 N13 l13 f13
      dsimp only at *
      walk_at "mine"
      have hDI : IntsAre (List.take (↑i : Int).toNat tvs ++ List.drop (↑i + 1 : Int).toNat tvs) (xs.eraseIdx i) := by
        rw [List.eraseIdx_eq_take_drop_succ]
        exact (hI.take _).append (by have := hI.drop (i + 1); simpa using this)
      refine ih (G.keeps F13.keep) (ok.le (by omega : 30 + 2 * n + 1 ≤ _)).deeper (has_news N13) (lz_in (.head _) hDI) (by rw [List.length_eraseIdx]; simp [hi, hlen]; omega) (by omega) ?_
      intro ar l' h14 tk14 K14 H14 fr14 D14
      have hd13 : h13.get? d = some (listOf vs.toArray k) := (N13 _ (.tail _ (.tail _ (.tail _ (.tail _ (.head _)))))).1
      have hI13 : h13.get? I = some o := (N13 _ (.tail _ (.tail _ (.tail _ (.head _))))).1
      have offd' := off_new fr14 hd13
      have offI' := off_new fr14 hI13
      have F14 := Fr.keeps F13 K14
      have N14 : News s.heap L h14 ((d, listOf vs.toArray k) :: (I, o) :: (l' ++ imm)) := nsub (news_app (News.grown N13 K14) (news_new F13 H14 fr14)) (by walk_at "sub")
      obtain ⟨ar', avs, an, e, ham, hav⟩ := datIn_list D14
      cases e
      have hal := hav.length
      have hrc := mixedN_count n (xs.eraseIdx i)
      have hfs := facN_small (n := n) (by omega)
      walk_at "mine"
      refine iter_list F14 N14 (H14.list ham) ?_
      intro I2 h15 o15 F15 N15 hio15 l15 k15 f15
      have l15' := allLt_of l15
      simp only [AllLt] at l15'
      dsimp only at *
      have offI2 : Off I2 ((d, listOf vs.toArray k) :: (I, o) :: (l' ++ imm)) := fun p hp => Nat.ne_of_lt (l15 p hp)
      have hvl := hvs.length
      have hcnt := flat_range_len (fun i => (mixedN n (xs.eraseIdx i)).map (xs.getD i 0 :: ·)) (facN n) i (fun i _ => by rw [List.length_map]; exact mixedN_count n _)
      refine for_goSN (L := L) (fun j m news => m "things" = some (.ref tr) ∧ m "found" = some (.ref d) ∧ m "at" = some (.int i t) ∧ ∃ vs k imm, news = (d, listOf vs.toArray k) :: (I, o) :: (l' ++ imm) ∧ Off d imm ∧ Off I imm ∧
          DatAll imm vs ((((List.range i).flatMap fun i => (mixedN n (xs.eraseIdx i)).map (xs.getD i 0 :: ·)) ++ ((mixedN n (xs.eraseIdx i)).take j).map (xs.getD i 0 :: ·)).map lz))
        rfl (ItS.list (A := A.deeper _) (items := avs.toArray) ok.1) ?_ rfl rfl F15 N15 offI2 hio15 ?_ ?_ ?_
      · rintro j m'' news'' h'' o'' ⟨_, _, _, vs', k', imm', rfl, _⟩ _ F' N'
        exact (has_news N').list (.tail _ (.tail _ (.tail _ (List.mem_append.mpr (.inl ham)))))
      · exact ⟨by walk_at "mlook", by walk_at "mlook", by walk_at "mlook", vs, k, imm, rfl, offd, offI, by simpa using hvs⟩
      · intro j v m'' news'' h'' tk'' o'' hjl hv hJ offJ FJ NJ hioJ
        obtain ⟨q1, q2, q3, vs', k', imm', rfl, od', oI', hvs'⟩ := hJ
        have hjr : j < (mixedN n (xs.eraseIdx i)).length := by have e1 : avs.toArray.size = (mixedN n (xs.eraseIdx i)).length := by simpa using hal
                                                               omega
        obtain ⟨rv, e1, e2⟩ := hav.get (k := j) (by simpa using hjr)
        rw [show avs[j]? = some v from by simpa using hv] at e1
        obtain rfl := Option.some.inj e1
        rw [List.getElem_map] at e2
        obtain ⟨wr, wvs, wn, rfl, hwm, hwv⟩ := datIn_list e2
        have hwI := datAll_ints hwv
        have hwl := hwI.length
        have hwn := mixedN_len n (xs.eraseIdx i) _ (List.getElem_mem hjr)
        walk_at "mine"
        refine newList_D (by k_asm) (by k_asm) (by simp) ?_
        intro D4 h16 F16 N16 l16 f16
        dsimp only at *
        walk_at "mine"
        refine add_D F16 N16 ((has_news N16).list (.head _)) ((has_news N16).list (.tail _ (.tail _ (.tail _ (.tail _ (List.mem_append.mpr (.inl hwm))))))) (by simp; omega) ?_
        intro D5 h17 F17 N17 l17 f17
        dsimp only at *
        walk_at "mine"
        have lt16 := allLt_of l16
        have lt17 := allLt_of l17
        simp only [AllLt] at lt16 lt17
        have hvsl := hvs'.length
        have hvc : vs'.length ≤ 1000 := by
          rw [hvsl, List.length_map, List.length_append, List.length_map, List.length_take]
          have : i * facN n ≤ 4 * facN n := Nat.mul_le_mul_right _ (by omega)
          omega
        obtain ⟨w5, o4, N17, hw5⟩ : ∃ w5 o4, News s.heap L h17 ((D5, listOf (List.toArray w5) 0) :: (D4, o4) :: (I2, o'') :: (d, listOf vs'.toArray k') :: (I, o) :: (l' ++ imm')) ∧ IntsAre w5 (xs.getD i 0 :: (mixedN n (xs.eraseIdx i))[j]) :=
          ⟨_, _, N17, by simpa using IntsAre.cons _ _ hwI⟩
        refine append_L F17 (nsub N17 (l := (d, listOf vs'.toArray k') :: (I2, o'') :: (D5, listOf w5.toArray 0) :: (I, o) :: (l' ++ imm')) (by walk_at "sub")) ?_ (by omega) ?_
        · exact Off.cons (Ne.symm (offJ _ (.head _))) (Off.cons (Nat.ne_of_gt (by omega)) (Off.cons (Ne.symm hdI) (Off.append offd' od')))
        intro h18 F18 N18 s18
        walk_at "mine"
        refine tend ((d, listOf (vs' ++ [Value.ref D5]).toArray (k' + 1)) :: (I, o) :: (l' ++ (D5, listOf w5.toArray 0) :: imm')) F18 (nsub N18 (by walk_at "sub")) ?_ ⟨?_, ?_, ?_, _, _, (D5, listOf w5.toArray 0) :: imm', rfl, ?_, ?_, ?_⟩
        · refine Off.cons (offJ _ (.head _)) (Off.cons (offJ _ (.tail _ (.head _))) (Off.append (fun p hp => offJ p (.tail _ (.tail _ (List.mem_append.mpr (.inl hp))))) (Off.cons (Nat.ne_of_gt (by omega)) fun p hp => offJ p (.tail _ (.tail _ (List.mem_append.mpr (.inr hp)))))))
        · walk_at "mlook"
        · walk_at "mlook"
        · walk_at "mlook"
        · exact Off.cons (Nat.ne_of_gt (by omega)) od'
        · exact Off.cons (Nat.ne_of_gt (by omega)) oI'
        · rw [take_succ_map _ _ _ hjr, ← List.append_assoc, List.map_append]
          exact (hvs'.mono fun p hp => .tail _ hp).append (.one (lz_in (.head _) hw5))
      · intro m'' news'' h'' tk'' hJ FJ NJ
        obtain ⟨q1, q2, q3, vs', k', imm', rfl, od', oI', hvs'⟩ := hJ
        walk_at "mine"
        refine tend ((d, listOf vs'.toArray k') :: imm') FJ (nsub NJ (by walk_at "sub")) (Off.cons hdI oI') ⟨q1, q2, vs', k', imm', rfl, od', ?_⟩
        have e1 : avs.toArray.size = (mixedN n (xs.eraseIdx i)).length := by simpa using hal
        rw [e1, List.take_length] at hvs'
        rw [List.range_succ, List.flatMap_append]
        simpa using hvs'
    · intro m' news h' tk hj FL NL
      obtain ⟨j1, j2, vs, k, imm, rfl, offd, hvs⟩ := hj
      walk_at "mine"
      (try dsimp only)
      refine h d _ h' _ FL.keep (has_news NL) (fun p hp => (NL p hp).2.2) (.list (.head _) ?_)
      rw [hlen] at hvs
      exact hvs.mono fun p hp => .tail _ hp
end

section


/-- whether the sources to the left of the i-th all stand ahead of it -/
def letAt (row ns : List Int) (ks : List Str) (i : Nat) : Bool := ks.getD i "" == ("inner" : Str) || ((ns.take i).filter fun x => !(row.take (row.idxOf (ns.getD i 0))).contains x) == []
def isLet (row ns : List Int) (ks : List Str) : Bool := (List.range ns.length).all (letAt row ns ks)

set_option maxHeartbeats 4000000 in
theorem islet_spec {prog : Program} {w : World} {A : Around} {E : Value → Shared → Prop} {s : Shared} {Q : Value → Shared → Prop} {l : Led} {rv nv kv : Value} {row ns : List Int} {ks : List Str}
    (G : Gd w s.heap) (ok : Ok A 30) (H : Has s.heap l) (hr : DatIn l rv (lz row)) (hn : DatIn l nv (lz ns)) (hk : DatIn l kv (lstr ks)) (hlen : ks.length = ns.length) (hsz : ns.length ≤ 4) (hrl : row.length ≤ 4) (hin : ∀ x ∈ ns, x ∈ row)
    (h : ∀ h' tk', Kp s.heap h' → Q (.bool (isLet row ns ks)) { s with heap := h', toks := tk' }) :
    wpAny (model prog w) A (call (.ref 78) [rv, nv, kv] []) Q E s := by
  obtain ⟨X, lo, mg, mb, T⟩ := id G
  obtain ⟨rr, rvs, rn, rfl, hrm, hrv⟩ := datIn_list hr
  obtain ⟨nr, nvs, nn, rfl, hnm, hnv⟩ := datIn_list hn
  obtain ⟨kr, kvs, kn, rfl, hkm, hkv⟩ := datIn_list hk
  have hI := datAll_ints hnv
  have hRI := datAll_ints hrv
  have hnl := H.list hnm
  have hrowl := H.list hrm
  have hvl := hI.length
  have hrvl := hRI.length
  walk_at "fill"
  refine enterC X T.nolimit (Kp.refl _) (Nat.le_refl _) (by k_is) (by k_is) (by have := ok.2.1; omega) (BindsTo.of_eq rfl) rfl (by decide +kernel) ?_ rfl rfl rfl
  intro L h₁ tk cells F N Y hL hk₁ hcf
  obtain ⟨oc, he, d1⟩ := CellsAre.one Y
  subst he
  obtain ⟨m, F, hm1, hm2, hm3⟩ : ∃ m, Fr s.heap L h₁ m ∧ m "row" = some (.ref rr) ∧ m "numbers" = some (.ref nr) ∧ m "kinds" = some (.ref kr) := ⟨_, F, rfl, rfl, rfl⟩
  refine wpAny_execs_cons ?_
  refine wpAny_For ?_
  walk_at "mine"
  refine range1_rows F N ?_
  intro h₅ tk₅ t₁ u₁ v₁ hr F₅ N₅ k₅
  walk_at "mine"
  refine iter_range F₅ N₅ hr (by omega) (by omega) ?_
  intro I h₆ io₀ F₆ N₆ hio l₆ k₆ f₆
  have l6 := allLt_of l₆
  simp only [AllLt] at l6
  refine for_go (L := L) (fun i m news => m "row" = some (.ref rr) ∧ m "numbers" = some (.ref nr) ∧ m "kinds" = some (.ref kr) ∧ (∀ j < i, letAt row ns ks j = true) ∧ ∃ oc v, news = [(L + 1, oc)] ∧ oc.data = .cell v)
    rfl (It.range0 (A := A.deeper _) ok.1) rfl rfl F₆ N₆ (by walk_at "off") hio ?_ ?_ ?_
  · exact ⟨hm1, hm2, hm3, fun j hj => absurd hj (Nat.not_lt_zero _), oc, _, rfl, d1⟩
  · have hret := h
    intro i v m' news h tk o hi hv hj off FL NL hio
    obtain ⟨t, rfl⟩ := hv
    obtain ⟨j1, j2, j3, j4, oc, cv, rfl, hoc⟩ := hj
    have hi' : i < ks.length := by omega
    walk_at "mine"
    refine item_D (H.keeps FL.keep) hk (by omega) (d := .str ks[i]) (by simp [hi']) (by omega) ?_
    intro v dv
    cases dv with
    | str _ t₁ => ?_
    have hks : ks.getD i "" = ks[i] := getD_lt _ _ hi'
    walk_at "mine"
    · rename_i hc
      refine kf_method ((H.keeps FL.keep).news) hrm PySem.F.slot_list_index PySem.F.type_list_index ?_
      walk_at "mine"
      refine index_z (ns := row) (H.keeps FL.keep) hrm hRI (by rw [getD_lt _ _ (by omega)]; exact hin _ (List.getElem_mem _)) (by omega) ?_
      walk_at "mine"
      walk_at "cut"
      intro D1 h₇ F₇ N₇ l₇ f₇
      dsimp only at *
      have lt7 := allLt_of l₇
      simp only [AllLt] at lt7
      walk_at "mine"
      rename Fr _ _ _ _ => F₈
      rename News _ _ _ _ => N₈
      rename _ = Data.cell _ => hoc₈
      have e0 : (ns.getD (↑i : Int).toNat 0) = ns.getD i 0 := rfl
      obtain ⟨h₈, oc8, F₈, N₈, hoc₈, eh⟩ : ∃ h₈ o', Fr s.heap L h₈ _ ∧ News s.heap L h₈ [(D1, listOf (rvs.take (row.idxOf (ns.getD i 0))).toArray 0), (I, o), (L + 1, o')] ∧ o'.data = Data.cell (some (.ref D1)) ∧ _ = h₈ := ⟨_, _, F₈, N₈, hoc₈, rfl⟩
      subst eh
      have hAI : IntsAre (rvs.take (row.idxOf (ns.getD i 0))) (row.take (row.idxOf (ns.getD i 0))) := hRI.take _
      walk_at "lc_eval"
      walk_at "mine"
      walk_at "cut"
      intro D2 h₉ F₉ N₉ l₉ f₉
      dsimp only at *
      walk_at "mine"
      refine iter_list F₉ N₉ ((has_news N₉).list (.head _)) ?_
      intro I2 h10 o10 F10 N10 hio10 l10 k10 f10
      have l10' := allLt_of l10
      simp only [AllLt] at l10'
      refine comp_e (muts := []) (n := (nvs.take (↑i : Int).toNat).toArray.size) (P := fun j v => (nvs.take (↑i : Int).toNat).toArray[j]? = some v)
        (fun j ys nw => nw = [] ∧ IntsAre ys (((ns.take i).take j).filter fun x => !(row.take (row.idxOf (ns.getD i 0))).contains x)) (by decide) rfl rfl F10 N10 Off.nil hio10 (fun _ z => nomatch z) (by walk_at "off") ⟨rfl, by simpa using IntsAre.nil⟩ (by simp; omega) ?_ ?_
      · intro gs Gs
        have c1 : gs.get? (L + 1) = some oc8 := Gs.got _ (.tail _ (.tail _ (.tail _ (.head _))))
        have HD1 : Has gs [(D1, listOf (rvs.take (row.idxOf (ns.getD i 0))).toArray 0)] := fun p hp => by rw [List.mem_singleton.mp hp]; exact Gs.got _ (.tail _ (.head _))
        have hl2 : gs.IsList D2 (nvs.take (↑i : Int).toNat).toArray := ⟨_, Gs.got _ (.head _), rfl, _, rfl⟩
        have Xg := X.keeps Gs.base
        have Tg := T.keeps Gs.base
        refine ⟨It.list ok.1 hl2, ?_⟩
        intro C D j v mc nw h11 tk11 o11 ys k hC hD hj hv hJ oI oD FC NC hio hys
        obtain ⟨rfl, hJ⟩ := hJ
        have hTI := hI.take i
        have hjn : j < (ns.take i).length := by have := hTI.length; simp at this hj ⊢; omega
        obtain ⟨t9, e9⟩ := hTI.get j (ns.take i)[j] (List.getElem?_eq_getElem hjn)
        rw [show (nvs.take i)[j]? = some v from by simpa using hv] at e9
        obtain rfl := Option.some.inj e9
        refine wpAny_tests_one ?_
        have hf := FC.keep
        walk_at "mine"
        refine notin_z (HD1.keeps hf) (lz_in (.head _) hAI) (by have := ok.2.2; simp only [Around.deeper_units]; omega) ?_
        walk_at "mine"
        · rename_i hb
          dsimp only
          refine cend [] FC NC Off.nil Off.nil ⟨rfl, ?_⟩
          rw [take_succ_filter _ _ _ _ (List.getElem?_eq_getElem hjn), if_neg (by rw [hb]; decide), List.append_nil]
          exact hJ
        · rename_i hb
          dsimp only
          refine cend [] FC NC Off.nil Off.nil ⟨rfl, ?_⟩
          rw [take_succ_filter _ _ _ _ (List.getElem?_eq_getElem hjn), if_pos (by rw [hb]; rfl)]
          exact hJ.append (.cons _ t9 .nil)
      · intro D h11 tk11 ys k nw hD hJ oD hys F11 N11 hnw
        obtain ⟨rfl, hJ⟩ := hJ
        have e8 : (nvs.take (↑i : Int).toNat).toArray.size = (ns.take i).length := by have := (hI.take i).length; simpa using this
        rw [e8, List.take_length] at hJ
        walk_at "mine"
        refine newList_D F11 N11 (by decide) ?_
        intro D3 h12 F12 N12 l12 f12
        dsimp only at *
        walk_at "mine"
        refine ke_ne_ints (xs := ys) (ys := []) ((has_news N12).list (.tail _ (.head _))) ((has_news N12).list (.head _)) hJ .nil (by have := ok.2.2; simp only [Around.deeper_units]; omega) ?_
        walk_at "mine"
        · rename_i hc2
          refine tend [(L + 1, oc8)] F12 (nsub N12 (by walk_at "sub")) (Off.cons (off _ (.head _)) Off.nil) ⟨by walk_at "mlook", by walk_at "mlook", by walk_at "mlook", ?_, oc8, _, rfl, hoc₈⟩
          intro j hj
          rcases Nat.lt_succ_iff_lt_or_eq.mp hj with hj | rfl
          · exact j4 j hj
          · unfold letAt; rw [of_decide_eq_true hc2]; simp
        · rename_i hc2
          dsimp only
          have e : isLet row ns ks = false := by
            unfold isLet
            rw [List.all_eq_false]
            refine ⟨i, List.mem_range.mpr hi, ?_⟩
            have h2 := of_decide_eq_false hc2
            unfold letAt
            rw [hks]
            simp at hc
            simp only [Bool.or_eq_true, not_or, beq_iff_eq]
            exact ⟨hc, h2⟩
          rw [← e]
          exact hret _ _ F12.keep
    · rename_i hc
      dsimp only
      refine tend [(L + 1, oc)] FL NL off ⟨by walk_at "mlook", by walk_at "mlook", by walk_at "mlook", ?_, oc, cv, rfl, hoc⟩
      intro j hj
      rcases Nat.lt_succ_iff_lt_or_eq.mp hj with hj | rfl
      · exact j4 j hj
      · unfold letAt; rw [hks]; simp at hc; simp [hc]
  · intro m' news h' tk hj FL NL
    obtain ⟨j1, j2, j3, j4, oc, cv, rfl, hoc⟩ := hj
    walk_at "mine"
    dsimp only
    have e : isLet row ns ks = true := by unfold isLet; rw [List.all_eq_true]; intro j hj; exact j4 j (List.mem_range.mp hj)
    rw [← e]
    exact h _ _ FL.keep
end

section

def SrcO (o : Obj) : Prop := ∃ a b ta tb n, o = listOf #[.int a ta, .int b tb] n ∧ 0 ≤ a ∧ 0 ≤ b ∧ b < 2147483648
theorem SrcO.src {h : Heap} {src : Addr} {o : Obj} (x : SrcO o) (e : h.get? src = some o) : Src h src := by
  obtain ⟨a, b, ta, tb, n, rfl, r⟩ := x
  exact ⟨a, b, ta, tb, n, e, r⟩
theorem Src.o {h : Heap} {src : Addr} (x : Src h src) : ∃ o, h.get? src = some o ∧ SrcO o := by
  obtain ⟨a, b, ta, tb, n, e, r⟩ := x
  exact ⟨_, e, a, b, ta, tb, n, rfl, r⟩

section
variable {prog : Program} {w : World} {A : Around} {E : Value → Shared → Prop} {s : Shared} {Q : Value → Shared → Prop} {g : Heap} {L : Addr} {m : Str → Option Value} {news : Led}
theorem take_L {src : Addr} {so : Obj} {top : Int} {tt : Tok} (G : Gd w g) (ok : Ok A 4) (F : Fr g L s.heap m) (N : News g L s.heap ((src, so) :: news)) (hso : SrcO so) (off : Off src news) (h1 : 1 ≤ top) (h2 : top ≤ 100)
    (h : ∀ r t h' tk' so', 0 ≤ r → r < top → Fr g L h' m → News g L h' ((src, so') :: news) → SrcO so' → Heap.ExtBut src s.heap h' → Q (.int r t) { s with heap := h', toks := tk' }) :
    wpAny (model prog w) A (call (.ref 59) [.ref src, .int top tt] []) Q E s := by
  have z := N _ (.head _)
  refine take_spec G F.keep z.2.2 ok (hso.src z.1) h1 h2 fun r t h' tk' r0 r1 hs hk => ?_
  obtain ⟨so', e, hso'⟩ := hs.o
  have he : Heap.ExtBut src s.heap h' := fun b o hb q => hk b o hb q
  exact h r t h' tk' so' r0 r1 (fr_ext F he z.2.1 z.2.2) (news_more (news_ext (news_tl N) he off) e z.2.1 z.2.2) hso' he

theorem pop_L {D : Addr} {xs : List Value} {k : Nat} {i : Int} {u : Tok} (F : Fr g L s.heap m) (N : News g L s.heap ((D, listOf xs.toArray k) :: news)) (off : Off D news) (hsz : xs.length ≤ 1000000) (h0 : 0 ≤ i) (h1 : i.toNat < xs.length)
    (h : ∀ h' k', Fr g L h' m → News g L h' ((D, listOf (xs.eraseIdx i.toNat).toArray k') :: news) → Q xs[i.toNat] { s with heap := h' }) :
    wpAny (model prog w) A (call (.builtin "list.pop") [.ref D, .int i u]) Q E s := by
  have z := N _ (.head _)
  have hz' : xs.toArray.size ≤ sizeLine := by rw [List.size_toArray]; exact Nat.le_trans hsz (by decide)
  have hf : Builtin.List.listFitsIndex i = true := by unfold Builtin.List.listFitsIndex; simp only [Bool.and_eq_true, decide_eq_true_eq]; omega
  have hk : seqIndex? i xs.toArray.size = some i.toNat := by
    unfold seqIndex?
    have : ¬ i < 0 := by omega
    simp [this]
    omega
  have hy : xs.toArray[i.toNat]? = some xs[i.toNat] := by simp [h1]
  refine call_meets PySem.F.slot_list_pop ⟨_, z.1, rfl⟩ PySem.F.entry_list_pop (PySem.F.args_list_pop_2 _ _) (PySem.MeetsSeq.list_pop_at D _ k i u _ _ hf hk hy hz') ⟨z.1, ?_⟩
  have hs := Heap.SameBut.update s.heap D (Obj.mapSeq fun xs => xs.eraseIdxIfInBounds i.toNat)
  have e := Heap.get?_update_self (Obj.mapSeq fun xs => xs.eraseIdxIfInBounds i.toNat) z.1 rfl
  have e2 : (xs.toArray.eraseIdxIfInBounds i.toNat) = (xs.eraseIdx i.toNat).toArray := by
    apply Array.toList_inj.mp
    simp
  have e3 : Obj.mapSeq (fun xs => xs.eraseIdxIfInBounds i.toNat) (listOf xs.toArray k) = listOf (xs.toArray.eraseIdxIfInBounds i.toNat) (if ((xs.toArray.eraseIdxIfInBounds i.toNat).size == xs.toArray.size) = true then k else k + 1) := rfl
  rw [e3, e2] at e
  exact h _ _ (fr_ext F hs.extBut z.2.1 z.2.2) (news_more (news_ext (news_tl N) hs.extBut off) e z.2.1 z.2.2)
end
end

section


def toldAt (ns : List Int) (ah : List (Int × List Int)) (as : List Str) (row : List Int) (al : Str) (i : Nat) : Bool := as.getD i "" == al && mayB (ns.getD i 0) row (lk ah (ns.getD i 0))
def toldStep (ns : List Int) (ah : List (Int × List Int)) (as : List Str) (row : List Int) (al : Str) : List Int :=
  match (List.range ns.length).find? (toldAt ns ah as row al) with
  | some i => row ++ [ns.getD i 0]
  | none => row
theorem toldStep_none {ns : List Int} {ah : List (Int × List Int)} {as : List Str} {row : List Int} {al : Str} (h : ∀ j < ns.length, toldAt ns ah as row al j = false) : toldStep ns ah as row al = row := by
  unfold toldStep
  rw [List.find?_eq_none.mpr fun x hx => by rw [h x (List.mem_range.mp hx)]; decide]
theorem toldStep_some {ns : List Int} {ah : List (Int × List Int)} {as : List Str} {row : List Int} {al : Str} {j : Nat} (hj : j < ns.length) (h : ∀ j' < j, toldAt ns ah as row al j' = false) (e : toldAt ns ah as row al j = true) : toldStep ns ah as row al = row ++ [ns.getD j 0] := by
  unfold toldStep
  have : (List.range ns.length).find? (toldAt ns ah as row al) = some j := by
    rw [List.find?_range_eq_some]
    refine ⟨e, List.mem_range.mpr hj, fun k hk => by rw [h k hk]; rfl⟩
  rw [this]
def toldRow (ns : List Int) (ah : List (Int × List Int)) (as told : List Str) : List Int := told.foldl (toldStep ns ah as) []
def toldOut (ns : List Int) (ah : List (Int × List Int)) (as told : List Str) : List (List Int) :=
  if (toldRow ns ah as told).length = ns.length ∧ ns.length = told.length then [toldRow ns ah as told] else []

theorem off1 {d I : Addr} {o : Obj} (h : d ≠ I) : Off I [(d, o)] := Off.cons h Off.nil

set_option maxHeartbeats 4000000 in
theorem told_spec {prog : Program} {w : World} {A : Around} {E : Value → Shared → Prop} {s : Shared} {Q : Value → Shared → Prop} {l : Led} {nv av tv : Value} {a : Addr} {ns : List Int} {ah : List (Int × List Int)} {as told : List Str}
    (G : Gd w s.heap) (ok : Ok A 30) (H : Has s.heap l) (hn : DatIn l nv (lz ns)) (ha : AheadIs prog w l a ah) (hk : ∀ n ∈ ns, ∃ x, ah.lookup n = some x ∧ x.length ≤ 1000) (hav : DatIn l av (lstr as)) (htv : DatIn l tv (lstr told))
    (hlen : as.length = ns.length) (hsz : ns.length ≤ 4) (htl : told.length ≤ 8)
    (h : ∀ a' l' h' tk', Kp s.heap h' → Has h' l' → (∀ p ∈ l', s.heap.get? p.1 = none) → DatIn l' (.ref a') (lzz (toldOut ns ah as told)) → Q (.ref a') { s with heap := h', toks := tk' }) :
    wpAny (model prog w) A (call (.ref 38) [nv, .ref a, av, tv] []) Q E s := by
  have hret := h
  obtain ⟨X, lo, mg, mb, T⟩ := id G
  obtain ⟨nr, nvs, nn, rfl, hnm, hnv⟩ := datIn_list hn
  obtain ⟨ar, avs, an, rfl, ham, hav'⟩ := datIn_list hav
  obtain ⟨tr, tvs, tn, rfl, htm, htv'⟩ := datIn_list htv
  have hI := datAll_ints hnv
  have hnl := H.list hnm
  have hvl := hI.length
  have htvl : tvs.length = told.length := by simpa using htv'.length
  walk_at "fill"
  refine enter X T.nolimit (Kp.refl _) (Nat.le_refl _) (by k_is) (by k_is) (by have := ok.2.1; omega) (BindsTo.of_eq rfl) (locs rfl) ?_ rfl rfl rfl (by decide)
  intro L h₁ tk F hL hk₁
  have N : News s.heap L h₁ [] := News.nil
  obtain ⟨m, F, hm1, hm2, hm3, hm4⟩ : ∃ m, Fr s.heap L h₁ m ∧ m "numbers" = some (.ref nr) ∧ m "ahead" = some (.ref a) ∧ m "aliases" = some (.ref ar) ∧ m "told" = some (.ref tr) := ⟨_, F, rfl, rfl, rfl, rfl⟩
  walk_at "mine"
  refine newList_D F N (by decide) ?_
  intro d h₂ F₂ N₂ l₂ f₂
  walk_at "mine"
  rename Fr _ _ _ _ => F₃
  rename News _ _ _ _ => N₃
  refine wpAny_For ?_
  walk_at "mine"
  refine iter_list F₃ N₃ ((H.keeps F₃.keep).list htm) ?_
  intro I h₄ o₄ F₄ N₄ hio l₄ k₄ f₄
  have l4 := allLt_of l₄
  simp only [AllLt] at l4
  refine for_goN (L := L) (fun i m news => m "numbers" = some (.ref nr) ∧ m "ahead" = some (.ref a) ∧ m "aliases" = some (.ref ar) ∧ m "told" = some (.ref tr) ∧ m "row" = some (.ref d) ∧
      ∃ vs k, news = [(d, listOf vs.toArray k)] ∧ IntsAre vs ((told.take i).foldl (toldStep ns ah as) []) ∧ vs.length ≤ i)
    rfl (It.list (A := A.deeper _) (g := s.heap) ok.1 (H.list htm)) rfl rfl F₄ N₄ (by walk_at "off") hio ?_ ?_ ?_
  · exact ⟨by walk_at "mlook", by walk_at "mlook", by walk_at "mlook", by walk_at "mlook", by walk_at "mlook", [], 0, rfl, .nil, Nat.le_refl _⟩
  · intro i v m' news h tk o hi hv hj off FL NL hio
    obtain ⟨j1, j2, j3, j4, j5, vs, k, rfl, hvs, hvk⟩ := hj
    have hi' : i < told.length := by simp at hi; omega
    obtain ⟨alv, e1, e2⟩ := htv'.get (k := i) (by simpa using hi')
    rw [show tvs[i]? = some v from by simpa using hv] at e1
    obtain rfl := Option.some.inj e1
    rw [List.getElem_map] at e2
    cases e2 with
    | str _ tal => ?_
    refine wpAny_execs_cons ?_
    refine wpAny_For ?_
    walk_at "mine"
    refine range1_rows FL NL ?_
    intro h₅ tk₅ t₁ u₁ v₁ hr F₅ N₅ k₅
    walk_at "mine"
    refine iter_range F₅ N₅ hr (by omega) (by omega) ?_
    intro I2 h₆ io₂ F₆ N₆ hio2 l₆ k₆ f₆
    have l6 := allLt_of l₆
    simp only [AllLt] at l6
    have hdI : d ≠ I := off _ (.head _)
    refine for_go (L := L) (fun j m news => m "numbers" = some (.ref nr) ∧ m "ahead" = some (.ref a) ∧ m "aliases" = some (.ref ar) ∧ m "told" = some (.ref tr) ∧ m "row" = some (.ref d) ∧ m "alias" = some (.str told[i] tal) ∧
      news = [(d, listOf vs.toArray k), (I, o)] ∧ ∀ j' < j, toldAt ns ah as ((told.take i).foldl (toldStep ns ah as) []) told[i] j' = false)
      rfl (It.range0 (A := A.deeper _) ok.1) rfl rfl F₆ (nsub N₆ (l := (I2, io₂) :: [(d, listOf vs.toArray k), (I, o)]) (by walk_at "sub")) (by walk_at "off") hio2 ?_ ?_ ?_
    · exact ⟨by walk_at "mlook", by walk_at "mlook", by walk_at "mlook", by walk_at "mlook", by walk_at "mlook", by walk_at "mlook", rfl, fun j hj => absurd hj (Nat.not_lt_zero _)⟩
    · intro j v m'' news'' h'' tk'' o'' hj hv hJ offJ FJ NJ hioJ
      obtain ⟨t, rfl⟩ := hv
      obtain ⟨q1, q2, q3, q4, q5, q6, rfl, q7⟩ := hJ
      walk_at "mine"
      have hja : j < as.length := by omega
      refine item_D (H.keeps FJ.keep) hav (by omega) (d := .str as[j]) (by simp [hja]) (by omega) ?_
      intro v dv
      cases dv with
      | str _ t₁ => ?_
      walk_at "mine"
      · rename (_ == told[i]) = true => hc
        have HJ : Has h'' [(d, listOf vs.toArray k)] := fun p hp => has_news NJ p (by walk_at "sub2")
        obtain ⟨ahk, hka, hkl⟩ := hk (ns.getD j 0) (by rw [getD_lt _ _ hj]; exact List.getElem_mem hj)
        refine may_spec (l := (d, listOf vs.toArray k) :: l) (G.keeps FJ.keep) (ok.deeper.le (by decide)) (HJ.app (H.keeps FJ.keep)) (lz_in (.head _) hvs) (ha.mono fun p hp => .tail _ hp) hka hkl ?_
        intro h7 tk7 k7
        have F7 := Fr.keeps FJ k7
        have N7 := News.grown NJ k7
        have hlk : lk ah (ns.getD j 0) = ahk := by unfold lk; rw [hka]; rfl
        walk_at "mine"
        · rename mayB _ _ _ = true => hm
          have hat : toldAt ns ah as ((told.take i).foldl (toldStep ns ah as) []) told[i] j = true := by
            unfold toldAt; rw [getD_lt _ _ hja, hlk, hc]; exact hm
          refine append_L F7 (nsub N7 (l := (d, listOf vs.toArray k) :: [(I2, o''), (I, o)]) (by walk_at "sub")) (Off.cons (Ne.symm (offJ _ (.head _))) (Off.cons (Ne.symm hdI) Off.nil)) (by omega) ?_
          intro h8 F8 N8 s8
          walk_at "mine"
          (try dsimp only [ForPost])
          walk_at "mine"
          have e9 := toldStep_some hj q7 hat
          obtain ⟨w8, N8, hw8, hl8⟩ : ∃ w8, News s.heap L h8 ((d, listOf (List.toArray w8) (k + 1)) :: [(I2, o''), (I, o)]) ∧ IntsAre w8 ((told.take i).foldl (toldStep ns ah as) [] ++ [ns.getD j 0]) ∧ w8.length ≤ vs.length + 1 :=
            ⟨_, N8, hvs.append (.cons _ _ .nil), by simp⟩
          refine tend [(d, listOf w8.toArray (k + 1))] F8 (nsub N8 (by walk_at "sub")) (off1 hdI) ⟨by walk_at "mlook", by walk_at "mlook", by walk_at "mlook", by walk_at "mlook", by walk_at "mlook", w8, _, rfl, ?_, by omega⟩
          rw [List.take_add_one, List.getElem?_eq_getElem hi', List.foldl_append]
          simp only [Option.toList, List.foldl_cons, List.foldl_nil]
          rw [e9]
          exact hw8
        · rename mayB _ _ _ = false => hm
          refine tend _ F7 N7 offJ ⟨by walk_at "mlook", by walk_at "mlook", by walk_at "mlook", by walk_at "mlook", by walk_at "mlook", by walk_at "mlook", rfl, ?_⟩
          intro j' hj'
          rcases Nat.lt_succ_iff_lt_or_eq.mp hj' with hj' | rfl
          · exact q7 j' hj'
          · unfold toldAt; rw [getD_lt _ _ hja, hlk, hc]; exact hm
      · rename (_ == told[i]) = false => hc
        refine tend _ FJ NJ offJ ⟨by walk_at "mlook", by walk_at "mlook", by walk_at "mlook", by walk_at "mlook", by walk_at "mlook", by walk_at "mlook", rfl, ?_⟩
        intro j' hj'
        rcases Nat.lt_succ_iff_lt_or_eq.mp hj' with hj' | rfl
        · exact q7 j' hj'
        · unfold toldAt; rw [getD_lt _ _ hja, hc]; rfl
    · intro m'' news'' h'' tk'' hJ FJ NJ
      obtain ⟨q1, q2, q3, q4, q5, q6, rfl, q7⟩ := hJ
      walk_at "mine"
      have e9 : toldStep ns ah as ((told.take i).foldl (toldStep ns ah as) []) told[i] = (told.take i).foldl (toldStep ns ah as) [] := by
        exact toldStep_none q7
      refine tend [(d, listOf vs.toArray k)] FJ (nsub NJ (by walk_at "sub")) off ⟨q1, q2, q3, q4, q5, vs, k, rfl, ?_, by omega⟩
      rw [List.take_add_one, List.getElem?_eq_getElem hi', List.foldl_append]
      simp only [Option.toList, List.foldl_cons, List.foldl_nil]
      rw [e9]; exact hvs
  · intro m' news h tk hj FL NL
    obtain ⟨j1, j2, j3, j4, j5, vs, k, rfl, hvs, hvk⟩ := hj
    have e1 : tvs.toArray.size = told.length := by simpa using htvl
    rw [e1, List.take_length] at hvs
    have hdl := (has_news NL).list (.head _)
    have hvn := hvs.length
    walk_at "mine"
    refine len_L ((H.keeps FL.keep).list htm) htvl (by omega) ?_
    walk_at "mine"
    · rename_i c1 c2
      refine newList_D FL NL (by simp) ?_
      intro D3 h9 F9 N9 l9 f9
      walk_at "mine"
      (try dsimp only)
      have e : toldOut ns ah as told = [toldRow ns ah as told] := by
        unfold toldOut; rw [if_pos]; unfold toldRow; omega
      refine hret D3 _ h9 _ F9.keep (has_news N9) (fun p hp => (N9 p hp).2.2) ?_
      rw [e]
      exact .list (.head _) (.cons (lz_in (.tail _ (.head _)) hvs) .nil)
    · rename_i c1 c2
      refine newList_D FL NL (by simp) ?_
      intro D3 h9 F9 N9 l9 f9
      walk_at "mine"
      (try dsimp only)
      have e : toldOut ns ah as told = [] := by
        unfold toldOut; rw [if_neg]; unfold toldRow; omega
      refine hret D3 _ h9 _ F9.keep (has_news N9) (fun p hp => (N9 p hp).2.2) ?_
      rw [e]
      exact .list (.head _) .nil
    · rename_i c1
      refine newList_D FL NL (by simp) ?_
      intro D3 h9 F9 N9 l9 f9
      walk_at "mine"
      (try dsimp only)
      have e : toldOut ns ah as told = [] := by
        unfold toldOut; rw [if_neg]; unfold toldRow; omega
      refine hret D3 _ h9 _ F9.keep (has_news N9) (fun p hp => (N9 p hp).2.2) ?_
      rw [e]
      exact .list (.head _) .nil
end

section

section
variable {prog : Program} {w : World} {A : Around} {E : Value → Shared → Prop} {s : Shared} {Q : Value → Shared → Prop} {g : Heap} {L : Addr} {m : Str → Option Value} {news l : Led}

theorem eq_D {a b : Addr} {ds es : List Dat} (H : Has s.heap l) (ha : DatIn l (.ref a) (.list ds)) (hb : DatIn l (.ref b) (.list es)) (oa : ∀ d ∈ ds, kqdOk 8 d = true) (ob : ∀ d ∈ es, kqdOk 8 d = true) (hu : A.units + 64 < cLine)
    (h : ∀ c, (c = true ↔ ds = es) → Q (.bool c) s) : wpAny (model prog w) A (compareOp .Eq (.ref a) (.ref b)) Q E s := by
  obtain ⟨a', vs, n, e, hm, hv⟩ := datIn_list ha
  cases e
  obtain ⟨b', us, k, e, hm', hv'⟩ := datIn_list hb
  cases e
  exact kqd_eq H.news hm rfl rfl hv (fun _ z => z) hm' rfl rfl hv' (fun _ z => z) oa ob hu (h _ (by simp))
theorem ne_D {a b : Addr} {ds es : List Dat} (H : Has s.heap l) (ha : DatIn l (.ref a) (.list ds)) (hb : DatIn l (.ref b) (.list es)) (oa : ∀ d ∈ ds, kqdOk 8 d = true) (ob : ∀ d ∈ es, kqdOk 8 d = true) (hu : A.units + 64 < cLine)
    (h : ∀ c, (c = true ↔ ds ≠ es) → Q (.bool c) s) : wpAny (model prog w) A (compareOp .NotEq (.ref a) (.ref b)) Q E s := by
  obtain ⟨a', vs, n, e, hm, hv⟩ := datIn_list ha
  cases e
  obtain ⟨b', us, k, e, hm', hv'⟩ := datIn_list hb
  cases e
  exact kqd_ne H.news hm rfl rfl hv (fun _ z => z) hm' rfl rfl hv' (fun _ z => z) oa ob hu (h _ (by simp))
theorem in_D {a : Addr} {x : Value} {d : Dat} {ds : List Dat} (H : Has s.heap l) (ha : DatIn l (.ref a) (.list ds)) (hx : DatIn l x d) (oa : ∀ d ∈ ds, kqdOk 8 d = true) (od : kqdOk 8 d = true) (hu : A.units + 64 < cLine)
    (h : ∀ c, (c = true ↔ d ∈ ds) → Q (.bool c) s) : wpAny (model prog w) A (compareOp .In x (.ref a)) Q E s := by
  obtain ⟨a', vs, n, e, hm, hv⟩ := datIn_list ha
  cases e
  exact kqd_isIn H.news hm rfl rfl hv (fun _ z => z) hx (fun _ z => z) oa od hu (h _ (by simp))
end

/-- a list of texts -/
def StrsAre (vs : List Value) (as : List Str) : Prop := DatAll [] vs (as.map Dat.str)
theorem StrsAre.mono {l : Led} {vs : List Value} {as : List Str} (h : StrsAre vs as) : DatAll l vs (as.map Dat.str) := DatAll.mono (news := []) (fun _ q => absurd q (List.not_mem_nil)) h
theorem strs_of {l : Led} : ∀ {vs : List Value} {as : List Str}, DatAll l vs (as.map Dat.str) → StrsAre vs as
  | _, [], h => by cases h; exact .nil
  | _, x :: xs, h => by
    rw [List.map_cons] at h
    cases h with
    | cons hd r => cases hd with
      | str _ t => exact .cons (.str x t) (strs_of r)
theorem StrsAre.length {vs : List Value} {as : List Str} (h : StrsAre vs as) : vs.length = as.length := by
  have := DatAll.length h; simpa using this
theorem StrsAre.get {vs : List Value} {as : List Str} (h : StrsAre vs as) {i : Nat} (hi : i < vs.length) (hi' : i < as.length) : ∃ t, vs[i] = .str as[i] t := by
  obtain ⟨v, e1, e2⟩ := DatAll.get (k := i) h (by simpa using hi')
  rw [List.getElem?_eq_getElem hi] at e1
  rw [Option.some.inj e1]
  rw [List.getElem_map] at e2
  cases e2 with
  | str _ t => exact ⟨t, rfl⟩
theorem StrsAre.append {vs us : List Value} {as bs : List Str} (h : StrsAre vs as) (k : StrsAre us bs) : StrsAre (vs ++ us) (as ++ bs) := by
  unfold StrsAre; rw [List.map_append]; exact DatAll.append h k
theorem StrsAre.take {vs : List Value} {as : List Str} (n : Nat) (h : StrsAre vs as) : StrsAre (vs.take n) (as.take n) := by
  unfold StrsAre; rw [List.map_take]; exact datAll_take n h
theorem StrsAre.dropLast {vs : List Value} {as : List Str} (h : StrsAre vs as) : StrsAre vs.dropLast as.dropLast := by
  rw [List.dropLast_eq_take, List.dropLast_eq_take, h.length]; exact h.take _
theorem StrsAre.drop {vs : List Value} {as : List Str} (n : Nat) (h : StrsAre vs as) : StrsAre (vs.drop n) (as.drop n) := by
  unfold StrsAre; rw [List.map_drop]; exact datAll_drop n h
theorem StrsAre.erase {vs : List Value} {as : List Str} (n : Nat) (h : StrsAre vs as) : StrsAre (vs.eraseIdx n) (as.eraseIdx n) := by
  rw [List.eraseIdx_eq_take_drop_succ, List.eraseIdx_eq_take_drop_succ]; exact (h.take n).append (h.drop (n + 1))
theorem hide_has {h : Heap} {src : Addr} {l : Led} (H : Has h l) (off : Off src l) : Has (h.hide src) l := fun p hp => (Heap.hide_ne h (off p hp)).trans (H p hp)
theorem strs_ok {as : List Str} (h : ∀ x ∈ as, PyData.strOk x = true) : ∀ d ∈ as.map Dat.str, kqdOk 8 d = true := by
  intro d hd; obtain ⟨x, hx, rfl⟩ := List.mem_map.mp hd; exact h x hx
theorem off_free {h : Heap} {l : Led} {D : Addr} (H : Has h l) (e : h.get? D = none) : Off D l := fun p hp q => by
  have z := H p hp
  rw [q, e] at z
  cases z
end

section


def ToldForm (as told : List Str) : Prop := ∃ p, p.Perm as ∧ (told = p ∨ told = p.dropLast ∨ told = p ++ p.take 1 ∨ told = p.dropLast ++ [PySem.Str.ofString "strange"])

theorem hide_fresh {h : Heap} {src D : Addr} (e : (h.hide src).get? D = none) (q : D ≠ src) : h.get? D = none := (Heap.hide_ne h q).symm.trans e
theorem erase_perm {α : Type} {l : List α} {i : Nat} (h : i < l.length) : (l[i] :: l.eraseIdx i).Perm l := by
  rw [List.eraseIdx_eq_take_drop_succ]
  refine (List.perm_middle.symm).trans ?_
  rw [← List.drop_eq_getElem_cons h, List.take_append_drop]

set_option maxHeartbeats 4000000 in
theorem ltold_spec {prog : Program} {w : World} {A : Around} {E : Value → Shared → Prop} {s : Shared} {Q : Value → Shared → Prop} {g : Heap} {l : Led} {av : Value} {src : Addr} {so : Obj} {as : List Str}
    (G : Gd w g) (hg : Kp g s.heap) (hsrc : g.get? src = none) (hs : s.heap.get? src = some so) (hso : SrcO so) (ok : Ok A 30) (H : Has s.heap l) (off : Off src l) (hav : DatIn l av (lstr as))
    (hal : ∀ x ∈ as, PyData.strOk x = true) (hlen : as.length ≤ 8)
    (h : ∀ a' l' h' tk' so' told, Heap.ExtBut src s.heap h' → h'.get? src = some so' → SrcO so' → Has h' l' → (∀ p ∈ l', s.heap.get? p.1 = none) → DatIn l' (.ref a') (lstr told) → ToldForm as told → Q (.ref a') { s with heap := h', toks := tk' }) :
    wpAny (model prog w) A (call (.ref 85) [.ref src, av] []) Q E s := by
  have hret := h
  have G' := hide_gd G hg hsrc
  obtain ⟨X, lo, mg, mb, T⟩ := id G'
  obtain ⟨ar, avs, an, rfl, ham, hav'⟩ := datIn_list hav
  have hS := strs_of hav'
  have hvl := hS.length
  have H' := hide_has H off
  walk_at "fill"
  refine enter X T.nolimit (fun b o e => Heap.of_hide e) (by rw [Heap.hide_size]; exact Nat.le_refl _) (by k_is) (by k_is) (by have := ok.2.1; omega) (BindsTo.of_eq rfl) (locs rfl) ?_ rfl rfl rfl (by decide)
  intro L h₁ tk F hL hk₁
  have N : News (s.heap.hide src) L h₁ [(src, so)] := fun p hp => by
    rw [List.mem_singleton.mp hp]
    exact ⟨hk₁ _ _ hs, fun e => by have := Heap.lt_size hs; exact Nat.ne_of_lt this (e.trans hL), Heap.hide_self _ _⟩
  obtain ⟨m, F, hm1, hm2⟩ : ∃ m, Fr (s.heap.hide src) L h₁ m ∧ m "source" = some (.ref src) ∧ m "aliases" = some (.ref ar) := ⟨_, F, rfl, rfl⟩
  walk_at "mine"
  refine list_copyK F N ((H'.keeps F.keep).list ham) ?_ (by rw [List.size_toArray]; exact Nat.le_trans (by omega : avs.length ≤ 1000000) (by decide))
  intro Dl c h₂ F₂ N₂ l₂
  have l2 := allLt_of l₂
  simp only [AllLt] at l2
  walk_at "mine"
  refine newList_D F₂ N₂ (by decide) ?_
  intro Dt h₃ F₃ N₃ l₃ f₃
  have l3 := allLt_of l₃
  simp only [AllLt] at l3
  walk_at "mine"
  rename Fr _ _ _ _ => F₄
  rename News _ _ _ _ => N₄
  (try dsimp only)
  refine unpackItemsN_ F₄ N₄ (N₄.isTup (.head _)) ok.1 rfl ?_
  intro h₅ F₅ N₅
  walk_at "mine"
  rename Fr _ _ _ _ => F₆
  rename News _ _ _ _ => N₆
  refine wpAny_While ?_
  refine while_goN (L := L) (fun k m news => m "source" = some (.ref src) ∧ m "aliases" = some (.ref ar) ∧ m "left" = some (.ref Dl) ∧ m "told" = some (.ref Dt) ∧
    ∃ so vs1 k1 vs2 k2 lf td, news = [(src, so), (Dl, listOf vs1.toArray k1), (Dt, listOf vs2.toArray k2)] ∧ SrcO so ∧ StrsAre vs1 lf ∧ StrsAre vs2 td ∧ (td ++ lf).Perm as ∧ lf.length = k) as.length rfl F₆
    (nsub N₆ (l := [(src, so), (Dl, listOf avs.toArray c), (Dt, listOf [].toArray 0)]) (by walk_at "sub")) ?_ ?_
  · exact ⟨by walk_at "mlook", by walk_at "mlook", by walk_at "mlook", by walk_at "mlook", so, avs, c, [], 0, as, [], rfl, hso, hS, .nil, .refl _, rfl⟩
  · rintro k m' news h tk ⟨j1, j2, j3, j4, so, vs1, k1, vs2, k2, lf, td, rfl, hso, q1, q2, hp, rfl⟩ FL NL
    have hpl := hp.length_eq
    rw [List.length_append] at hpl
    have q1l := q1.length
    have q2l := q2.length
    walk_at "mine"
    refine newList_D FL NL (by decide) ?_
    intro De h₇ F₇ N₇ l₇ f₇
    walk_at "mine"
    have hal' : ∀ x ∈ lf, PyData.strOk x = true := fun x hx => hal x (hp.subset (List.mem_append_right _ hx))
    refine ne_D (has_news N₇) (.list (.tail _ (.tail _ (.head _))) q1.mono) (.list (.head _) (.nil : DatAll _ [] [])) (strs_ok hal') (by simp) (by have := ok.2.2; simp only [Around.deeper_units]; omega) ?_
    intro cb hcb
    cases cb
    rotate_left
    · walk_at "mine"
      have hlf : lf ≠ [] := fun e => by
        have q := hcb.mp rfl
        rw [e] at q
        exact q rfl
      have hlf0 : 0 < lf.length := List.length_pos_iff.mpr hlf
      refine kf_method N₇ (.tail _ (.tail _ (.head _))) PySem.F.slot_list_pop PySem.F.type_list_pop ?_
      walk_at "mine"
      refine len_L ((has_news N₇).list (.tail _ (.tail _ (.head _)))) q1l (by omega) ?_
      walk_at "mine"
      have hne : Dl ≠ Dt ∧ src ≠ Dl ∧ src ≠ Dt := ⟨by refine Nat.ne_of_lt ?_; omega, by refine Nat.ne_of_lt ?_; omega, by refine Nat.ne_of_lt ?_; omega⟩
      refine take_L G' (ok.deeper.le (by decide)) F₇ (nsub N₇ (l := (src, so) :: [(Dl, listOf vs1.toArray k1), (Dt, listOf vs2.toArray k2)]) (by walk_at "sub")) hso (Off.cons (Ne.symm hne.2.1) (Off.cons (Ne.symm hne.2.2) Off.nil)) (by omega) (by omega) ?_
      intro r t h8 tk8 so8 r0 r1 F8 N8 hso8 he8
      walk_at "mine"
      have hr1 : r.toNat < vs1.length := by omega
      refine pop_L F8 (nsub N8 (l := (Dl, listOf vs1.toArray k1) :: [(src, so8), (Dt, listOf vs2.toArray k2)]) (by walk_at "sub")) (Off.cons hne.2.1 (Off.cons (Ne.symm hne.1) Off.nil)) (by omega) r0 hr1 ?_
      intro h9 k9 F9 N9
      obtain ⟨tx, ex⟩ := q1.get hr1 (by omega)
      rw [ex]
      walk_at "mine"
      refine append_L F9 (nsub N9 (l := (Dt, listOf vs2.toArray k2) :: [(Dl, listOf (vs1.eraseIdx r.toNat).toArray k9), (src, so8)]) (by walk_at "sub")) (Off.cons hne.1 (Off.cons hne.2.2 Off.nil)) (by omega) ?_
      intro h10 F10 N10 s10
      walk_at "mine"
      (try dsimp only [WTurnPost])
      obtain ⟨w2, hw2⟩ : ∃ w2, w2 = vs2 ++ [Value.str (lf[r.toNat]'(by omega)) tx] := ⟨_, rfl⟩
      rw [← hw2] at N10
      refine wendN [(src, so8), (Dl, listOf (vs1.eraseIdx r.toNat).toArray k9), (Dt, listOf w2.toArray (k2 + 1))] F10 (nsub N10 (by walk_at "sub")) ⟨lf.length - 1, by omega, j1, j2, j3, j4, so8, _, _, w2, _, lf.eraseIdx r.toNat, td ++ [lf[r.toNat]'(by omega)], rfl, hso8, q1.erase _, ?_, ?_, ?_⟩
      · rw [hw2]; exact q2.append (.cons (.str _ _) .nil)
      · refine List.Perm.trans ?_ hp
        rw [List.append_assoc]
        exact List.Perm.append_left _ (erase_perm (by omega))
      · rw [List.length_eraseIdx_of_lt (by omega)]
    · have hlf : lf = [] := by
        cases lf with
        | nil => rfl
        | cons x y => have q := hcb.mpr (fun q => by cases q); cases q
      subst hlf
      rw [List.append_nil] at hp
      walk_at "mine"
      refine take_L G' (ok.deeper.le (by decide)) F₇ (nsub N₇ (l := (src, so) :: [(Dl, listOf vs1.toArray k1), (Dt, listOf vs2.toArray k2)]) (by walk_at "sub")) hso (Off.cons (by refine Nat.ne_of_gt ?_; omega) (Off.cons (by refine Nat.ne_of_gt ?_; omega) Off.nil)) (by omega) (by omega) ?_
      intro r t h8 tk8 so8 r0 r1 F8 N8 hso8 he8
      walk_at "mine"
      · walk_at "cut"
        intro D9 h9 F9 N9 l9 f9
        walk_at "mine"
        (try dsimp only)
        have hD : D9 ≠ src := by have := l9 _ (.head _); exact Nat.ne_of_gt this
        refine hret D9 [(D9, _)] h9 _ so8 _ (fun b o hb q => F9.keep _ _ ((Heap.hide_ne _ hb).trans q)) (N9 _ (.tail _ (.head _))).1 hso8 (fun p hp => by rw [List.mem_singleton.mp hp]; exact (N9 _ (.head _)).1) ?_ (.list (.head _) q2.dropLast.mono) ⟨td, hp, .inr (.inl rfl)⟩
        exact fun p hp => by rw [List.mem_singleton.mp hp]; exact hide_fresh (N9 _ (.head _)).2.2 hD
      · walk_at "cut"
        intro D9 h9 F9 N9 l9 f9
        walk_at "mine"
        refine add_D (xs := vs2) (ys := vs2.take 1) F9 N9 (News.isList N9 (.tail _ (.tail _ (.tail _ (.head _))))) (News.isList N9 (.head _)) (by simp; omega) ?_
        intro D10 h10 F10 N10 l10 f10
        walk_at "mine"
        (try dsimp only)
        have hD : D10 ≠ src := by have := l10 _ (.tail _ (.head _)); exact Nat.ne_of_gt this
        refine hret D10 [(D10, _)] h10 _ so8 _ (fun b o hb q => F10.keep _ _ ((Heap.hide_ne _ hb).trans q)) (N10 _ (.tail _ (.tail _ (.head _)))).1 hso8 (fun p hp => by rw [List.mem_singleton.mp hp]; exact (N10 _ (.head _)).1) ?_ (.list (.head _) (q2.append (q2.take 1)).mono) ⟨td, hp, .inr (.inr (.inl rfl))⟩
        exact fun p hp => by rw [List.mem_singleton.mp hp]; exact hide_fresh (N10 _ (.head _)).2.2 hD
      · walk_at "cut"
        intro D9 h9 F9 N9 l9 f9
        walk_at "mine"
        refine newList_D F9 N9 (by simp) ?_
        intro D10 h10 F10 N10 l10 f10
        walk_at "mine"
        refine add_D (xs := vs2.dropLast) F10 N10 (News.isList N10 (.tail _ (.head _))) (News.isList N10 (.head _)) (by simp; omega) ?_
        intro D11 h11 F11 N11 l11 f11
        walk_at "mine"
        (try dsimp only)
        have hD : D11 ≠ src := by have := l11 _ (.tail _ (.tail _ (.head _))); exact Nat.ne_of_gt this
        refine hret D11 [(D11, _)] h11 _ so8 _ (fun b o hb q => F11.keep _ _ ((Heap.hide_ne _ hb).trans q)) (N11 _ (.tail _ (.tail _ (.tail _ (.head _))))).1 hso8 (fun p hp => by rw [List.mem_singleton.mp hp]; exact (N11 _ (.head _)).1) ?_ (.list (.head _) (StrsAre.append (bs := [PySem.Str.ofString "strange"]) q2.dropLast (.cons (.str _ _) .nil)).mono) ⟨td, hp, .inr (.inr (.inr rfl))⟩
        exact fun p hp => by rw [List.mem_singleton.mp hp]; exact hide_fresh (N11 _ (.head _)).2.2 hD
      · walk_at "mine"
        (try dsimp only)
        rename Fr _ _ _ _ => F9
        rename News _ _ _ _ => N9
        have hD : Dt ≠ src := by refine Nat.ne_of_gt ?_; omega
        refine hret Dt [(Dt, _)] _ _ so8 _ (fun b o hb q => F9.keep _ _ ((Heap.hide_ne _ hb).trans q)) (N9 _ (.head _)).1 hso8 (fun p hp => by rw [List.mem_singleton.mp hp]; exact (N9 _ (.tail _ (.tail _ (.head _)))).1) ?_ (.list (.head _) q2.mono) ⟨td, hp, .inl rfl⟩
        exact fun p hp => by rw [List.mem_singleton.mp hp]; exact hide_fresh (N9 _ (.tail _ (.tail _ (.head _)))).2.2 hD
end

section


set_option maxHeartbeats 4000000 in
theorem one_spec {prog : Program} {w : World} {A : Around} {E : Value → Shared → Prop} {s : Shared} {Q : Value → Shared → Prop} {g : Heap} {l : Led} {tv : Value} {src : Addr} {so : Obj} {ds : List Dat}
    (G : Gd w g) (hg : Kp g s.heap) (hsrc : g.get? src = none) (hs : s.heap.get? src = some so) (hso : SrcO so) (ok : Ok A 10) (H : Has s.heap l) (off : Off src l) (htv : DatIn l tv (.list ds))
    (h1 : 1 ≤ ds.length) (h2 : ds.length ≤ 100)
    (h : ∀ v d h' tk' so', Heap.ExtBut src s.heap h' → h'.get? src = some so' → SrcO so' → d ∈ ds → DatIn l v d → Q v { s with heap := h', toks := tk' }) :
    wpAny (model prog w) A (call (.ref 66) [.ref src, tv] []) Q E s := by
  have hret := h
  have G' := hide_gd G hg hsrc
  obtain ⟨X, lo, mg, mb, T⟩ := id G'
  obtain ⟨ar, avs, an, rfl, ham, hav'⟩ := datIn_list htv
  have hvl := hav'.length
  have H' := hide_has H off
  walk_at "fill"
  refine enter X T.nolimit (fun b o e => Heap.of_hide e) (by rw [Heap.hide_size]; exact Nat.le_refl _) (by k_is) (by k_is) (by have := ok.2.1; omega) (BindsTo.of_eq rfl) (locs rfl) ?_ rfl rfl rfl (by decide)
  intro L h₁ tk F hL hk₁
  have N : News (s.heap.hide src) L h₁ [(src, so)] := fun p hp => by
    rw [List.mem_singleton.mp hp]
    exact ⟨hk₁ _ _ hs, fun e => by have := Heap.lt_size hs; exact Nat.ne_of_lt this (e.trans hL), Heap.hide_self _ _⟩
  obtain ⟨m, F, hm1, hm2⟩ : ∃ m, Fr (s.heap.hide src) L h₁ m ∧ m "source" = some (.ref src) ∧ m "things" = some (.ref ar) := ⟨_, F, rfl, rfl⟩
  walk_at "mine"
  refine len_L ((H'.keeps F.keep).list ham) hvl (by omega) ?_
  walk_at "mine"
  refine take_L G' (ok.deeper.le (by decide)) F N hso Off.nil (by omega) (by omega) ?_
  intro r t h' tk' so' r0 r1 F' N' hso' he
  walk_at "mine"
  refine item_D (H'.keeps F'.keep) htv r0 (d := ds[r.toNat]'(by omega)) (by simp) (by omega) ?_
  intro v dv
  walk_at "mine"
  dsimp only
  refine hret v _ h' _ so' (fun b o hb q => F'.keep _ _ ((Heap.hide_ne _ hb).trans q)) (N' _ (.head _)).1 hso' (List.getElem_mem _) dv
end

section


def MidPool (g : Heap) (L : Addr) (u : Tok) (s : Shared) (f : Flow) (s' : Shared) : Prop :=
  f = Flow.next ∧ ∃ h tk m c t, s' = { s with heap := h, toks := tk } ∧ Fr g L h m ∧ News g L h [] ∧ m "k" = some (.int 0 u) ∧ m "cell" = some (.int c t)
theorem MidPool.mk {g h : Heap} {L : Addr} {u : Tok} {s : Shared} {tk : Nat} {m : Str → Option Value} {c : Int} {t : Tok} (F : Fr g L h m) (N : News g L h []) (q1 : m "k" = some (.int 0 u)) (q2 : m "cell" = some (.int c t)) :
    MidPool g L u s .next { s with heap := h, toks := tk } := ⟨rfl, h, tk, m, c, t, rfl, F, N, q1, q2⟩

set_option maxHeartbeats 4000000 in
theorem pool_spec {prog : Program} {w : World} {A : Around} {E : Value → Shared → Prop} {s : Shared} {Q : Value → Shared → Prop} {ar : Addr} {avs : List Value} {ns : List Int} {u : Tok}
    (G : Gd w s.heap) (ok : Ok A 10) (hl : s.heap.IsList ar avs.toArray) (hI : IntsAre avs ns) (h2 : ns.length ≤ 100)
    (h : ∀ a' so' h' tk', Kp s.heap h' → h'.get? a' = some so' → s.heap.get? a' = none → SrcO so' → Q (.ref a') { s with heap := h', toks := tk' }) :
    wpAny (model prog w) A (call (.ref 52) [.ref ar, .int 0 u] []) Q E s := by
  have hret := h
  obtain ⟨X, lo, mg, mb, T⟩ := id G
  have hvl := hI.length
  have lk : ∀ {h' : Heap}, Kp s.heap h' → h'.IsList ar avs.toArray := fun k => by
    obtain ⟨o, ho, r⟩ := hl
    exact ⟨o, k _ _ ho, r⟩
  clear hl
  walk_at "fill"
  refine enter X T.nolimit (Kp.refl _) (Nat.le_refl _) (by k_is) (by k_is) (by have := ok.2.1; omega) (BindsTo.of_eq rfl) (locs rfl) ?_ rfl rfl rfl (by decide)
  intro L h₁ tk F hL hk₁
  have N : News s.heap L h₁ [] := News.nil
  obtain ⟨m, F, hm1, hm2⟩ : ∃ m, Fr s.heap L h₁ m ∧ m "script" = some (.ref ar) ∧ m "k" = some (.int 0 u) := ⟨_, F, rfl, rfl⟩
  repeat' (
    (fail_if_success (with_reducible show wpAny _ _ (execs (Stmt.If _ _ _ _ :: _) _) _ _ _));
    first | (k_unfold; (try dsimp only)) | walk1 | (dsimp only; walk1))
  rename Fr _ _ _ _ => F'
  rename News _ _ _ _ => N'
  refine wpAny_execs_cons (wpAny_mono (Q := MidPool s.heap L u s) ?_ ?_ (fun _ _ e => e))
  · walk_at "mine"
    refine len_L (by exact lk F'.keep) hvl (by omega) ?_
    walk_at "mine"
    · obtain ⟨t, e0⟩ := hI.get 0 (ns.getD 0 0) (by
        cases ns with
        | nil => simp at *
        | cons x xs => rfl)
      refine item_litK (by exact lk F'.keep) (by decide) (by decide) e0 ?_ (by with_unfolding_all rfl)
      walk_at "mine"
      rename Fr _ _ _ _ => F''
      rename News _ _ _ _ => N''
      exact MidPool.mk F'' N'' (by walk_at "mlook") (by walk_at "mlook")
    · exact MidPool.mk F' N' (by walk_at "mlook") (by walk_at "mlook")
  · rintro f s' ⟨rfl, h3, tk3, m3, c3, t3, rfl, F3, N3, q1, q2⟩
    walk_at "mine"
    refine max_two_N ok.1 F3 N3 ?_
    intro h' tk' F' N'
    walk_at "mine"
    rename Fr _ _ _ _ => F'
    rename News _ _ _ _ => N'
    refine newList_D F' N' (by simp) ?_
    intro D h'' F'' N'' l'' f''
    walk_at "mine"
    dsimp only
    refine hret D _ h'' _ F''.keep (N'' _ (.head _)).1 (N'' _ (.head _)).2.2 ⟨_, _, _, _, _, rfl, ?_, ?_, ?_⟩
    · refine Int.mul_nonneg ?_ ?_
      · split <;> omega
      · repeat' split
        all_goals decide
    · exact Int.fmod_nonneg_of_pos _ (by decide)
    · exact Int.lt_trans (Int.fmod_lt_of_pos _ (by decide)) (by decide)
end

section


def costD : Option Int → Dat
  | none => .none
  | some c => .int c
def bestStep (ah : List (Int × List Int)) (cost : Int → Nat → Option Int) (row : List Int) (b : Option (Int × Int)) (n : Int) : Option (Int × Int) :=
  match (if mayB n row (lk ah n) then cost n row.length else none) with
  | none => b
  | some c => match b with
    | none => some (n, c)
    | some (bn, bc) => if c < bc then some (n, c) else some (bn, bc)
def best (ns : List Int) (ah : List (Int × List Int)) (cost : Int → Nat → Option Int) (row : List Int) : Option (Int × Int) := ns.foldl (bestStep ah cost row) none
def greedyRow (ns : List Int) (ah : List (Int × List Int)) (cost : Int → Nat → Option Int) : Nat → List Int → List (List Int)
  | 0, row => [row]
  | n + 1, row => match best ns ah cost row with
    | none => []
    | some (b, _) => greedyRow ns ah cost n (row ++ [b])
def IsBest (bv lv : Option Value) : Option (Int × Int) → Prop
  | none => bv = some .none ∧ lv = some .none
  | some (b, c) => (∃ t, bv = some (.int b t)) ∧ ∃ t, lv = some (.int c t)
/-- what the call of the closure gives -/
def Worth (prog : Program) (w : World) (g : Heap) (W : Addr) (ns : List Int) (cost : Int → Nat → Option Int) : Prop :=
  ∀ (A : Around) (E : Value → Shared → Prop) (s : Shared) (Q : Value → Shared → Prop) (l : Led) (a : Addr) (n : Int) (t : Tok) (row : List Int), Ok A 10 → Kp g s.heap → Has s.heap l → DatIn l (.ref a) (lz row) → n ∈ ns → row.length < ns.length →
    (∀ v h' tk', Kp s.heap h' → DatIn [] v (costD (cost n row.length)) → Q v { s with heap := h', toks := tk' }) → wpAny (model prog w) A (call (.ref W) [.int n t, .ref a] []) Q E s

section
variable {ah : List (Int × List Int)} {cost : Int → Nat → Option Int} {row : List Int} {b : Option (Int × Int)} {n c bn bc : Int}
theorem bs_no (h : mayB n row (lk ah n) = false) : bestStep ah cost row b n = b := by unfold bestStep; rw [h]; rfl
theorem bs_none (h : cost n row.length = none) : bestStep ah cost row b n = b := by unfold bestStep; rw [h]; split <;> simp_all
theorem bs_first (h : mayB n row (lk ah n) = true) (hc : cost n row.length = some c) : bestStep ah cost row none n = some (n, c) := by unfold bestStep; rw [h, hc]; rfl
theorem bs_lt (h : mayB n row (lk ah n) = true) (hc : cost n row.length = some c) (hl : c < bc) : bestStep ah cost row (some (bn, bc)) n = some (n, c) := by unfold bestStep; rw [h, hc]; simp [hl]
theorem bs_ge (h : mayB n row (lk ah n) = true) (hc : cost n row.length = some c) (hl : ¬ c < bc) : bestStep ah cost row (some (bn, bc)) n = some (bn, bc) := by unfold bestStep; rw [h, hc]; simp [hl]
end
theorem fnAt_keeps {q : Addr} {h h' : Heap} (x : FnAt q h) (k : Kp h h') : FnAt q h' := by
  obtain ⟨a, b, c, d, e⟩ := x
  exact ⟨a, b, c, d, k _ _ e⟩

set_option maxHeartbeats 4000000 in
theorem greedy_spec {prog : Program} {w : World} {A : Around} {E : Value → Shared → Prop} {s : Shared} {Q : Value → Shared → Prop} {l : Led} {nv : Value} {a W : Addr} {ns : List Int} {ah : List (Int × List Int)} {cost : Int → Nat → Option Int}
    (G : Gd w s.heap) (ok : Ok A 30) (H : Has s.heap l) (hn : DatIn l nv (lz ns)) (ha : AheadIs prog w l a ah) (hk : ∀ n ∈ ns, ∃ x, ah.lookup n = some x ∧ x.length ≤ 1000) (hW : Worth prog w s.heap W ns cost) (hfn : FnAt W s.heap)
    (hsz : ns.length ≤ 4)
    (h : ∀ a' l' h' tk', Kp s.heap h' → Has h' l' → (∀ p ∈ l', s.heap.get? p.1 = none) → DatIn l' (.ref a') (lzz (greedyRow ns ah cost ns.length [])) → Q (.ref a') { s with heap := h', toks := tk' }) :
    wpAny (model prog w) A (call (.ref 45) [nv, .ref a, .ref W] []) Q E s := by
  have hret := h
  obtain ⟨X, lo, mg, mb, T⟩ := id G
  obtain ⟨nr, nvs, nn, rfl, hnm, hnv⟩ := datIn_list hn
  have hI := datAll_ints hnv
  have hnl := H.list hnm
  have hvl := hI.length
  have hh := ok.1
  walk_at "fill"
  refine enter X T.nolimit (Kp.refl _) (Nat.le_refl _) (by k_is) (by k_is) (by have := ok.2.1; omega) (BindsTo.of_eq rfl) (locs rfl) ?_ rfl rfl rfl (by decide)
  intro L h₁ tk F hL hk₁
  have N : News s.heap L h₁ [] := News.nil
  obtain ⟨m, F, hm1, hm2, hm3⟩ : ∃ m, Fr s.heap L h₁ m ∧ m "numbers" = some (.ref nr) ∧ m "ahead" = some (.ref a) ∧ m "worth" = some (.ref W) := ⟨_, F, rfl, rfl, rfl⟩
  walk_at "mine"
  refine newList_D F N (by decide) ?_
  intro d h₂ F₂ N₂ l₂ f₂
  walk_at "mine"
  rename Fr _ _ _ _ => F₃
  rename News _ _ _ _ => N₃
  refine wpAny_For ?_
  walk_at "mine"
  refine range1_rows F₃ N₃ ?_
  intro h₅ tk₅ t₁ u₁ v₁ hr F₅ N₅ k₅
  walk_at "mine"
  refine iter_range F₅ N₅ hr (by omega) (by omega) ?_
  intro I h₄ o₄ F₄ N₄ hio l₄ k₄ f₄
  have l4 := allLt_of l₄
  simp only [AllLt] at l4
  refine for_go (L := L) (fun i m news => m "numbers" = some (.ref nr) ∧ m "ahead" = some (.ref a) ∧ m "worth" = some (.ref W) ∧
      ∃ d vs k row, m "row" = some (.ref d) ∧ news = [(d, listOf vs.toArray k)] ∧ IntsAre vs row ∧ row.length = i ∧ greedyRow ns ah cost ns.length [] = greedyRow ns ah cost (ns.length - i) row)
    rfl (It.range0 (A := A.deeper _) ok.1) rfl rfl F₄ (nsub N₄ (l := (I, o₄) :: [(d, listOf [].toArray 0)]) (by walk_at "sub")) (by walk_at "off") hio ?_ ?_ ?_
  · exact ⟨by walk_at "mlook", by walk_at "mlook", by walk_at "mlook", d, [], 0, [], by walk_at "mlook", rfl, .nil, rfl, rfl⟩
  · intro i v m' news h tk o hi hv hj off FL NL hio
    obtain ⟨j1, j2, j3, d, vs, k, row, j4, rfl, hvs, hrl, hgr⟩ := hj
    obtain ⟨ti, rfl⟩ := hv
    have hdI : d ≠ I := off _ (.head _)
    walk_at "mine"
    rename Fr _ _ _ _ => F₅
    rename News _ _ _ _ => N₅
    (try dsimp only)
    refine unpackN_ F₅ N₅ (N₅.isTup (.head _)) ok.1 rfl rfl ?_
    intro h₆ F₆ N₆
    walk_at "mine"
    rename Fr _ _ _ _ => F₆
    rename News _ _ _ _ => N₆
    refine wpAny_For ?_
    walk_at "mine"
    have HB : Has s.heap l := H
    refine iter_list F₆ N₆ ((H.keeps F₆.keep).list hnm) ?_
    intro I2 h7 o7 F7 N7 hio7 l7 k7 f7
    have l7' := allLt_of l7
    simp only [AllLt] at l7'
    have hrl' : vs.length = row.length := hvs.length
    refine for_goN (L := L) (fun j m news => m "numbers" = some (.ref nr) ∧ m "ahead" = some (.ref a) ∧ m "worth" = some (.ref W) ∧ m "row" = some (.ref d) ∧
      IsBest (m "best") (m "least") ((ns.take j).foldl (bestStep ah cost row) none) ∧ news = [(d, listOf vs.toArray k), (I, o)])
      rfl (It.list (A := A.deeper _) (g := s.heap) ok.1 (H.list hnm)) rfl rfl F7 (nsub N7 (l := (I2, o7) :: [(d, listOf vs.toArray k), (I, o)]) (by walk_at "sub")) (by walk_at "off") hio7 ?_ ?_ ?_
    · exact ⟨by walk_at "mlook", by walk_at "mlook", by walk_at "mlook", by walk_at "mlook", ⟨by walk_at "mlook", by walk_at "mlook"⟩, rfl⟩
    · intro j v m'' news'' h'' tk'' o'' hj hv hJ offJ FJ NJ hioJ
      obtain ⟨q1, q2, q3, q4, q5, rfl⟩ := hJ
      have hj' : j < ns.length := by simp at hj; omega
      obtain ⟨tn, rfl⟩ : ∃ t, v = .int ns[j] t := by
        obtain ⟨nv, e1, e2⟩ := hnv.get (k := j) (by simpa using hj')
        rw [show nvs[j]? = some v from by simpa using hv] at e1
        obtain rfl := Option.some.inj e1
        rw [List.getElem_map] at e2
        exact datIn_int e2
      walk_at "mine"
      have HJ : Has h'' [(d, listOf vs.toArray k)] := fun p hp => has_news NJ p (by walk_at "sub2")
      obtain ⟨ahk, hka, hkl⟩ := hk ns[j] (List.getElem_mem hj')
      refine may_spec (l := (d, listOf vs.toArray k) :: l) (G.keeps FJ.keep) (ok.deeper.le (by decide)) (HJ.app (H.keeps FJ.keep)) (lz_in (.head _) hvs) (ha.mono fun p hp => .tail _ hp) hka hkl ?_
      intro h8 tk8 k8
      have F8 := Fr.keeps FJ k8
      have N8 := News.grown NJ k8
      have hlk : lk ah ns[j] = ahk := by unfold lk; rw [hka]; rfl
      have e9 : (ns.take (j + 1)).foldl (bestStep ah cost row) none = bestStep ah cost row ((ns.take j).foldl (bestStep ah cost row) none) ns[j] := by
        rw [List.take_add_one, List.getElem?_eq_getElem hj', List.foldl_append]
        rfl
      walk_at "mine"
      · rename mayB _ _ _ = true => hm
        refine callWith_F (fnAt_keeps hfn F8.keep) ?_
        walk_at "mine"
        · exact fnAt_keeps hfn F8.keep
        walk_at "mine"
        have HJ8 : Has h8 [(d, listOf vs.toArray k)] := fun p hp => has_news N8 p (by walk_at "sub2")
        refine hW _ _ _ _ [(d, listOf vs.toArray k)] d ns[j] _ row (ok.deeper.le (by decide)) F8.keep HJ8 (lz_in (.head _) hvs) (List.getElem_mem hj') (by omega) ?_
        intro cv h9 tk9 k9 hcv
        have F9 := Fr.keeps F8 k9
        have N9 := News.grown N8 k9
        cases hc : cost ns[j] row.length with
        | none =>
          rw [hc] at hcv
          cases hcv
          walk_at "mine"
          rename Fr _ _ _ _ => FX
          rename News _ _ _ _ => NX
          refine tend _ FX NX offJ ⟨by walk_at "mlook", by walk_at "mlook", by walk_at "mlook", by walk_at "mlook", ?_, rfl⟩
          rw [e9, bs_none hc]
          exact q5
        | some c =>
          rw [hc] at hcv
          cases hcv with
          | int _ tc => ?_
          cases hb : (ns.take j).foldl (bestStep ah cost row) none with
          | none =>
            rw [hb] at q5 e9
            obtain ⟨b1, b2⟩ := q5
            walk_at "mine"
            rename Fr _ _ _ _ => FX
            rename News _ _ _ _ => NX
            (try dsimp only)
            refine unpackItemsN_ FX NX (NX.isTup (.head _)) ok.1 rfl ?_
            intro h10 F10 N10
            walk_at "mine"
            rename Fr _ _ _ _ => FX
            rename News _ _ _ _ => NX
            refine tend _ FX (nsub NX (l := (I2, o'') :: [(d, listOf vs.toArray k), (I, o)]) (by walk_at "sub")) offJ ⟨by walk_at "mlook", by walk_at "mlook", by walk_at "mlook", by walk_at "mlook", ?_, rfl⟩
            rw [e9, bs_first (by rw [hlk]; exact hm) hc]
            exact ⟨⟨_, by walk_at "mlook"⟩, ⟨_, by walk_at "mlook"⟩⟩
          | some p =>
            obtain ⟨bn, bc⟩ := p
            rw [hb] at q5 e9
            obtain ⟨⟨t1, b1⟩, ⟨t2, b2⟩⟩ := q5
            walk_at "mine"
            · rename c < bc => hlt
              rename Fr _ _ _ _ => FX
              rename News _ _ _ _ => NX
              (try dsimp only)
              refine unpackItemsN_ FX NX (NX.isTup (.head _)) ok.1 rfl ?_
              intro h10 F10 N10
              walk_at "mine"
              rename Fr _ _ _ _ => FX
              rename News _ _ _ _ => NX
              refine tend _ FX (nsub NX (l := (I2, o'') :: [(d, listOf vs.toArray k), (I, o)]) (by walk_at "sub")) offJ ⟨by walk_at "mlook", by walk_at "mlook", by walk_at "mlook", by walk_at "mlook", ?_, rfl⟩
              rw [e9, bs_lt (by rw [hlk]; exact hm) hc hlt]
              exact ⟨⟨_, by walk_at "mlook"⟩, ⟨_, by walk_at "mlook"⟩⟩
            · rename ¬ c < bc => hlt
              rename Fr _ _ _ _ => FX
              rename News _ _ _ _ => NX
              refine tend _ FX NX offJ ⟨by walk_at "mlook", by walk_at "mlook", by walk_at "mlook", by walk_at "mlook", ?_, rfl⟩
              rw [e9, bs_ge (by rw [hlk]; exact hm) hc hlt]
              exact ⟨⟨t1, by walk_at "mlook"⟩, ⟨t2, by walk_at "mlook"⟩⟩
      · rename mayB _ _ _ = false => hm
        rename Fr _ _ _ _ => FX
        rename News _ _ _ _ => NX
        refine tend _ FX NX offJ ⟨by walk_at "mlook", by walk_at "mlook", by walk_at "mlook", by walk_at "mlook", ?_, rfl⟩
        rw [e9, bs_no (by rw [hlk]; exact hm)]
        exact q5
    · intro m'' news'' h'' tk'' hJ FJ NJ
      obtain ⟨q1, q2, q3, q4, q5, rfl⟩ := hJ
      have e1 : nvs.toArray.size = ns.length := by simpa using hvl
      rw [e1, List.take_length] at q5
      change IsBest _ _ (best ns ah cost row) at q5
      cases hb : best ns ah cost row with
      | none =>
        rw [hb] at q5
        obtain ⟨b1, b2⟩ := q5
        walk_at "mine"
        refine newList_D FJ NJ (by simp) ?_
        intro D9 h9 F9 N9 l9 f9
        walk_at "mine"
        (try dsimp only [ForPost])
        walk_at "mine"
        have e : greedyRow ns ah cost ns.length [] = [] := by
          rw [hgr, show ns.length - i = (ns.length - i - 1) + 1 by omega, greedyRow, hb]
        refine hret D9 [(D9, _)] h9 _ F9.keep (fun p hp => by rw [List.mem_singleton.mp hp]; exact (N9 _ (.head _)).1) (fun p hp => by rw [List.mem_singleton.mp hp]; exact (N9 _ (.head _)).2.2) ?_
        rw [e]
        exact .list (.head _) .nil
      | some p =>
        obtain ⟨bn, bc⟩ := p
        rw [hb] at q5
        obtain ⟨⟨t1, b1⟩, ⟨t2, b2⟩⟩ := q5
        walk_at "mine"
        refine newList_D FJ NJ (by simp) ?_
        intro D9 h9 F9 N9 l9 f9
        walk_at "mine"
        refine add_D (xs := vs) (ys := [.int bn t1]) F9 N9 (News.isList N9 (.tail _ (.head _))) (News.isList N9 (.head _)) (by simp; omega) ?_
        intro D10 h10 F10 N10 l10 f10
        walk_at "mine"
        (try dsimp only [ForPost])
        rename Fr _ _ _ _ => FX
        rename News _ _ _ _ => NX
        have hID : D10 ≠ I := by have := l10 (I, o) (by simp); exact Nat.ne_of_gt this
        obtain ⟨w8, hw8, NX⟩ : ∃ w8, IntsAre w8 (row ++ [bn]) ∧ News s.heap L _ ((I, o) :: [(D10, listOf w8.toArray 0)]) := ⟨_, hvs.append (.cons _ _ .nil), nsub NX (l := (I, o) :: [(D10, listOf (vs ++ [Value.int bn t1]).toArray 0)]) (by walk_at "sub")⟩
        refine tend [(D10, listOf w8.toArray 0)] FX NX (Off.cons hID Off.nil) ⟨by walk_at "mlook", by walk_at "mlook", by walk_at "mlook", D10, w8, 0, row ++ [bn], by walk_at "mlook", rfl, hw8, by simp [hrl], ?_⟩
        rw [hgr, show ns.length - i = (ns.length - (i + 1)) + 1 by omega, greedyRow, hb]
  · intro m' news h tk hj FL NL
    obtain ⟨j1, j2, j3, d, vs, k, row, j4, rfl, hvs, hrl, hgr⟩ := hj
    walk_at "mine"
    refine newList_D FL NL (by simp) ?_
    intro D9 h9 F9 N9 l9 f9
    walk_at "mine"
    (try dsimp only)
    refine hret D9 _ h9 _ F9.keep (has_news N9) (fun p hp => (N9 p hp).2.2) ?_
    rw [hgr, Nat.sub_self, greedyRow]
    exact .list (.head _) (.cons (lz_in (.tail _ (.head _)) hvs) .nil)
end

section

section
variable {prog : Program} {w : World} {A : Around} {E : Value → Shared → Prop} {s : Shared}
def TupAt (h : Heap) (x : Addr) (c a : Int) : Prop := ∃ t u n, h.get? x = some { cls := .type "tuple", data := .seq #[.int c t, .int a u] n }
theorem TupAt.keeps {h h' : Heap} {x : Addr} {c a : Int} (q : TupAt h x c a) (k : Kp h h') : TupAt h' x c a := by
  obtain ⟨t, u, n, e⟩ := q
  exact ⟨t, u, n, k _ _ e⟩
theorem lex_lt {Q : Bool → Shared → Prop} {x y : Addr} {c a c' a' : Int} (hx : TupAt s.heap x c a) (hy : TupAt s.heap y c' a')
    (h : Q (decide (c < c' ∨ c = c' ∧ a < a')) s) : wpAny (model prog w) A (keyLt' (tuples' true) (.ref x) (.ref y)) Q E s := by
  obtain ⟨t, u, n, ex⟩ := hx
  obtain ⟨t', u', n', ey⟩ := hy
  refine kat_lt ex rfl ey rfl ?_
  refine kat_cons (wpAny_eqBool_int ?_)
  by_cases hc : c = c'
  · subst hc
    rw [show (c == c) = true by simp]
    refine kat_yes (kat_cons (wpAny_eqBool_int ?_))
    by_cases ha : a = a'
    · subst ha
      rw [show (a == a) = true by simp]
      refine kat_yes (kat_nil ?_)
      simpa using h
    · rw [show (a == a') = false by simp [ha]]
      refine kat_no (kat_one _ _ (wpAny_lt_int ?_))
      show Q _ _
      simpa using h
  · rw [show (c == c') = false by simp [hc]]
    refine kat_no (oneLt_int ?_)
    simpa [hc] using h

theorem sort_one {h₀ : Heap} {L : Addr} {m : Str → Option Value} {news : Led} {l : Addr} {v : Value} {Q : Value → Shared → Prop} (F : Fr h₀ L s.heap m) (N : News h₀ L s.heap news) (hl : s.heap.IsList l #[v])
    (h : ∀ D c h', Fr h₀ L h' m → News h₀ L h' ((D, listOf #[v] c) :: news) → Q (.ref D) { s with heap := h' }) :
    wpAny (model prog w) A (call (.builtin "sorted") [.ref l]) Q E s := by
  refine Calls.call_function_entry kind_sorted plain_sorted entry_sorted (args_sorted1 _) ?_
  unfold Builtin.«sorted»
  refine wpAny_bind (m := checkCount "sorted" 1 1 _) (wpAny_pure ?_)
  refine wpAny_bind (collect_list (vs := [v]) hl ?_)
  refine wpAny_bind (wpAny_newList ?_)
  have hsz : ((s.heap.push (seqObj "list" #[] 0)).update s.heap.objs.size (Obj.mapSeq (· ++ [v].toArray))).objs.size = s.heap.objs.size + 1 := by
    rw [Heap.size_update, size_push']
  have hoL : (((s.heap.push (seqObj "list" #[] 0)).update s.heap.objs.size (Obj.mapSeq (· ++ [v].toArray))).push (seqObj "list" [v].toArray 0)).get? (s.heap.objs.size + 1) = some (seqObj "list" [v].toArray 0) := by
    rw [← hsz]; exact Heap.get?_push_size _ rfl
  show wpAny _ _ _ _ _ { s with heap := ((s.heap.push (seqObj "list" #[] 0)).update s.heap.objs.size (Obj.mapSeq (· ++ [v].toArray))).push (seqObj "list" [v].toArray 0) }
  rw [hsz]
  refine wpAny_bind (wpAny_holding (wpAny_call_entry slot_list_sort ⟨_, hoL, rfl⟩ entry_list_sort ?body (args_list_sort _)))
  case body =>
    generalize hH : ((s.heap.push (seqObj "list" #[] 0)).update s.heap.objs.size (Obj.mapSeq (· ++ [v].toArray))).push (seqObj "list" [v].toArray 0) = H at hoL
    obtain ⟨e, he⟩ := sortedAll_at s.heap [v] [v].toArray
    have hk : ∀ b o, s.heap.get? b = some o → (sortedAll s.heap [v] [v].toArray).get? b = some o := fun _ _ => sortedAll_old
    have hSA : sortedAll s.heap [v] [v].toArray = sortedHeap H (s.heap.objs.size + 1) [v] [v].toArray := by rw [← hH]; rfl
    have hq := h _ e _ (F.kept hk) (N.kept_cons F hk (Nat.le_succ _) he)
    rw [list_sort_plain]
    have ha : s.heap.objs.size + 1 < H.objs.size := Heap.lt_size hoL
    refine wpAny_bind (listItems_at hoL rfl ?_)
    refine wpAny_bind (listUpdate_at hoL rfl ?_)
    obtain ⟨e1, ho1⟩ : ∃ e1, (H.update (s.heap.objs.size + 1) (Obj.mapSeq fun _ => #[])).get? (s.heap.objs.size + 1) = some (seqObj "list" #[] e1) := ⟨_, get?_update_seq hoL (fun _ => #[])⟩
    refine wpAny_bind (seqEpoch_at ho1 rfl ?_)
    refine wpAny_bind (wpAny_newTuple ?_)
    refine wpAny_bind (wpAny_newList ?_)
    refine wpAny_holding ?_
    have ho6 : (((H.update (s.heap.objs.size + 1) (Obj.mapSeq fun _ => #[])).push (seqObj "tuple" [v].toArray 0)).push (seqObj "list" #[] 0)).get? (s.heap.objs.size + 1) = some (seqObj "list" #[] e1) := by
      rw [Heap.get?_push_ne _ _ _ (by rw [size_push', Heap.size_update]; exact Nat.ne_of_lt (Nat.lt_succ_of_lt ha)), Heap.get?_push_ne _ _ _ (by rw [Heap.size_update]; exact Nat.ne_of_lt ha)]
      exact ho1
    show wpAny (model prog w) _ _ _ _ { s with heap := ((H.update (s.heap.objs.size + 1) (Obj.mapSeq fun _ => #[])).push (seqObj "tuple" [v].toArray 0)).push (seqObj "list" #[] 0) }
    dsimp only
    have h2 : [v].toArray.size < 2 := by simp
    rw [if_pos h2, if_pos h2]
    have harr : (arrOf (SortSt.mk' general' ([v].toArray.zip [v].toArray) #[] 7 none)).map (·.2) = [v].toArray := by
      show ([v].toArray.zip [v].toArray).map (·.2) = [v].toArray
      simp
    refine wpAny_bind (wpAny_pure ?_)
    rw [StateT.run_pure]
    refine wpAny_bind (wpAny_pure ?_)
    dsimp only
    refine wpAny_bind (seqEpoch_at ho6 rfl ?_)
    refine wpAny_bind (listUpdate_at ho6 rfl ?_ (hsz2 := by rw [harr]; exact Nat.le_add_left 1 _))
    simp only [bne_self_eq_false, Bool.false_eq_true, if_false]
    refine wpAny_pure ⟨_, rfl, wpAny_pure ⟨_, rfl, ?_⟩⟩
    rw [hSA] at hq
    rw [harr]
    exact hq

def tp (p : Int × Int) : Dat := .tuple [.int p.1, .int p.2]
theorem tup_of {l : Led} {v : Value} {p : Int × Int} (d : DatIn l v (tp p)) : ∃ x t u n, v = .ref x ∧ (x, ({ cls := .type "tuple", data := .seq #[.int p.1 t, .int p.2 u] n } : Obj)) ∈ l := by
  cases d with
  | tuple hm r =>
    cases r with
    | cons a r => cases a with
      | int _ t => cases r with
        | cons b r => cases b with
          | int _ u => cases r with
            | nil => exact ⟨_, t, u, _, rfl, hm⟩
def Lexmin (p : Int × Int) (ps : List (Int × Int)) : Prop := p ∈ ps ∧ ∀ q ∈ ps, p.1 < q.1 ∨ p.1 = q.1 ∧ p.2 ≤ q.2

def Le (p q : Int × Int) : Prop := p.1 < q.1 ∨ p.1 = q.1 ∧ p.2 ≤ q.2
theorem Le.refl (p : Int × Int) : Le p p := .inr ⟨rfl, Int.le_refl _⟩
theorem Le.trans {p q r : Int × Int} (x : Le p q) (y : Le q r) : Le p r := by unfold Le at *; omega
theorem kas_le {α : Type} {cmp : Nat → Nat → (Bool → Shared → Prop) → Shared → Prop} {k : Bool → KasT α} {Q : α → Shared → Prop} {p q : Int × Int} {s : Shared} (h1 : Le p q → KasNext cmp k Q true s) (h2 : Le q p → KasNext cmp k Q false s) :
    KasNext cmp k Q (decide (p.1 < q.1 ∨ p.1 = q.1 ∧ p.2 < q.2)) s :=
  kas_split (fun h => h1 (by have := of_decide_eq_true h; unfold Le; omega)) fun h => h2 (by have := of_decide_eq_false h; unfold Le; omega)
theorem lexmin2 {p p0 p1 : Int × Int} (h : p ∈ [p0, p1]) (h0 : Le p p0) (h1 : Le p p1) : Lexmin p [p0, p1] := ⟨h, by simp only [List.mem_cons, List.not_mem_nil, or_false, forall_eq_or_imp, forall_eq]; exact ⟨h0, h1⟩⟩
theorem lexmin3 {p p0 p1 p2 : Int × Int} (h : p ∈ [p0, p1, p2]) (h0 : Le p p0) (h1 : Le p p1) (h2 : Le p p2) : Lexmin p [p0, p1, p2] := ⟨h, by simp only [List.mem_cons, List.not_mem_nil, or_false, forall_eq_or_imp, forall_eq]; exact ⟨h0, h1, h2⟩⟩
theorem lexmin4 {p p0 p1 p2 p3 : Int × Int} (h : p ∈ [p0, p1, p2, p3]) (h0 : Le p p0) (h1 : Le p p1) (h2 : Le p p2) (h3 : Le p p3) : Lexmin p [p0, p1, p2, p3] := ⟨h, by simp only [List.mem_cons, List.not_mem_nil, or_false, forall_eq_or_imp, forall_eq]; exact ⟨h0, h1, h2, h3⟩⟩

variable {h₀ : Heap} {L : Addr} {m : Str → Option Value} {news : Led} {l : Addr} {Q : Value → Shared → Prop}
set_option maxHeartbeats 1000000 in
theorem sort_2 {v0 v1 : Value} {p0 p1 : Int × Int} (F : Fr h₀ L s.heap m) (N : News h₀ L s.heap news) (hl : s.heap.IsList l [v0, v1].toArray) (d0 : DatIn news v0 (tp p0)) (d1 : DatIn news v1 (tp p1))
    (h : ∀ D c h' v rest p, Fr h₀ L h' m → News h₀ L h' ((D, listOf (v :: rest).toArray c) :: news) → DatIn news v (tp p) → Lexmin p [p0, p1] → rest.length ≤ 4 → Q (.ref D) { s with heap := h' }) :
    wpAny (model prog w) A (call (.builtin "sorted") [.ref l]) Q E s := by
  obtain ⟨x0, t0, u0, n0, rfl, e0⟩ := tup_of d0
  obtain ⟨x1, t1, u1, n1, rfl, e1⟩ := tup_of d1
  refine kat_sorted F N hl (by simp) (by simp) fun D ep h' F' N' l' => ?_
  have y0 : TupAt h' x0 p0.1 p0.2 := ⟨_, _, _, (N' _ (.tail _ e0)).1⟩
  have y1 : TupAt h' x1 p1.1 p1.2 := ⟨_, _, _, (N' _ (.tail _ e1)).1⟩
  refine kat_kind (fs := [.int p0.1 t0, .int p1.1 t1]) (T := .type "int") (.cons (N' _ (.tail _ e0)).1 rfl rfl rfl (.cons (N' _ (.tail _ e1)).1 rfl rfl rfl (.nil))) (by simp) (by kas_types) (by rfl) ?_
  have hne : ∀ p ∈ news, p.1 ≠ D := fun p hp => Nat.ne_of_lt (l' p hp)
  have fin : ∀ h2 c2 v rest p, Fr h₀ L h2 m → News h₀ L h2 ((D, listOf (v :: rest).toArray c2) :: news) → DatIn news v (tp p) → Lexmin p [p0, p1] → rest.length ≤ 4 → Q (.ref D) { s with heap := h2 } := fun h2 c2 v rest p a b c d e => h D c2 h2 v rest p a b c d e
  clear h
  show KasT.kasWp (kas_ask prog w A.in1.in1 (tuples' true) _) _ _ _
  clear N F hl e0 e1
  repeat' (first | kat_step | (refine lex_lt (by assumption) (by assumption) ?_) | ((refine kas_le (fun hk' => ?_) (fun hk' => ?_)) <;> unfold KasNext))
  all_goals (
    refine KasFin.intro F' N' (UpdF.head hne) fun h2 c2 F2 N2 => ?_
    refine fin h2 c2 _ _ _ F2 N2 (by first | exact d0 | exact d1) (lexmin2 ?_ ?_ ?_) (Nat.le_of_ble_eq_true rfl)
    · first | exact .head _ | exact .tail _ (.head _)
    all_goals solve_by_elim (maxDepth := 6) only [Le.refl, Le.trans, *])
set_option maxHeartbeats 1000000 in
theorem sort_3 {v0 v1 v2 : Value} {p0 p1 p2 : Int × Int} (F : Fr h₀ L s.heap m) (N : News h₀ L s.heap news) (hl : s.heap.IsList l [v0, v1, v2].toArray) (d0 : DatIn news v0 (tp p0)) (d1 : DatIn news v1 (tp p1)) (d2 : DatIn news v2 (tp p2))
    (h : ∀ D c h' v rest p, Fr h₀ L h' m → News h₀ L h' ((D, listOf (v :: rest).toArray c) :: news) → DatIn news v (tp p) → Lexmin p [p0, p1, p2] → rest.length ≤ 4 → Q (.ref D) { s with heap := h' }) :
    wpAny (model prog w) A (call (.builtin "sorted") [.ref l]) Q E s := by
  obtain ⟨x0, t0, u0, n0, rfl, e0⟩ := tup_of d0
  obtain ⟨x1, t1, u1, n1, rfl, e1⟩ := tup_of d1
  obtain ⟨x2, t2, u2, n2, rfl, e2⟩ := tup_of d2
  refine kat_sorted F N hl (by simp) (by simp) fun D ep h' F' N' l' => ?_
  have y0 : TupAt h' x0 p0.1 p0.2 := ⟨_, _, _, (N' _ (.tail _ e0)).1⟩
  have y1 : TupAt h' x1 p1.1 p1.2 := ⟨_, _, _, (N' _ (.tail _ e1)).1⟩
  have y2 : TupAt h' x2 p2.1 p2.2 := ⟨_, _, _, (N' _ (.tail _ e2)).1⟩
  refine kat_kind (fs := [.int p0.1 t0, .int p1.1 t1, .int p2.1 t2]) (T := .type "int") (.cons (N' _ (.tail _ e0)).1 rfl rfl rfl (.cons (N' _ (.tail _ e1)).1 rfl rfl rfl (.cons (N' _ (.tail _ e2)).1 rfl rfl rfl (.nil)))) (by simp) (by kas_types) (by rfl) ?_
  have hne : ∀ p ∈ news, p.1 ≠ D := fun p hp => Nat.ne_of_lt (l' p hp)
  have fin : ∀ h2 c2 v rest p, Fr h₀ L h2 m → News h₀ L h2 ((D, listOf (v :: rest).toArray c2) :: news) → DatIn news v (tp p) → Lexmin p [p0, p1, p2] → rest.length ≤ 4 → Q (.ref D) { s with heap := h2 } := fun h2 c2 v rest p a b c d e => h D c2 h2 v rest p a b c d e
  clear h
  show KasT.kasWp (kas_ask prog w A.in1.in1 (tuples' true) _) _ _ _
  clear N F hl e0 e1 e2
  repeat' (first | kat_step | (refine lex_lt (by assumption) (by assumption) ?_) | ((refine kas_le (fun hk' => ?_) (fun hk' => ?_)) <;> unfold KasNext))
  all_goals (
    refine KasFin.intro F' N' (UpdF.head hne) fun h2 c2 F2 N2 => ?_
    refine fin h2 c2 _ _ _ F2 N2 (by first | exact d0 | exact d1 | exact d2) (lexmin3 ?_ ?_ ?_ ?_) (Nat.le_of_ble_eq_true rfl)
    · first | exact .head _ | exact .tail _ (.head _) | exact .tail _ (.tail _ (.head _))
    all_goals solve_by_elim (maxDepth := 6) only [Le.refl, Le.trans, *])
set_option maxHeartbeats 1000000 in
theorem sort_4 {v0 v1 v2 v3 : Value} {p0 p1 p2 p3 : Int × Int} (F : Fr h₀ L s.heap m) (N : News h₀ L s.heap news) (hl : s.heap.IsList l [v0, v1, v2, v3].toArray) (d0 : DatIn news v0 (tp p0)) (d1 : DatIn news v1 (tp p1)) (d2 : DatIn news v2 (tp p2)) (d3 : DatIn news v3 (tp p3))
    (h : ∀ D c h' v rest p, Fr h₀ L h' m → News h₀ L h' ((D, listOf (v :: rest).toArray c) :: news) → DatIn news v (tp p) → Lexmin p [p0, p1, p2, p3] → rest.length ≤ 4 → Q (.ref D) { s with heap := h' }) :
    wpAny (model prog w) A (call (.builtin "sorted") [.ref l]) Q E s := by
  obtain ⟨x0, t0, u0, n0, rfl, e0⟩ := tup_of d0
  obtain ⟨x1, t1, u1, n1, rfl, e1⟩ := tup_of d1
  obtain ⟨x2, t2, u2, n2, rfl, e2⟩ := tup_of d2
  obtain ⟨x3, t3, u3, n3, rfl, e3⟩ := tup_of d3
  refine kat_sorted F N hl (by simp) (by simp) fun D ep h' F' N' l' => ?_
  have y0 : TupAt h' x0 p0.1 p0.2 := ⟨_, _, _, (N' _ (.tail _ e0)).1⟩
  have y1 : TupAt h' x1 p1.1 p1.2 := ⟨_, _, _, (N' _ (.tail _ e1)).1⟩
  have y2 : TupAt h' x2 p2.1 p2.2 := ⟨_, _, _, (N' _ (.tail _ e2)).1⟩
  have y3 : TupAt h' x3 p3.1 p3.2 := ⟨_, _, _, (N' _ (.tail _ e3)).1⟩
  refine kat_kind (fs := [.int p0.1 t0, .int p1.1 t1, .int p2.1 t2, .int p3.1 t3]) (T := .type "int") (.cons (N' _ (.tail _ e0)).1 rfl rfl rfl (.cons (N' _ (.tail _ e1)).1 rfl rfl rfl (.cons (N' _ (.tail _ e2)).1 rfl rfl rfl (.cons (N' _ (.tail _ e3)).1 rfl rfl rfl (.nil))))) (by simp) (by kas_types) (by rfl) ?_
  have hne : ∀ p ∈ news, p.1 ≠ D := fun p hp => Nat.ne_of_lt (l' p hp)
  have fin : ∀ h2 c2 v rest p, Fr h₀ L h2 m → News h₀ L h2 ((D, listOf (v :: rest).toArray c2) :: news) → DatIn news v (tp p) → Lexmin p [p0, p1, p2, p3] → rest.length ≤ 4 → Q (.ref D) { s with heap := h2 } := fun h2 c2 v rest p a b c d e => h D c2 h2 v rest p a b c d e
  clear h
  show KasT.kasWp (kas_ask prog w A.in1.in1 (tuples' true) _) _ _ _
  clear N F hl e0 e1 e2 e3
  repeat' (first | kat_step | (refine lex_lt (by assumption) (by assumption) ?_) | ((refine kas_le (fun hk' => ?_) (fun hk' => ?_)) <;> unfold KasNext))
  all_goals (
    refine KasFin.intro F' N' (UpdF.head hne) fun h2 c2 F2 N2 => ?_
    refine fin h2 c2 _ _ _ F2 N2 (by first | exact d0 | exact d1 | exact d2 | exact d3) (lexmin4 ?_ ?_ ?_ ?_ ?_) (Nat.le_of_ble_eq_true rfl)
    · first | exact .head _ | exact .tail _ (.head _) | exact .tail _ (.tail _ (.head _)) | exact .tail _ (.tail _ (.tail _ (.head _)))
    all_goals solve_by_elim (maxDepth := 6) only [Le.refl, Le.trans, *])
theorem sort_n {vs : List Value} {ps : List (Int × Int)} (F : Fr h₀ L s.heap m) (N : News h₀ L s.heap news) (hl : s.heap.IsList l vs.toArray) (hv : DatAll news vs (ps.map tp)) (h1 : 1 ≤ ps.length) (h4 : ps.length ≤ 4) (hp : ps.Pairwise fun p q => p.2 < q.2)
    (h : ∀ D c h' v rest p, Fr h₀ L h' m → News h₀ L h' ((D, listOf (v :: rest).toArray c) :: news) → DatIn news v (tp p) → Lexmin p ps → rest.length ≤ 4 → Q (.ref D) { s with heap := h' }) :
    wpAny (model prog w) A (call (.builtin "sorted") [.ref l]) Q E s := by
  rcases ps with _ | ⟨p0, _ | ⟨p1, _ | ⟨p2, _ | ⟨p3, _ | ⟨p4, r⟩⟩⟩⟩⟩
  · simp at h1
  · rw [List.map_cons, List.map_nil] at hv
    cases hv with
    | cons d0 hv =>
    cases hv
    refine sort_one F N hl fun D c h' F' N' => h D c h' _ [] p0 F' N' d0 ⟨by simp, ?_⟩ (by simp)
    intro q hq
    simp at hq
    subst hq
    exact .inr ⟨rfl, Int.le_refl _⟩
  · simp only [List.pairwise_cons, List.mem_cons, List.not_mem_nil, or_false, forall_eq_or_imp, forall_eq] at hp
    simp only [List.map_cons, List.map_nil] at hv
    cases hv with
    | cons d0 hv => cases hv with
      | cons d1 hv =>
        cases hv
        exact sort_2 F N hl d0 d1 h
  · simp only [List.pairwise_cons, List.mem_cons, List.not_mem_nil, or_false, forall_eq_or_imp, forall_eq] at hp
    simp only [List.map_cons, List.map_nil] at hv
    cases hv with
    | cons d0 hv => cases hv with
      | cons d1 hv => cases hv with
        | cons d2 hv =>
          cases hv
          exact sort_3 F N hl d0 d1 d2 h
  · simp only [List.pairwise_cons, List.mem_cons, List.not_mem_nil, or_false, forall_eq_or_imp, forall_eq] at hp
    simp only [List.map_cons, List.map_nil] at hv
    cases hv with
    | cons d0 hv => cases hv with
      | cons d1 hv => cases hv with
        | cons d2 hv => cases hv with
          | cons d3 hv =>
            cases hv
            exact sort_4 F N hl d0 d1 d2 d3 h
  · simp at h4
end
end

section


def costAt (cs : List (List (Option Int))) (i j : Nat) : Option Int := (cs.getD i []).getD j none
def fits (ns : List Int) (ks : List Str) (cs : List (List (Option Int))) (row : List Int) (i : Nat) : Option (Int × Int) :=
  match costAt cs i row.length with
  | none => none
  | some c => if !row.contains (ns.getD i 0) && (ks.getD i "" == "inner" || ((ns.take i).filter fun o => !row.contains o) == []) then some (c, (i : Int)) else none
def fit (ns : List Int) (ks : List Str) (cs : List (List (Option Int))) (row : List Int) : List (Int × Int) := (List.range ns.length).filterMap (fits ns ks cs row)
/-- the rows that the law's own greedy order may tell -/
inductive LawRow (ns : List Int) (ks : List Str) (cs : List (List (Option Int))) : Nat → List Int → List (List Int) → Prop
  | full (row : List Int) : LawRow ns ks cs 0 row [row]
  | stuck (n : Nat) (row : List Int) : fit ns ks cs row = [] → LawRow ns ks cs (n + 1) row []
  | step (n : Nat) (row : List Int) (p : Int × Int) (out : List (List Int)) : Lexmin p (fit ns ks cs row) → LawRow ns ks cs n (row ++ [ns.getD p.2.toNat 0]) out → LawRow ns ks cs (n + 1) row out

def lcost (cs : List (List (Option Int))) : Dat := .list (cs.map fun r => .list (r.map costD))

theorem fits_snd {ns : List Int} {ks : List Str} {cs : List (List (Option Int))} {row : List Int} {i : Nat} {p : Int × Int} (h : fits ns ks cs row i = some p) : p.2 = i := by
  unfold fits at h
  split at h
  · cases h
  · split at h
    · cases h; rfl
    · cases h
theorem fit_pairwise (ns : List Int) (ks : List Str) (cs : List (List (Option Int))) (row : List Int) : (fit ns ks cs row).Pairwise fun p q => p.2 < q.2 := by
  unfold fit
  rw [List.pairwise_filterMap]
  refine List.Pairwise.imp ?_ List.pairwise_lt_range
  intro a b hab p hp q hq
  rw [fits_snd hp, fits_snd hq]
  omega
theorem fit_mem {ns : List Int} {ks : List Str} {cs : List (List (Option Int))} {row : List Int} {p : Int × Int} (h : p ∈ fit ns ks cs row) : ∃ i < ns.length, fits ns ks cs row i = some p := by
  unfold fit at h
  obtain ⟨i, hi, e⟩ := List.mem_filterMap.mp h
  exact ⟨i, List.mem_range.mp hi, e⟩
theorem fit_append {prog : Program} {w : World} {A : Around} {E : Value → Shared → Prop} {s : Shared} {Q : Value → Shared → Prop} {g : Heap} {L Df D9 : Addr} {m : Str → Option Value} {rest keep : Led} {tup : Obj} {fs : List Value} {fk : Nat}
    (F : Fr g L s.heap m) (N : News g L s.heap ((D9, tup) :: rest)) (lt : AllLt D9 rest) (hm : (Df, listOf fs.toArray fk) ∈ rest) (hs : ∀ p ∈ keep, p ∈ rest) (off : Off Df keep) (hz : fs.length ≤ 1000000)
    (h : ∀ X h', Fr g L h' m → News g L h' ((Df, listOf (fs ++ [Value.ref X]).toArray (fk + 1)) :: (X, tup) :: keep) → (∀ p ∈ rest, p.1 < X) → Q .none { s with heap := h' }) :
    wpAny (model prog w) A (call (.builtin "list.append") [.ref Df, .ref D9]) Q E s := by
  have lt' := tb_ltOf lt
  refine append_L F (nsub N (l := (Df, listOf fs.toArray fk) :: (D9, tup) :: keep) ?_) (Off.cons (Nat.ne_of_gt (lt' _ hm)) off) hz fun h' F' N' _ => h D9 h' F' N' lt'
  intro p hp
  rcases List.mem_cons.mp hp with rfl | hp
  · exact .tail _ hm
  · rcases List.mem_cons.mp hp with rfl | hp
    · exact .head _
    · exact .tail _ (hs _ hp)

set_option maxHeartbeats 4000000 in
theorem lgreedy_spec {prog : Program} {w : World} {A : Around} {E : Value → Shared → Prop} {s : Shared} {Q : Value → Shared → Prop} {l : Led} {nv kv cv : Value} {ns : List Int} {ks : List Str} {cs : List (List (Option Int))}
    (G : Gd w s.heap) (ok : Ok A 30) (H : Has s.heap l) (hn : DatIn l nv (lz ns)) (hk : DatIn l kv (lstr ks)) (hc : DatIn l cv (lcost cs)) (hlen : ks.length = ns.length) (hcl : cs.length = ns.length) (hcr : ∀ r ∈ cs, r.length = ns.length)
    (hsz : ns.length ≤ 4)
    (h : ∀ a' l' h' tk' out, Kp s.heap h' → Has h' l' → (∀ p ∈ l', s.heap.get? p.1 = none) → DatIn l' (.ref a') (lzz out) → LawRow ns ks cs ns.length [] out → Q (.ref a') { s with heap := h', toks := tk' }) :
    wpAny (model prog w) A (call (.ref 90) [nv, kv, cv] []) Q E s := by
  have hret := h
  obtain ⟨X, lo, mg, mb, T⟩ := id G
  obtain ⟨nr, nvs, nn, rfl, hnm, hnv⟩ := datIn_list hn
  obtain ⟨kr, kvs, kn, rfl, hkm, hkv⟩ := datIn_list hk
  obtain ⟨cr, cvs, cn, rfl, hcm, hcv⟩ := datIn_list hc
  have hI := datAll_ints hnv
  have hvl := hI.length
  have hh := ok.1
  have hnl := H.list hnm
  walk_at "fill"
  refine enterC X T.nolimit (Kp.refl _) (Nat.le_refl _) (by k_is) (by k_is) (by have := ok.2.1; omega) (BindsTo.of_eq rfl) rfl (by decide +kernel) ?_ rfl rfl rfl
  intro L h₁ tk cells F N Y hL hk₁ hfr
  obtain ⟨oc, he, d1⟩ := CellsAre.one Y
  subst he
  obtain ⟨m, F, hm1, hm2, hm3⟩ : ∃ m, Fr s.heap L h₁ m ∧ m "numbers" = some (.ref nr) ∧ m "kinds" = some (.ref kr) ∧ m "costs" = some (.ref cr) := ⟨_, F, rfl, rfl, rfl⟩
  have d1 : oc.data = Data.cell none := d1
  walk_at "mine"
  refine newList_D F N (by decide) ?_
  intro D h₂ F₂ N₂ l₂ f₂
  have l2 := allLt_of l₂
  simp only [AllLt] at l2
  walk_at "mine"
  rename Fr _ _ _ _ => F₃
  rename News _ _ _ _ => N₃
  rename _ = Data.cell _ => hoc
  obtain ⟨oc, hoc, N₃⟩ : ∃ oc, oc.data = Data.cell (some (.ref D)) ∧ News s.heap L _ [(D, listOf [].toArray 0), (L + 1, oc)] := ⟨_, hoc, N₃⟩
  have hLD : L + 1 ≠ D := Nat.ne_of_lt l2.1
  have hks := hkv.length
  have hLD' : L + 1 ≠ D := hLD
  refine wpAny_While ?_
  refine while_go (L := L) (fun k m news => m "numbers" = some (.ref nr) ∧ m "kinds" = some (.ref kr) ∧ m "costs" = some (.ref cr) ∧
    ∃ oc vs kk row, news = [(D, listOf vs.toArray kk), (L + 1, oc)] ∧ oc.data = Data.cell (some (.ref D)) ∧ IntsAre vs row ∧ row.length + k = ns.length ∧ ∀ out, LawRow ns ks cs k row out → LawRow ns ks cs ns.length [] out) ns.length rfl F₃ N₃ ?_ ?_
  · exact ⟨by walk_at "mlook", by walk_at "mlook", by walk_at "mlook", oc, [], 0, [], rfl, hoc, .nil, by simp, fun _ z => z⟩
  · rintro k m' news h tk ⟨j1, j2, j3, oc, vs, kk, row, rfl, hoc, hvs, hrk, hlaw⟩ FL NL
    have hvn := hvs.length
    walk_at "mine"
    · rename Fr _ _ _ _ => F₄
      rename News _ _ _ _ => N₄
      refine newList_D F₄ N₄ (by simp) ?_
      intro Df h₅ F₅ N₅ l₅ f₅
      have l5 := allLt_of l₅
      simp only [AllLt] at l5
      walk_at "mine"
      rename Fr _ _ _ _ => F₅
      rename News _ _ _ _ => N₅
      refine wpAny_For ?_
      walk_at "mine"
      refine range1_rows F₅ N₅ ?_
      intro h₆ tk₆ t₁ u₁ v₁ hr F₆ N₆ k₆
      walk_at "mine"
      refine iter_range F₆ N₆ hr (by omega) (by omega) ?_
      intro I h₇ o₇ F₇ N₇ hio l₇ k₇ f₇
      have l7 := allLt_of l₇
      simp only [AllLt] at l7
      have hret2 := hret
      refine for_goN (L := L) (fun i m news => m "numbers" = some (.ref nr) ∧ m "kinds" = some (.ref kr) ∧ m "costs" = some (.ref cr) ∧ m "fit" = some (.ref Df) ∧
        ∃ fs fk tl, news = (Df, listOf fs.toArray fk) :: (tl ++ [(D, listOf vs.toArray kk), (L + 1, oc)]) ∧ Off Df tl ∧ DatAll tl fs (((List.range i).filterMap (fits ns ks cs row)).map tp))
        rfl (It.range0 (A := A.deeper _) ok.1) rfl rfl F₇ (nsub N₇ (l := (I, o₇) :: [(Df, listOf [].toArray 0), (D, listOf vs.toArray kk), (L + 1, oc)]) (by walk_at "sub")) (by walk_at "off") hio ?_ ?_ ?_
      · exact ⟨by walk_at "mlook", by walk_at "mlook", by walk_at "mlook", by walk_at "mlook", [], 0, [], rfl, Off.nil, .nil⟩
      · intro i v m'' news h tk o hi hv hj off FL NL hio
        obtain ⟨t, rfl⟩ := hv
        obtain ⟨q1, q2, q3, q4, fs, fk, tl, rfl, offt, hfs⟩ := hj
        have hDfD : D ≠ Df := Nat.ne_of_lt l5.1
        have hDfc : L + 1 ≠ Df := Nat.ne_of_lt l5.2.1
        walk_at "mine"
        walk_at "lc_assign"
        walk_at "mine"
        walk_at "cut"
        intro D2 h₉ F₉ N₉ l₉ f₉
        dsimp only at *
        walk_at "mine"
        refine iter_list F₉ N₉ ((has_news N₉).list (.head _)) ?_
        intro I2 h10 o10 F10 N10 hio10 l10 k10 f10
        have cm : ∀ q, q ∈ [(D, listOf vs.toArray kk), (L + 1, oc)] → q ∈ (D2, listOf (nvs.take (↑i : Int).toNat).toArray 0) :: (I, o) :: (Df, listOf fs.toArray fk) :: (tl ++ [(D, listOf vs.toArray kk), (L + 1, oc)]) := fun q hq => .tail _ (.tail _ (.tail _ (List.mem_append_right _ hq)))
        refine comp_a (L := L) (muts := []) (n := (nvs.take (↑i : Int).toNat).toArray.size) (P := fun j v => (nvs.take (↑i : Int).toNat).toArray[j]? = some v)
          (fun j ys nw => nw = [] ∧ IntsAre ys (((ns.take i).take j).filter fun x => !row.contains x)) (by decide) rfl rfl rfl rfl rfl F10 N10 Off.nil hio10 (fun _ z => nomatch z) (fun p hp => Nat.ne_of_lt (l10 p hp)) ⟨rfl, by simpa using IntsAre.nil⟩ (by simp; omega) ?_ ?_
        · intro gs Gs
          have c1 : gs.get? (L + 1) = some oc := Gs.got _ (cm _ (.tail _ (.head _)))
          have HD1 : Has gs [(D, listOf vs.toArray kk)] := fun p hp => by rw [List.mem_singleton.mp hp]; exact Gs.got _ (cm _ (.head _))
          have hl2 : gs.IsList D2 (nvs.take (↑i : Int).toNat).toArray := ⟨_, Gs.got _ (.head _), rfl, _, rfl⟩
          have Xg := X.keeps Gs.base
          have Tg := T.keeps Gs.base
          refine ⟨It.list ok.1 hl2, ?_⟩
          intro C D j v mc nw h11 tk11 o11 ys k hC hD hj hv hJ oI oD FC NC hio hys
          obtain ⟨rfl, hJ⟩ := hJ
          have hTI := hI.take i
          have hjn : j < (ns.take i).length := by have := hTI.length; simp at this hj ⊢; omega
          obtain ⟨t9, e9⟩ := hTI.get j (ns.take i)[j] (List.getElem?_eq_getElem hjn)
          rw [show (nvs.take i)[j]? = some v from by simpa using hv] at e9
          obtain rfl := Option.some.inj e9
          refine wpAny_tests_one ?_
          have hf := FC.keep
          walk_at "mine"
          refine notin_z (HD1.keeps hf) (lz_in (.head _) hvs) (by have := ok.2.2; simp only [Around.deeper_units]; omega) ?_
          walk_at "mine"
          · rename_i hb
            (try dsimp only)
            refine cend [] FC NC Off.nil Off.nil ⟨rfl, ?_⟩
            rw [take_succ_filter _ _ _ _ (List.getElem?_eq_getElem hjn), if_neg (by rw [hb]; decide), List.append_nil]
            exact hJ
          · rename_i hb
            (try dsimp only)
            refine cend [] FC NC Off.nil Off.nil ⟨rfl, ?_⟩
            rw [take_succ_filter _ _ _ _ (List.getElem?_eq_getElem hjn), if_pos (by rw [hb]; rfl)]
            exact hJ.append (.cons _ t9 .nil)
        · intro D3 h11 tk11 ys ky nw hD hJ oD hys F11 N11 hnw
          obtain ⟨rfl, hJ⟩ := hJ
          have e8 : (nvs.take (↑i : Int).toNat).toArray.size = (ns.take i).length := by have := (hI.take i).length; simpa using this
          rw [e8, List.take_length] at hJ
          walk_at "mine"
          replace N11 := nsub N11 (l := (D3, listOf ys.toArray ky) :: (D, listOf vs.toArray kk) :: (L + 1, oc) :: (I, o) :: (Df, listOf fs.toArray fk) :: tl) (by walk_at "sub")
          clear N10 F10 N₉ F₉
          have hic : i < cs.length := by omega
          have hrow : row.length < (cs[i]).length := by have := hcr _ (List.getElem_mem hic); omega
          refine item_D (H.keeps F11.keep) hc (by omega) (d := .list ((cs[i]).map costD)) (by simp [hic]) (by omega) ?_
          intro rv drv
          obtain ⟨rr, rvs, rn, rfl, hrm, hrv⟩ := datIn_list drv
          walk_at "mine"
          rename Fr _ _ _ _ => F12
          rename News _ _ _ _ => N12
          have hca : costAt cs i row.length = (cs[i])[row.length] := by
            unfold costAt
            simp [hic, hrow]
          refine item_D (H.keeps F12.keep) drv (by omega) (d := costD (costAt cs i row.length)) (by rw [hca]; simp [hrow]) (by omega) ?_
          intro cv dcv
          have HD2 : Has _ [(D, listOf vs.toArray kk)] := fun p hp => has_news N12 p (by rw [List.mem_singleton.mp hp]; exact .tail _ (.head _))
          have hgi : ns.getD i 0 = ns[i] := getD_lt _ _ hi
          cases hcost : costAt cs i row.length with
          | none =>
            rw [hcost] at dcv
            cases dcv
            have e9 : (List.range (i + 1)).filterMap (fits ns ks cs row) = (List.range i).filterMap (fits ns ks cs row) := by
              rw [List.range_succ, List.filterMap_append]
              simp [fits, hcost]
            walk_at "mine"
            all_goals (
              rename Fr _ _ _ _ => FX
              rename News _ _ _ _ => NX
              exact tend ((Df, listOf fs.toArray fk) :: (tl ++ [(D, listOf vs.toArray kk), (L + 1, oc)])) FX (nsub NX (by walk_at "sub")) off ⟨by walk_at "mlook", by walk_at "mlook", by walk_at "mlook", by walk_at "mlook", fs, fk, tl, rfl, offt, by rw [e9]; exact hfs⟩)
          | some c =>
            rw [hcost] at dcv
            cases dcv with
            | int _ tc => ?_
            have hrc : row.contains (ns.getD i 0) = (row.any fun x => x == ns.getD (↑i : Int).toNat 0) := by
              rw [Bool.eq_iff_iff]; simp
            have hki : i < ks.length := by omega
            have hks' : ks.getD i "" = ks[i] := getD_lt _ _ hki
            have e9 : (List.range (i + 1)).filterMap (fits ns ks cs row) = (List.range i).filterMap (fits ns ks cs row) ++ (fits ns ks cs row i).toList := by
              rw [List.range_succ, List.filterMap_append]
              congr 1
            have hfl : fs.length ≤ 1000000 := by
              have h1 := hfs.length
              have h2 := List.length_filterMap_le (fits ns ks cs row) (List.range i)
              rw [List.length_map] at h1
              rw [List.length_range] at h2
              omega
            have ef : fits ns ks cs row i = if !row.contains (ns.getD i 0) && (ks.getD i "" == "inner" || ((ns.take i).filter fun o => !row.contains o) == []) then some (c, (i : Int)) else none := by
              unfold fits; rw [hcost]
            walk_at "mine"
            · rename (row.any _) = true => hin
              rename Fr _ _ _ _ => FX
              rename News _ _ _ _ => NX
              have e8 : fits ns ks cs row i = none := by rw [ef, hrc, hin]; rfl
              exact tend ((Df, listOf fs.toArray fk) :: (tl ++ [(D, listOf vs.toArray kk), (L + 1, oc)])) FX (nsub NX (by walk_at "sub")) off ⟨by walk_at "mlook", by walk_at "mlook", by walk_at "mlook", by walk_at "mlook", fs, fk, tl, rfl, offt, by rw [e9, e8]; simpa using hfs⟩
            · rename (row.any _) = false => hin
              rename Fr _ _ _ _ => FX
              rename News _ _ _ _ => NX
              refine item_D (H.keeps FX.keep) hk (by omega) (d := .str ks[i]) (by simp [hki]) (by omega) ?_
              intro v dv
              cases dv with
              | str _ t₁ => ?_
              walk_at "mine"
              · rename (_ == _) = true => hki2
                rename Fr _ _ _ _ => FX
                rename News _ _ _ _ => NX
                rename _ < _ ∧ _ < _ ∧ _ < _ ∧ _ < _ ∧ _ < _ ∧ AllLt _ tl => lX
                have e8 : fits ns ks cs row i = some (c, (i : Int)) := by rw [ef, hrc, hin, hks', hki2]; rfl
                refine fit_append (fk := fk) (keep := (I, o) :: (tl ++ [(D, listOf vs.toArray kk), (L + 1, oc)])) FX NX lX (by simp) (by walk_at "sub") (Off.cons (fun e => off _ (.head _) e.symm) (Off.append offt (Off.cons hDfD (Off.cons hDfc Off.nil)))) hfl ?_
                intro X8 h8 F8 N8 l8
                walk_at "mine"
                have hX8 : X8 ≠ I := Nat.ne_of_gt (l8 (I, o) (by simp))
                have hX9 : X8 ≠ Df := Nat.ne_of_gt (l8 (Df, listOf fs.toArray fk) (by simp))
                obtain ⟨w8, hw8, N8⟩ : ∃ w8, w8 = fs ++ [Value.ref X8] ∧ News s.heap L h8 ((Df, listOf w8.toArray (fk + 1)) :: (X8, { cls := .type "tuple", data := .seq [Value.int c tc, Value.int ↑i t].toArray 0 }) :: (I, o) :: (tl ++ [(D, listOf vs.toArray kk), (L + 1, oc)])) := ⟨_, rfl, N8⟩
                refine tend ((Df, listOf w8.toArray (fk + 1)) :: (((X8, { cls := .type "tuple", data := .seq [Value.int c tc, Value.int ↑i t].toArray 0 }) :: tl) ++ [(D, listOf vs.toArray kk), (L + 1, oc)])) F8 (nsub N8 (by walk_at "sub")) ?_ ⟨by walk_at "mlook", by walk_at "mlook", by walk_at "mlook", by walk_at "mlook", w8, _, _, rfl, Off.cons hX9 offt, ?_⟩
                · refine Off.cons (fun e => off _ (.head _) e) (Off.cons hX8 fun p hp => off p (.tail _ hp))
                · rw [e9, e8, hw8]
                  simp only [Option.toList, List.map_append, List.map_cons, List.map_nil]
                  refine DatAll.append (DatAll.mono (fun p hp => .tail _ hp) hfs) (.cons (.tuple (.head _) (.cons (.int _ _) (.cons (.int _ _) .nil))) .nil)
              · rename (_ == _) = false => hki2
                rename Fr _ _ _ _ => FX
                rename News _ _ _ _ => NX
                refine newList_D FX NX (by simp) ?_
                intro De h9 F9 N9 l9 f9
                walk_at "mine"
                refine ke_eq_ints (xs := ys) (ys := []) ((has_news N9).list (.tail _ (.head _))) ((has_news N9).list (.head _)) hJ .nil (by have := ok.2.2; simp only [Around.deeper_units]; omega) ?_
                walk_at "mine"
                · rename decide (_ = []) = true => hk2
                  rename Fr _ _ _ _ => FX
                  rename News _ _ _ _ => NX
                  rename _ < _ ∧ _ < _ ∧ _ < _ ∧ _ < _ ∧ _ < _ ∧ _ < _ ∧ AllLt _ tl => lX
                  have e8 : fits ns ks cs row i = some (c, (i : Int)) := by rw [ef, hrc, hin, of_decide_eq_true hk2]; simp
                  refine fit_append (fk := fk) (keep := (I, o) :: (tl ++ [(D, listOf vs.toArray kk), (L + 1, oc)])) FX NX lX (by simp) (by walk_at "sub") (Off.cons (fun e => off _ (.head _) e.symm) (Off.append offt (Off.cons hDfD (Off.cons hDfc Off.nil)))) hfl ?_
                  intro X8 h8 F8 N8 l8
                  walk_at "mine"
                  have hX8 : X8 ≠ I := Nat.ne_of_gt (l8 (I, o) (by simp))
                  have hX9 : X8 ≠ Df := Nat.ne_of_gt (l8 (Df, listOf fs.toArray fk) (by simp))
                  obtain ⟨w8, hw8, N8⟩ : ∃ w8, w8 = fs ++ [Value.ref X8] ∧ News s.heap L h8 ((Df, listOf w8.toArray (fk + 1)) :: (X8, { cls := .type "tuple", data := .seq [Value.int c tc, Value.int ↑i t].toArray 0 }) :: (I, o) :: (tl ++ [(D, listOf vs.toArray kk), (L + 1, oc)])) := ⟨_, rfl, N8⟩
                  refine tend ((Df, listOf w8.toArray (fk + 1)) :: (((X8, { cls := .type "tuple", data := .seq [Value.int c tc, Value.int ↑i t].toArray 0 }) :: tl) ++ [(D, listOf vs.toArray kk), (L + 1, oc)])) F8 (nsub N8 (by walk_at "sub")) ?_ ⟨by walk_at "mlook", by walk_at "mlook", by walk_at "mlook", by walk_at "mlook", w8, _, _, rfl, Off.cons hX9 offt, ?_⟩
                  · refine Off.cons (fun e => off _ (.head _) e) (Off.cons hX8 fun p hp => off p (.tail _ hp))
                  · rw [e9, e8, hw8]
                    simp only [Option.toList, List.map_append, List.map_cons, List.map_nil]
                    refine DatAll.append (DatAll.mono (fun p hp => .tail _ hp) hfs) (.cons (.tuple (.head _) (.cons (.int _ _) (.cons (.int _ _) .nil))) .nil)
                · rename decide (_ = []) = false => hk2
                  have e8 : fits ns ks cs row i = none := by
                    have h9 : (((ns.take i).filter fun o => !row.contains o) == []) = false := by
                      rw [Bool.eq_false_iff]
                      intro e
                      exact of_decide_eq_false hk2 (eq_of_beq e)
                    rw [ef, hrc, hin, hks', hki2, h9]
                    rfl
                  rename Fr _ _ _ _ => FX
                  rename News _ _ _ _ => NX
                  exact tend ((Df, listOf fs.toArray fk) :: (tl ++ [(D, listOf vs.toArray kk), (L + 1, oc)])) FX (nsub NX (by walk_at "sub")) off ⟨by walk_at "mlook", by walk_at "mlook", by walk_at "mlook", by walk_at "mlook", fs, fk, tl, rfl, offt, by rw [e9, e8]; simpa using hfs⟩
      · intro m'' news h tk hj FL NL
        obtain ⟨q1, q2, q3, q4, fs, fk, tl, rfl, offt, hfs⟩ := hj
        change DatAll tl fs ((fit ns ks cs row).map tp) at hfs
        have hDfD : D ≠ Df := Nat.ne_of_lt l5.1
        have hfl := List.length_filterMap_le (fits ns ks cs row) (List.range ns.length)
        rw [List.length_range] at hfl
        change (fit ns ks cs row).length ≤ ns.length at hfl
        have hfn : fs.length = (fit ns ks cs row).length := by simpa using hfs.length
        have hrl : row.length < ns.length := by omega
        replace NL := nsub NL (l := (Df, listOf fs.toArray fk) :: (D, listOf vs.toArray kk) :: (L + 1, oc) :: tl) (by walk_at "sub")
        walk_at "mine"
        refine newList_D FL NL (by simp) ?_
        intro De h9 F9 N9 l9 f9
        walk_at "mine"
        have hme : (Df, listOf fs.toArray fk) ∈ (De, listOf [].toArray 0) :: (Df, listOf fs.toArray fk) :: (D, listOf vs.toArray kk) :: (L + 1, oc) :: tl := .tail _ (.head _)
        have hft : DatAll ((De, listOf [].toArray 0) :: (Df, listOf fs.toArray fk) :: (D, listOf vs.toArray kk) :: (L + 1, oc) :: tl) fs ((fit ns ks cs row).map tp) := DatAll.mono (fun q hq => .tail _ (.tail _ (.tail _ (.tail _ hq)))) hfs
        refine eq_D (has_news N9) (.list hme hft) (.list (.head _) (.nil : DatAll _ [] [])) (by
          intro d hd; obtain ⟨x, _, rfl⟩ := List.mem_map.mp hd; rfl) (by simp) (by have := ok.2.2; simp only [Around.deeper_units]; omega) ?_
        intro cb hcb
        cases cb with
        | true =>
          have hfe : fit ns ks cs row = [] := List.map_eq_nil_iff.mp (hcb.mp rfl)
          walk_at "mine"
          refine newList_D F9 N9 (by simp) ?_
          intro D9 h10 F10 N10 l10 f10
          walk_at "mine"
          (try dsimp only [ForPost, WhilePost])
          walk_at "mine"
          obtain ⟨k', rfl⟩ : ∃ k', k = k' + 1 := ⟨k - 1, by omega⟩
          refine hret D9 [(D9, _)] h10 _ [] F10.keep (fun p hp => by rw [List.mem_singleton.mp hp]; exact (N10 _ (.head _)).1) (fun p hp => by rw [List.mem_singleton.mp hp]; exact (N10 _ (.head _)).2.2) (.list (.head _) .nil) (hlaw _ (.stuck _ _ hfe))
        | false =>
          have hfe : fit ns ks cs row ≠ [] := fun e => by
            have q := hcb.mpr (by rw [e]; rfl)
            cases q
          have hf1 : 1 ≤ (fit ns ks cs row).length := List.length_pos_iff.mpr hfe
          walk_at "mine"
          refine sort_n (ps := fit ns ks cs row) F9 N9 (News.isList N9 hme) hft hf1 (by omega) (fit_pairwise ..) ?_
          intro Ds c h10 v rest p F10 N10 dv hlm hrest
          walk_at "mine"
          obtain ⟨x, t1, u1, n1, rfl, hx⟩ := tup_of dv
          (try dsimp only)
          refine item_anyT (vs := [.int p.1 t1, .int p.2 u1]) (ns := [p.1, p.2]) (News.isTup N10 (.tail _ hx)) (.cons _ _ (.cons _ _ .nil)) (by decide) (by show (1 : Int) < 2; decide) (by decide) ?_
          intro t2
          obtain ⟨k', rfl⟩ : ∃ k', k = k' + 1 := ⟨k - 1, by omega⟩
          obtain ⟨pi, hpi, efi⟩ := fit_mem hlm.1
          have hp2 := fits_snd efi
          walk_at "mine"
          have e2 : ([p.1, p.2] : List Int).getD (Int.toNat 1) 0 = (pi : Int) := hp2
          refine item_D (H.keeps F10.keep) hn (by rw [e2]; omega) (d := .int ns[pi]) (by rw [e2]; simp [hpi]) (by rw [e2]; omega) ?_
          intro v9 dv9
          cases dv9 with
          | int _ t9 => ?_
          walk_at "mine"
          refine append_L F10 (nsub N10 (l := (D, listOf vs.toArray kk) :: [(L + 1, oc)]) (by walk_at "sub")) (Off.cons hLD' Off.nil) (by omega) ?_
          intro h11 F11 N11 s11
          walk_at "mine"
          (try dsimp only [ForPost, WhilePost])
          obtain ⟨w8, hw8, N11⟩ : ∃ w8, IntsAre w8 (row ++ [ns[pi]]) ∧ News s.heap L h11 [(D, listOf w8.toArray (kk + 1)), (L + 1, oc)] := ⟨_, hvs.append (.cons _ _ .nil), N11⟩
          refine wend (R := fun _ _ => True) [(D, listOf w8.toArray (kk + 1)), (L + 1, oc)] F11 N11 ⟨k', by omega, q1, q2, q3, oc, w8, _, row ++ [ns[pi]], rfl, hoc, hw8, by simp; omega, ?_⟩
          intro out ho
          refine hlaw out (.step _ _ p _ hlm ?_)
          rw [hp2]
          have : ns.getD (pi : Int).toNat 0 = ns[pi] := getD_lt _ _ hpi
          rw [this]
          exact ho
    · refine newList_D FL NL (by simp) ?_
      intro D9 h9 F9 N9 l9 f9
      walk_at "mine"
      have hk0 : k = 0 := by omega
      subst hk0
      refine hret D9 _ h9 _ [row] F9.keep (has_news N9) (fun p hp => (N9 p hp).2.2) (.list (.head _) (.cons (lz_in (.tail _ (.head _)) hvs) .nil)) (hlaw _ (.full _))
end

section

section
variable {prog : Program} {w : World} {A : Around} {E : Value → Shared → Prop} {s : Shared} {K : Frag} {Q : Value → Shared → Prop}
  {name qual : Str} {params : Arguments} {body : List Stmt} {scope : Scope} {dV kV doc pm cdv ct oc : Value} {an od : Option Addr} {osl : Array (Option Value)} {f : Addr} {args : List Value} {binds : List (Str × Value)} {g : Heap}

/-- a call of a def with cells -/
theorem enterCC {R : Result → Shared → Prop} (X : K.In g) (hlim : g.NoLimit) (hg : Kp g s.heap) (hgs : g.objs.size ≤ s.heap.objs.size)
    (ho : K.lookup f = some ⟨oc, od, .func (fnOf name qual params body scope dV kV doc pm an cdv ct), osl⟩) (hcd : codeIn K cdv qual = true) (hroom : A.depth < recursionLimit)
    (hbind : BindsTo s (fnOf name qual params body scope dV kV doc pm an cdv ct) ⟨args, []⟩ binds) (hkind : (binds.all fun y => scope.names.lookup y.1 == some .local || scope.names.lookup y.1 == some .cell) = true)
    (hnd : ((cellsFrom 0 scope.names []).map (·.1)).Nodup)
    (h : ∀ L h₁ tk cells, Fr g L h₁ (bindL (envOfC qual scope L f cdv).kindOf binds fun _ => none) → News g L h₁ cells → CellsAre (bindC (envOfC qual scope L f cdv).kindOf binds fun _ => none) (cellsFrom (L + 1) scope.names []) cells → L = s.heap.objs.size → Kp s.heap h₁ →
      (∀ p ∈ cells, s.heap.get? p.1 = none) →
      wpAny (model prog w) (A.deeper (envOfC qual scope L f cdv)) (execs body (envOfC qual scope L f cdv))
        (fun fl s' => R (.ok (.ret (match fl with | .ret v => v | _ => .none))) s') (fun _ _ => False)
        { s with heap := h₁, toks := tk })
    (hco : scope.isCoroutine = false) (hgen : scope.isGenerator = false) (hk : scope.kind = .function) : codeAny (model prog w) A (.call (.ref f) ⟨args, []⟩) R s := by
  refine codeAny_call_function hroom (hg _ _ (X _ _ ho)) rfl hco hgen rfl (codeRec_of (X.keeps hg) hcd) (hbind _ _ _ _ ?_)
  refine wpAny_newFunctionEnv_cells hk (kindsX hkind _) fun env' he s' x => ?_
  subst he
  refine ⟨(hlim.keeps hg).keeps x.toInCall.keep, codeAny_func ?_⟩
  obtain ⟨h₁, tk, rfl, _⟩ := x.done
  have hk₁ := x.toInCall.keep
  obtain ⟨cells, NC, Y⟩ := Cl.news (h₀ := s.heap) (Nat.le_refl _) fun n c hm => ⟨x.cell n c (lookup_of_mem_nodup (cellsFrom_names scope.names 0 (s.heap.objs.size + 1) [] [] rfl ▸ hnd) hm), x.above n c hm⟩
  refine wpAny_mono (h _ h₁ tk cells ⟨x.toInCall.ns, fun b o e => hk₁ b o (hg b o e), hgs⟩ (fun p hp => ⟨(NC p hp).1, (NC p hp).2.1, ?_⟩) Y rfl hk₁ fun p hp => (NC p hp).2.2) (fun _ _ y => y) fun _ _ y => y.elim
  cases q : g.get? p.1 with
  | none => rfl
  | some o => have := hg _ _ q; rw [(NC p hp).2.2] at this; cases this
theorem cells_six {cm : Str → Option Value} {n1 n2 n3 n4 n5 n6 : Str} {c1 c2 c3 c4 c5 c6 : Addr} {cells : List (Addr × Obj)} (x : CellsAre cm [(n1, c1), (n2, c2), (n3, c3), (n4, c4), (n5, c5), (n6, c6)] cells) :
    ∃ o1 o2 o3 o4 o5 o6, cells = [(c1, o1), (c2, o2), (c3, o3), (c4, o4), (c5, o5), (c6, o6)] ∧ o1.data = .cell (cm n1) ∧ o2.data = .cell (cm n2) ∧ o3.data = .cell (cm n3) ∧ o4.data = .cell (cm n4) ∧ o5.data = .cell (cm n5) ∧ o6.data = .cell (cm n6) := by
  cases x with
  | cons h1 r => cases r with
    | cons h2 r =>
      obtain ⟨o3, o4, o5, o6, rfl, h3, h4, h5, h6⟩ := CellsAre.four r
      exact ⟨_, _, o3, o4, o5, o6, rfl, h1, h2, h3, h4, h5, h6⟩
end
section
variable {M : Model} {A : Around} {E : Value → Shared → Prop} {s : Shared} {g : Heap} {L c : Addr} {m : Str → Option Value} {news : Led} {o : Obj} {v0 : Option Value} {v : Value} {x : Str} {env : Env} {Q : Unit → Shared → Prop}
/-- a store in a cell of the ledger -/
theorem store_C (F : Fr g L s.heap m) (N : News g L s.heap ((c, o) :: news)) (off : Off c news) (hc : env.cells.lookup x = some c) (hd : o.data = .cell v0)
    (h : ∀ h' o', Fr g L h' m → News g L h' ((c, o') :: news) → o'.data = .cell (some v) → Q () { s with heap := h' })
    (hk : env.scope.kind = .function) (hx : env.kindOf x = some .cell) : wpAny M A (storeName env x v) Q E s := by
  have z := N _ (.head _)
  refine wpAny_storeName_cell hk hx hc ⟨o, z.1, hd⟩ fun h' hv hs => ?_
  obtain ⟨o', ho', hd'⟩ := hv
  exact h h' o' (fr_ext F hs.extBut z.2.1 z.2.2) (news_more (news_ext (news_tl N) hs.extBut off) ho' z.2.1 z.2.2) hd'
end
/-- what stands after the numbers are made -/
def MidNum (g : Heap) (L src : Addr) (m : Str → Option Value) (o1 o2 o3 o4 o5 : Obj) (many : Nat) (s : Shared) (f : Flow) (s' : Shared) : Prop :=
  f = Flow.next ∧ ∃ h tk D vs k ms o6 so, s' = { s with heap := h, toks := tk } ∧ Fr g L h m ∧
    News g L h [(src, so), (L + 1, o1), (L + 1 + 1, o2), (L + 1 + 1 + 1, o3), (L + 1 + 1 + 1 + 1, o4), (L + 1 + 1 + 1 + 1 + 1, o5), (L + 1 + 1 + 1 + 1 + 1 + 1, o6), (D, listOf (List.toArray vs) k)] ∧
    SrcO so ∧ o6.data = Data.cell (some (.ref D)) ∧ IntsAre vs ms ∧ ms.length = many ∧ ms.Nodup ∧ src ≠ D ∧ D ≠ L + 1 + 1 + 1 ∧ D ≠ L + 1 + 1 + 1 + 1 ∧ D ≠ L + 1 + 1 + 1 + 1 + 1
section
variable {prog : Program} {w : World} {A : Around} {E : Value → Shared → Prop} {s : Shared} {Q : Value → Shared → Prop} {g : Heap} {L : Addr} {m : Str → Option Value} {news : Led}
theorem one_L {src : Addr} {so : Obj} {tv : Value} {ds : List Dat} (G : Gd w g) (ok : Ok A 10) (F : Fr g L s.heap m) (N : News g L s.heap ((src, so) :: news)) (hso : SrcO so) (off : Off src news) (htv : DatIn news tv (.list ds)) (h1 : 1 ≤ ds.length) (h2 : ds.length ≤ 100)
    (h : ∀ v d h' tk' so', Fr g L h' m → News g L h' ((src, so') :: news) → SrcO so' → d ∈ ds → DatIn news v d → Heap.ExtBut src s.heap h' → Q v { s with heap := h', toks := tk' }) :
    wpAny (model prog w) A (call (.ref 66) [.ref src, tv] []) Q E s := by
  have z := N _ (.head _)
  refine one_spec G F.keep z.2.2 z.1 hso ok (has_news (news_tl N)) off htv h1 h2 fun v d h' tk' so' he hs hso' hd dv => ?_
  exact h v d h' tk' so' (fr_ext F he z.2.1 z.2.2) (news_more (news_ext (news_tl N) he off) hs z.2.1 z.2.2) hso' hd dv he
end
end

section

theorem nodup_inj {α : Type} {l : List α} (h : l.Nodup) {i j : Nat} {hi : i < l.length} {hj : j < l.length} (e : l[i] = l[j]) : i = j := by
  rw [List.nodup_iff_pairwise_ne, List.pairwise_iff_getElem] at h
  rcases Nat.lt_trichotomy i j with q | q | q
  · exact absurd e (h i j hi hj q)
  · exact q
  · exact absurd e.symm (h j i hj hi q)
theorem idx_at {l : List Int} (h : l.Nodup) {i : Nat} (hi : i < l.length) : l.idxOf l[i] = i :=
  nodup_inj h (hi := List.idxOf_lt_length_of_mem (List.getElem_mem hi)) (hj := hi) (List.getElem_idxOf _)

/-- each kind is one of three -/
def KindsOk (ks : List Str) : Prop := ∀ k ∈ ks, k = ("inner" : Str) ∨ k = ("left" : Str) ∨ k = ("cross" : Str)

def goodAt (ns : List Int) (ks : List Str) (pre : List Int) (i : Nat) : Bool := ks.getD i "" == ("inner" : Str) || ((ns.take i).filter fun x => !pre.contains x) == []

theorem filter_nil_iff {α : Type} [BEq α] [LawfulBEq α] (p : α → Bool) (xs : List α) : (xs.filter p == []) = xs.all fun x => !p x := by
  rw [Bool.eq_iff_iff]
  simp [List.filter_eq_nil_iff]

theorem lk_aheadL {ns : List Int} {ks : List Str} (hnd : ns.Nodup) {i : Nat} (hi : i < ns.length) : (aheadL ns ks).lookup ns[i] = some (if isOuter (ks.getD i "") then ns.take i else []) := by
  have key : ∀ (k : Nat) (is : List Nat), i ∈ is → (∀ j ∈ is, j < ns.length) → (is.map (aheadAt ns ks)).lookup ns[i] = some (if isOuter (ks.getD i "") then ns.take i else []) := by
    intro k is
    induction is with
    | nil => intro h; cases h
    | cons j js ih =>
      intro hm hb
      have hj := hb j (.head _)
      rw [List.map_cons]
      unfold aheadAt
      rw [List.lookup_cons]
      by_cases e : i = j
      · subst e
        rw [getD_lt ns 0 hi]
        simp
      · have hne : ns[i] ≠ ns[j] := fun q => e (nodup_inj hnd q)
        have eb : (ns[i] == ns.getD j 0) = false := by rw [getD_lt ns 0 hj]; simpa using hne
        rw [eb]
        rcases List.mem_cons.mp hm with h | h
        · exact absurd h e
        · exact ih h fun x hx => hb x (.tail _ hx)
  exact key 0 _ (List.mem_range.mpr hi) fun j hj => List.mem_range.mp hj

theorem may_good {ns : List Int} {ks : List Str} (hnd : ns.Nodup) (hlen : ks.length = ns.length) (hks : KindsOk ks) {pre : List Int} {i : Nat} (hi : i < ns.length) :
    mayB ns[i] pre (lk (aheadL ns ks) ns[i]) = (!pre.contains ns[i] && goodAt ns ks pre i) := by
  unfold mayB lk goodAt
  rw [lk_aheadL hnd hi, Option.getD_some, filter_nil_iff]
  congr 1
  have hk : ks.getD i "" ∈ ks := by rw [getD_lt ks _ (by omega)]; exact List.getElem_mem _
  rcases hks _ hk with h | h | h <;> rw [h]
  · rw [if_neg (by decide +kernel)]
    have : (("inner" : Str) == "inner") = true := by decide +kernel
    rw [this]; rfl
  · rw [if_pos (by decide +kernel)]
    have : (("left" : Str) == "inner") = false := by decide +kernel
    rw [this]; simp
  · rw [if_pos (by decide +kernel)]
    have : (("cross" : Str) == "inner") = false := by decide +kernel
    rw [this]; simp

/-- all completions of a row -/
def gen (ns : List Int) (ah : List (Int × List Int)) : Nat → List Int → List (List Int)
  | 0, row => [row]
  | k + 1, row => (stepRow ns ah row).flatMap (gen ns ah k)
theorem gen_all (ns : List Int) (ah : List (Int × List Int)) (k : Nat) : ∀ j, (allRows ns ah j).flatMap (gen ns ah k) = allRows ns ah (j + k) := by
  induction k with
  | zero => intro j; simp [gen]
  | succ k ih =>
    intro j
    rw [show j + (k + 1) = (j + 1) + k by omega, ← ih (j + 1), allRows]
    rw [List.flatMap_assoc]
    rfl
theorem gen_nil (ns : List Int) (ah : List (Int × List Int)) (k : Nat) : gen ns ah k [] = allRows ns ah k := by
  have := gen_all ns ah k 0
  simpa [allRows] using this

theorem mixedN_cons (n : Nat) (xs : List Int) (h : xs.length = n + 1) (hnd : xs.Nodup) : mixedN (n + 1) xs = xs.flatMap fun x => (mixedN n (xs.erase x)).map (x :: ·) := by
  rw [mixedN, ← h]
  have e : xs = (List.range xs.length).map fun i => xs.getD i 0 := by
    apply List.ext_getElem
    · simp
    · intro i h1 h2
      simp [h1]
  conv => rhs; rw [e]
  rw [List.flatMap_map]
  rw [List.flatMap_def, List.flatMap_def]
  congr 1
  apply List.map_congr_left
  intro i hi
  have hi := List.mem_range.mp hi
  rw [getD_lt xs 0 hi, ← e, List.erase_eq_eraseIdx_of_idxOf (idx_at hnd hi)]

theorem letAt_at {ns : List Int} {ks : List Str} {pre rest : List Int} {i : Nat} (hi : i < ns.length) (h : ns[i] ∉ pre) : letAt (pre ++ ns[i] :: rest) ns ks i = goodAt ns ks pre i := by
  unfold letAt goodAt
  rw [getD_lt ns 0 hi, List.idxOf_append, if_neg h, List.idxOf_cons_self, Nat.zero_add, List.take_left]
theorem letAt_pre {ns : List Int} {ks : List Str} {pre rest : List Int} {i : Nat} (hi : i < ns.length) (h : ns[i] ∈ pre) : letAt (pre ++ rest) ns ks i = letAt pre ns ks i := by
  unfold letAt
  rw [getD_lt ns 0 hi, List.idxOf_append, if_pos h, List.take_append_of_le_length (Nat.le_of_lt (List.idxOf_lt_length_of_mem h))]

/-- what is told of the row so far -/
def LetIn (ns : List Int) (ks : List Str) (pre : List Int) : Prop := ∀ (i : Nat) (hi : i < ns.length), ns[i] ∈ pre → letAt pre ns ks i = true
theorem LetIn.snoc {ns : List Int} {ks : List Str} {pre : List Int} (hnd : ns.Nodup) (h : LetIn ns ks pre) {i : Nat} (hi : i < ns.length) (hp : ns[i] ∉ pre) (hg : goodAt ns ks pre i = true) : LetIn ns ks (pre ++ [ns[i]]) := by
  intro j hj hm
  by_cases e : ns[j] ∈ pre
  · rw [letAt_pre hj e]; exact h j hj e
  · have : ns[j] = ns[i] := by
      rcases List.mem_append.mp hm with q | q
      · exact absurd q e
      · exact List.mem_singleton.mp q
    have hji : j = i := nodup_inj hnd this
    subst hji
    rw [letAt_at hj hp]; exact hg

theorem isLet_of {ns : List Int} {ks : List Str} {row : List Int} (h : LetIn ns ks row) (hall : ∀ x ∈ ns, x ∈ row) : isLet row ns ks = true := by
  unfold isLet
  rw [List.all_eq_true]
  intro i hi
  have hi := List.mem_range.mp hi
  exact h i hi (hall _ (List.getElem_mem hi))

theorem filter_eq_of {α : Type} {p q : α → Bool} {xs : List α} (h : ∀ x ∈ xs, p x = true → q x = true) : (xs.filter q).filter p = xs.filter p := by
  rw [List.filter_filter]
  apply List.filter_congr
  intro x hx
  cases hp : p x
  · rfl
  · rw [h x hx hp]; rfl

theorem filter_flat {α β : Type} (f : α → List β) (p : α → Bool) (q : β → Bool) : ∀ xs : List α, (∀ x ∈ xs, p x = false → (f x).filter q = []) → (xs.flatMap f).filter q = (xs.filter p).flatMap fun x => (f x).filter q
  | [], _ => rfl
  | x :: xs, h => by
    rw [List.flatMap_cons, List.filter_append, filter_flat f p q xs fun y hy => h y (.tail _ hy)]
    cases hp : p x
    · rw [h x (.head _) hp, List.filter_cons_of_neg (by simp [hp])]; rfl
    · rw [List.filter_cons_of_pos hp, List.flatMap_cons]

theorem gen_mixed {ns : List Int} {ks : List Str} (hnd : ns.Nodup) (hlen : ks.length = ns.length) (hks : KindsOk ks) (m : Nat) : ∀ (pre left : List Int), left.length = m → left = (ns.filter fun x => !pre.contains x) → LetIn ns ks pre →
    gen ns (aheadL ns ks) m pre = ((mixedN m left).map (pre ++ ·)).filter fun r => isLet r ns ks := by
  induction m with
  | zero =>
    intro pre left hl he hp
    have h0 : left = [] := List.eq_nil_of_length_eq_zero hl
    subst h0
    have hall : ∀ x ∈ ns, x ∈ pre := by
      intro x hx
      have := List.filter_eq_nil_iff.mp he.symm x hx
      simpa using this
    have : isLet pre ns ks = true := isLet_of hp hall
    simp [gen, mixedN, this]
  | succ m ih =>
    intro pre left hl he hp
    have hln : left.Nodup := by rw [he]; exact hnd.filter _
    rw [gen, mixedN_cons m left hl hln, stepRow, List.flatMap_map, List.map_flatMap]
    have hsub : (ns.filter fun n => mayB n pre (lk (aheadL ns ks) n)) = left.filter fun n => mayB n pre (lk (aheadL ns ks) n) := by
      rw [he]
      refine (filter_eq_of ?_).symm
      intro x _ hm
      unfold mayB at hm
      rw [Bool.and_eq_true] at hm
      exact hm.1
    rw [hsub, filter_flat _ (fun n => mayB n pre (lk (aheadL ns ks) n))]
    · rw [List.flatMap_def, List.flatMap_def]
      congr 1
      apply List.map_congr_left
      intro x hx
      obtain ⟨hx1, hx2⟩ := List.mem_filter.mp hx
      have hx0 : x ∈ ns := by rw [he] at hx1; exact (List.mem_filter.mp hx1).1
      obtain ⟨i, hi, rfl⟩ := List.mem_iff_getElem.mp hx0
      rw [may_good hnd hlen hks hi, Bool.and_eq_true] at hx2
      have hnp : ns[i] ∉ pre := by simpa using hx2.1
      have e2 : left.erase ns[i] = ns.filter fun x => !(pre ++ [ns[i]]).contains x := by
        rw [hln.erase_eq_filter, he, List.filter_filter]
        apply List.filter_congr
        intro y _
        rw [List.contains_eq_mem, List.contains_eq_mem]
        by_cases a : y = ns[i] <;> by_cases b : y ∈ pre <;> simp [a, b, hnp]
      have := ih (pre ++ [ns[i]]) (left.erase ns[i]) (by rw [List.length_erase_of_mem hx1, hl]; rfl) e2 (hp.snoc hnd hi hnp hx2.2)
      rw [this, List.map_map]
      congr 1
      apply List.map_congr_left
      intro r _
      simp
    · intro x hx hm
      have hx0 : x ∈ ns ∧ x ∉ pre := by rw [he] at hx; have := List.mem_filter.mp hx; exact ⟨this.1, by simpa using this.2⟩
      obtain ⟨i, hi, rfl⟩ := List.mem_iff_getElem.mp hx0.1
      rw [may_good hnd hlen hks hi] at hm
      have hnp := hx0.2
      have hg : goodAt ns ks pre i = false := by
        have : pre.contains ns[i] = false := by simpa using hnp
        rw [this] at hm
        simpa using hm
      rw [List.filter_eq_nil_iff]
      intro r hr
      obtain ⟨r1, hr1, rfl⟩ := List.mem_map.mp hr
      obtain ⟨r2, hr2, rfl⟩ := List.mem_map.mp hr1
      intro hc
      unfold isLet at hc
      have := List.all_eq_true.mp hc i (List.mem_range.mpr hi)
      rw [letAt_at hi hnp, hg] at this
      cases this

/-- the first law -/
theorem all_law {ns : List Int} {ks : List Str} (hnd : ns.Nodup) (hlen : ks.length = ns.length) (hks : KindsOk ks) : allRows ns (aheadL ns ks) ns.length = (mixedN ns.length ns).filter fun r => isLet r ns ks := by
  have := gen_mixed hnd hlen hks ns.length [] ns rfl (List.filter_eq_self.mpr fun _ _ => rfl).symm (fun i hi h => by cases h)
  rw [gen_nil] at this
  simpa using this

/-- the law's own row of numbers -/
def dueRow (ns : List Int) (as told : List Str) : List Int := (told.filter fun a => as.contains a).map fun a => ns.getD (as.idxOf a) 0

theorem mem_allRows {ns : List Int} {ah : List (Int × List Int)} (k : Nat) (r : List Int) (n : Int) : r ++ [n] ∈ allRows ns ah (k + 1) ↔ r ∈ allRows ns ah k ∧ n ∈ ns ∧ mayB n r (lk ah n) = true := by
  rw [allRows, List.mem_flatMap]
  constructor
  · rintro ⟨r', hr, hm⟩
    unfold stepRow at hm
    obtain ⟨n', hn, e⟩ := List.mem_map.mp hm
    obtain ⟨rfl, e2⟩ := List.append_inj' e rfl
    obtain rfl := List.singleton_inj.mp e2
    obtain ⟨a, b⟩ := List.mem_filter.mp hn
    exact ⟨hr, a, b⟩
  · rintro ⟨hr, hn, hm⟩
    refine ⟨r, hr, ?_⟩
    unfold stepRow
    exact List.mem_map.mpr ⟨n, List.mem_filter.mpr ⟨hn, hm⟩, rfl⟩

theorem toldStep_out {ns : List Int} {ah : List (Int × List Int)} {as : List Str} {row : List Int} {al : Str} (hlen : as.length = ns.length) (h : al ∉ as) : toldStep ns ah as row al = row := by
  refine toldStep_none fun j hj => ?_
  unfold toldAt
  have : (as.getD j "" == al) = false := by
    rw [getD_lt as _ (by omega)]
    apply beq_false_of_ne
    rintro rfl
    exact h (List.getElem_mem _)
  rw [this]; rfl
theorem toldStep_in {ns : List Int} {ah : List (Int × List Int)} {as : List Str} {row : List Int} {al : Str} (hlen : as.length = ns.length) (has : as.Nodup) (h : al ∈ as) :
    toldStep ns ah as row al = if mayB (ns.getD (as.idxOf al) 0) row (lk ah (ns.getD (as.idxOf al) 0)) then row ++ [ns.getD (as.idxOf al) 0] else row := by
  have hi : as.idxOf al < as.length := List.idxOf_lt_length_of_mem h
  have other : ∀ j < ns.length, j ≠ as.idxOf al → toldAt ns ah as row al j = false := by
    intro j hj hne
    unfold toldAt
    have : (as.getD j "" == al) = false := by
      rw [getD_lt as _ (by omega)]
      apply beq_false_of_ne
      intro e
      apply hne
      have e2 : as[as.idxOf al] = al := List.getElem_idxOf hi
      exact nodup_inj has (e.trans e2.symm)
    rw [this]; rfl
  have here : toldAt ns ah as row al (as.idxOf al) = mayB (ns.getD (as.idxOf al) 0) row (lk ah (ns.getD (as.idxOf al) 0)) := by
    unfold toldAt
    rw [getD_lt as _ hi, List.getElem_idxOf hi]
    simp
  split
  · rename_i hm
    exact toldStep_some (by omega) (fun j hj => other j (by omega) (by omega)) (here.trans hm)
  · rename_i hm
    refine toldStep_none fun j hj => ?_
    by_cases e : j = as.idxOf al
    · rw [e, here]; simpa using hm
    · exact other j hj e

/-- the told row is no longer than the due row; where it is as long, it is that one, and a row of all -/
theorem told_walk {ns : List Int} {ah : List (Int × List Int)} {as : List Str} (hlen : as.length = ns.length) (has : as.Nodup) (told : List Str) :
    (toldRow ns ah as told).length ≤ (dueRow ns as told).length ∧
    ((toldRow ns ah as told).length = (dueRow ns as told).length → toldRow ns ah as told = dueRow ns as told ∧ dueRow ns as told ∈ allRows ns ah (dueRow ns as told).length) ∧
    (dueRow ns as told ∈ allRows ns ah (dueRow ns as told).length → toldRow ns ah as told = dueRow ns as told) := by
  have snoc : ∀ (P : List Str → Prop), P [] → (∀ l a, P l → P (l ++ [a])) → ∀ l, P l := by
    intro P h0 h1 l
    rw [← List.reverse_reverse l]
    induction l.reverse with
    | nil => exact h0
    | cons a l ih => rw [List.reverse_cons]; exact h1 _ _ ih
  revert told
  refine snoc _ ?_ ?_
  · exact ⟨Nat.le_refl _, fun _ => ⟨rfl, List.mem_singleton.mpr rfl⟩, fun _ => rfl⟩
  · intro l a ih
    obtain ⟨h1, h2, h3⟩ := ih
    have e1 : toldRow ns ah as (l ++ [a]) = toldStep ns ah as (toldRow ns ah as l) a := by unfold toldRow; rw [List.foldl_append]; rfl
    by_cases ha : a ∈ as
    · have e2 : dueRow ns as (l ++ [a]) = dueRow ns as l ++ [ns.getD (as.idxOf a) 0] := by
        unfold dueRow
        rw [List.filter_append, List.map_append, List.filter_cons_of_pos (by simpa using ha)]; rfl
      have hn : ns.getD (as.idxOf a) 0 ∈ ns := by
        have hi : as.idxOf a < as.length := List.idxOf_lt_length_of_mem ha
        rw [getD_lt ns 0 (by omega)]; exact List.getElem_mem _
      rw [e1, e2, toldStep_in hlen has ha, List.length_append, List.length_singleton, mem_allRows]
      split
      · rename_i hm
        rw [List.length_append, List.length_singleton]
        refine ⟨by omega, fun h => ?_, fun h => ?_⟩
        · obtain ⟨q1, q2⟩ := h2 (by omega)
          rw [q1] at hm
          exact ⟨by rw [q1], q2, hn, hm⟩
        · rw [h3 h.1]
      · rename_i hm
        refine ⟨by omega, fun h => by omega, fun h => ?_⟩
        have := h3 h.1
        rw [this] at hm
        exact absurd h.2.2 hm
    · have e2 : dueRow ns as (l ++ [a]) = dueRow ns as l := by
        unfold dueRow
        rw [List.filter_append, List.filter_cons_of_neg (by simpa using ha)]; simp
      rw [e1, e2, toldStep_out hlen ha]
      exact ⟨h1, h2, h3⟩

theorem dueRow_len (ns : List Int) (as told : List Str) : (dueRow ns as told).length ≤ told.length := by
  unfold dueRow
  rw [List.length_map]
  exact List.length_filter_le _ _

/-- the second law -/
theorem told_law {ns : List Int} {ah : List (Int × List Int)} {as told : List Str} (hsz : ns.length ≤ 4) (hlen : as.length = ns.length) (has : as.Nodup) :
    toldOut ns ah as told = if (dueRow ns as told).length = told.length ∧ dueRow ns as told ∈ allRows ns ah ns.length then [dueRow ns as told] else [] := by
  obtain ⟨h1, h2, h3⟩ := told_walk (ah := ah) hlen has told
  have h4 := dueRow_len ns as told
  unfold toldOut
  by_cases c : (toldRow ns ah as told).length = ns.length ∧ ns.length = told.length
  · have e : (toldRow ns ah as told).length = (dueRow ns as told).length := by omega
    obtain ⟨q1, q2⟩ := h2 e
    rw [if_pos c, if_pos ⟨by omega, by rw [show ns.length = (dueRow ns as told).length by omega]; exact q2⟩, q1]
  · rw [if_neg c, if_neg]
    rintro ⟨a, b⟩
    have e := row_len hsz _ _ b
    rw [← e] at b
    have := h3 b
    rw [this] at c
    omega
end

section

def lawBody : List Stmt := match PySem.Challenge.pw_nt0088_01.main.body.drop 14 with
  | .FunctionDef _ _ body _ _ _ _ _ _ _ :: _ => body
  | _ => []
def lawScope : Scope := match PySem.Challenge.pw_nt0088_01.main.body.drop 14 with
  | .FunctionDef _ _ _ _ _ _ scope _ _ _ :: _ => scope
  | _ => default
def lawEnv (L : Addr) : Env := envOfC "law" lawScope L 95 (.ref 94)
end

section

theorem cps_beq (x y : Str) : (x.cps.toList == y.cps.toList) = (x == y) := by
  rw [Bool.eq_iff_iff, beq_iff_eq, beq_iff_eq]
  constructor
  · intro h
    cases x; cases y
    simp only [Str.mk.injEq]
    exact Array.toList_inj.mp h
  · intro h; rw [h]
def isStrV (k : Str) : Value → Bool
  | .str x _ => x == k
  | _ => false
section
variable {prog : Program} {w : World} {A : Around} {E : Value → Shared → Prop} {s : Shared} {Q : Value → Shared → Prop} {g : Heap} {L : Addr} {m : Str → Option Value} {news l : Led}
theorem index_s {a : Addr} {vs : List Value} {n : Nat} {as : List Str} {k : Str} {t : Tok} (H : Has s.heap l) (hm : (a, listOf vs.toArray n) ∈ l) (hi : StrsAre vs as) (hk : k ∈ as) (hz : vs.length ≤ 1000000)
    (h : Q (.int (as.idxOf k : Nat) s.toks) { s with toks := s.toks + 1 }) : wpAny (model prog w) A (call (.builtin "list.index") [.ref a, .str k t]) Q E s := by
  have hlen := hi.length
  have hj : as.idxOf k < as.length := List.idxOf_lt_length_of_mem hk
  have val : ∀ (i : Nat) (h1 : i < vs.length) (h2 : i < as.length), ∃ u, vs[i] = .str as[i] u := fun i h1 h2 => hi.get h1 h2
  refine call_meets PySem.F.slot_list_index ⟨_, H _ hm, rfl⟩ PySem.F.entry_list_index (PySem.F.args_list_index_2 _ _)
    (MeetsSeq.list_index a vs.toArray n (.str k t) (isStrV k) (fun y hy => ?_) (as.idxOf k) (by simp; omega) (by omega) ?_ (fun i hi' hlt => ?_)) ⟨H _ hm, h⟩
  · obtain ⟨i, h1, e⟩ := List.mem_iff_getElem.mp (show y ∈ vs by simpa using hy)
    obtain ⟨u, e2⟩ := val i h1 (by omega)
    rw [← e, e2]
    have := SeqRoads2.EqGives.str as[i] k u t
    rw [cps_beq] at this
    exact this
  · obtain ⟨u, e2⟩ := val (as.idxOf k) (by omega) hj
    rw [List.getElem_toArray, e2]
    show (as[as.idxOf k] == k) = true
    rw [List.getElem_idxOf hj]
    simp
  · have h1 : i < vs.length := by simpa using hi'
    obtain ⟨u, e2⟩ := val i h1 (by omega)
    rw [List.getElem_toArray, e2]
    show (as[i] == k) = false
    have h9 := List.not_of_lt_findIdx (p := (· == k)) (xs := as) (i := i) hlt
    simpa using h9

theorem ltold_L {src : Addr} {so : Obj} {av : Value} {as : List Str} (G : Gd w g) (ok : Ok A 30) (F : Fr g L s.heap m) (N : News g L s.heap ((src, so) :: news)) (hso : SrcO so) (off : Off src news) (hav : DatIn news av (lstr as))
    (hal : ∀ x ∈ as, PyData.strOk x = true) (hlen : as.length ≤ 8)
    (h : ∀ a' l' h' tk' so' told, Fr g L h' m → News g L h' ((src, so') :: (news ++ l')) → SrcO so' → Off src l' → (∀ p ∈ l', s.heap.get? p.1 = none) → DatIn l' (.ref a') (lstr told) → ToldForm as told → Q (.ref a') { s with heap := h', toks := tk' }) :
    wpAny (model prog w) A (call (.ref 85) [.ref src, av] []) Q E s := by
  have z := N _ (.head _)
  refine ltold_spec G F.keep z.2.2 z.1 hso ok (has_news (news_tl N)) off hav hal hlen fun a' l' h' tk' so' told he hs hso' hl' fr hd hf => ?_
  have F' := fr_ext F he z.2.1 z.2.2
  have offl : Off src l' := off_new fr z.1
  refine h a' l' h' tk' so' told F' (news_more (news_app (news_ext (news_tl N) he off) fun p hp => ?_) hs z.2.1 z.2.2) hso' offl fr hd hf
  refine ⟨hl' p hp, fun e => ?_, ?_⟩
  · obtain ⟨o, _, _, ho, _⟩ := F.ns
    have := fr p hp; rw [e, ho] at this; cases this
  · cases e : g.get? p.1 with
    | none => rfl
    | some o => have := fr p hp; rw [F.keep _ _ e] at this; cases this
end
end

section

def costOf (ns : List Int) (cs : List (List (Option Int))) (n : Int) (j : Nat) : Option Int := costAt cs (ns.idxOf n) j

theorem fits_eq {ns : List Int} {ks : List Str} {cs : List (List (Option Int))} {row : List Int} (hnd : ns.Nodup) (hlen : ks.length = ns.length) (hks : KindsOk ks) {i : Nat} (hi : i < ns.length) :
    fits ns ks cs row i = (if mayB ns[i] row (lk (aheadL ns ks) ns[i]) then costOf ns cs ns[i] row.length else none).map fun c => (c, (i : Int)) := by
  unfold fits costOf
  rw [may_good hnd hlen hks hi, idx_at hnd hi, getD_lt ns 0 hi]
  unfold goodAt
  cases costAt cs i row.length with
  | none => simp
  | some c =>
    dsimp only
    split <;> rfl

/-- what the fold has found, told by the list of the fit -/
def Found (ns : List Int) (b : Option (Int × Int)) (ps : List (Int × Int)) : Prop :=
  match b with
  | none => ps = []
  | some (n, c) => ∃ p, Lexmin p ps ∧ p.1 = c ∧ ns.getD p.2.toNat 0 = n

theorem found_fold {ns : List Int} {ks : List Str} {cs : List (List (Option Int))} {row : List Int} (hnd : ns.Nodup) (hlen : ks.length = ns.length) (hks : KindsOk ks) (k : Nat) (hk : k ≤ ns.length) :
    Found ns ((ns.take k).foldl (bestStep (aheadL ns ks) (costOf ns cs) row) none) ((List.range k).filterMap (fits ns ks cs row)) := by
  induction k with
  | zero => exact rfl
  | succ k ih =>
    have hk' : k < ns.length := by omega
    have ih := ih (by omega)
    rw [List.take_add_one, List.getElem?_eq_getElem hk', List.foldl_append, List.range_succ, List.filterMap_append]
    have bound : ∀ q ∈ (List.range k).filterMap (fits ns ks cs row), q.2 < (k : Int) := by
      intro q hq
      obtain ⟨i, hi, e⟩ := List.mem_filterMap.mp hq
      rw [fits_snd e]
      have := List.mem_range.mp hi
      omega
    generalize (ns.take k).foldl (bestStep (aheadL ns ks) (costOf ns cs) row) none = b at *
    generalize (List.range k).filterMap (fits ns ks cs row) = ps at *
    show Found ns (bestStep (aheadL ns ks) (costOf ns cs) row b ns[k]) (ps ++ [k].filterMap (fits ns ks cs row))
    have e := fits_eq (cs := cs) (row := row) hnd hlen hks hk'
    unfold bestStep
    cases hv : (if mayB ns[k] row (lk (aheadL ns ks) ns[k]) then costOf ns cs ns[k] row.length else none) with
    | none =>
      rw [hv] at e
      have e2 : [k].filterMap (fits ns ks cs row) = [] := by simp [e]
      rw [e2, List.append_nil]
      exact ih
    | some c =>
      rw [hv] at e
      have e2 : [k].filterMap (fits ns ks cs row) = [(c, (k : Int))] := by simp [e]
      rw [e2]
      dsimp only
      cases b with
      | none =>
        have e3 : ps = [] := ih
        rw [e3]
        refine ⟨(c, (k : Int)), ⟨.head _, fun q hq => ?_⟩, rfl, ?_⟩
        · rw [List.nil_append] at hq
          rw [List.mem_singleton.mp hq]
          exact .inr ⟨rfl, Int.le_refl _⟩
        · show ns.getD k 0 = _
          exact getD_lt ns 0 hk'
      | some p =>
        obtain ⟨bn, bc⟩ := p
        obtain ⟨p, ⟨hp, hmin⟩, hp1, hp2⟩ := ih
        dsimp only
        split
        · rename_i hlt
          refine ⟨(c, (k : Int)), ⟨List.mem_append.mpr (.inr (.head _)), fun q hq => ?_⟩, rfl, ?_⟩
          · rcases List.mem_append.mp hq with hq | hq
            · left
              show c < q.1
              rcases hmin q hq with h | h <;> omega
            · rw [List.mem_singleton.mp hq]
              exact .inr ⟨rfl, Int.le_refl _⟩
          · show ns.getD k 0 = _
            exact getD_lt ns 0 hk'
        · rename_i hlt
          refine ⟨p, ⟨List.mem_append.mpr (.inl hp), fun q hq => ?_⟩, hp1, hp2⟩
          rcases List.mem_append.mp hq with hq | hq
          · exact hmin q hq
          · rw [List.mem_singleton.mp hq]
            have := bound p hp
            show p.1 < c ∨ p.1 = c ∧ p.2 ≤ (k : Int)
            omega

theorem lexmin_unique {p q : Int × Int} {ps : List (Int × Int)} (hp : Lexmin p ps) (hq : Lexmin q ps) : p = q := by
  have a := hp.2 q hq.1
  have b := hq.2 p hp.1
  have h1 : p.1 = q.1 := by omega
  have h2 : p.2 = q.2 := by omega
  exact Prod.ext h1 h2

/-- the third law -/
theorem greedy_law {ns : List Int} {ks : List Str} {cs : List (List (Option Int))} (hnd : ns.Nodup) (hlen : ks.length = ns.length) (hks : KindsOk ks) {n : Nat} {row : List Int} {out : List (List Int)} (h : LawRow ns ks cs n row out) :
    out = greedyRow ns (aheadL ns ks) (costOf ns cs) n row := by
  induction h with
  | full row => rfl
  | stuck n row hf =>
    have := found_fold (cs := cs) (row := row) hnd hlen hks ns.length (Nat.le_refl _)
    rw [List.take_length] at this
    change Found ns (best ns (aheadL ns ks) (costOf ns cs) row) (fit ns ks cs row) at this
    rw [greedyRow]
    cases hb : best ns (aheadL ns ks) (costOf ns cs) row with
    | none => rfl
    | some p =>
      rw [hb, hf] at this
      obtain ⟨q, ⟨hq, _⟩, _⟩ := this
      exact absurd hq (List.not_mem_nil)
  | step n row p out hl hr ih =>
    have := found_fold (cs := cs) (row := row) hnd hlen hks ns.length (Nat.le_refl _)
    rw [List.take_length] at this
    change Found ns (best ns (aheadL ns ks) (costOf ns cs) row) (fit ns ks cs row) at this
    rw [greedyRow]
    cases hb : best ns (aheadL ns ks) (costOf ns cs) row with
    | none =>
      rw [hb] at this
      have h0 : fit ns ks cs row = [] := this
      rw [h0] at hl
      exact absurd hl.1 List.not_mem_nil
    | some q =>
      rw [hb] at this
      obtain ⟨b, c⟩ := q
      obtain ⟨q, hq, _, e⟩ := this
      have := lexmin_unique hl hq
      subst this
      dsimp only
      rw [← e]
      exact ih
end

section


def lamBody : Expr := match lawBody.drop 11 with
  | .Assign _ (.Call _ [_, _, .Lambda _ body _ _] _ _) _ :: _ => body
  | _ => default
def lamScope : Scope := match lawBody.drop 11 with
  | .Assign _ (.Call _ [_, _, .Lambda _ _ scope _] _ _) _ :: _ => scope
  | _ => default
theorem nm_free {M : Model} {A : Around} {E : Value → Shared → Prop} {s : Shared} {Q : Value → Shared → Prop} {g : Heap} {m : Str → Option Value} {env : Env} {x : Str} {pos : Pos} {v : Value} {c L : Addr} {o : Obj}
    (F : Fr g L s.heap m) (hl : env.kindOf x = some .free) (hk : env.scope.kind = .function) (hd : (x == ("__debug__" : Str)) = false) (hn : (x == ("__classdict__" : Str)) = false) (hc : env.cells.lookup x = some c) (hg : g.get? c = some o) (ho : o.data = .cell (some v)) (h : Q v s) :
    wpAny M A (eval (.Name x pos) env) Q E s := wpAny_Name (wpAny_loadName_free hk hl hc ⟨o, F.keep _ _ hg, ho⟩ h hn) hd

local macro_rules | `(tactic| walk_at "eval Name") => `(tactic| k_dflt (refine' nm_free ?F ?l ?k ?d ?n ?c ?g ?o ?_; (case l => exact rfl); (case k => exact rfl); (case d => decide); (case n => decide); (case F => k_asm); (case c => exact rfl); (case g => k_asm); (case o => first | k_asm | exact rfl); k_whole))

set_option maxHeartbeats 1000000 in
theorem lam_body {prog : Program} {w : World} {A : Around} {s : Shared} {Q : Value → Shared → Prop} {g : Heap} {L fn c' c5 c6 cr nr ra : Addr} {qual : Str} {o5 o6 : Obj} {m : Str → Option Value} {tl l : Led} {ns row : List Int} {cs : List (List (Option Int))} {n : Int} {tn : Tok}
    (G : Gd w g) (F : Fr g L s.heap m) (g5 : g.get? c5 = some o5) (g6 : g.get? c6 = some o6) (d5 : o5.data = Data.cell (some (.ref cr))) (d6 : o6.data = Data.cell (some (.ref nr))) (Ht : Has g tl) (H : Has g l)
    (hn : DatIn tl (.ref nr) (lz ns)) (hcs : DatIn tl (.ref cr) (lcost cs)) (hcl : cs.length = ns.length) (hcr : ∀ r ∈ cs, r.length = ns.length) (h4 : ns.length ≤ 4)
    (hr : DatIn l (.ref ra) (lz row)) (hin : n ∈ ns) (hrl : row.length < ns.length) (hm1 : m "number" = some (.int n tn)) (hm2 : m "row" = some (.ref ra))
    (hQ : ∀ v h' tk', Kp g h' → DatIn [] v (costD (costAt cs (ns.idxOf n) row.length)) → Q v { s with heap := h', toks := tk' }) :
    wpAny (model prog w) A (eval lamBody (envX qual lamScope L fn (.ref c') [("numbers", c6), ("costs", c5)])) Q (fun _ _ => False) s := by
  obtain ⟨X, lo, mg0, mb0, T0⟩ := id G
  conv in lamBody => whnf
  conv in lamScope => whnf
  walk_at "fill"
  obtain ⟨nr', nvs, nk, enr, hnm, hnv⟩ := datIn_list hn
  cases enr
  obtain ⟨ra', rvs, rk, era, hrm, hrv⟩ := datIn_list hr
  cases era
  have hI := datAll_ints hnv
  have hRI := datAll_ints hrv
  have hvl := hI.length
  have hrvl := hRI.length
  have H1 := Ht.keeps F.keep
  have H2 := H.keeps F.keep
  walk_at "mine"
  refine kf_method H1.news hnm PySem.F.slot_list_index PySem.F.type_list_index ?_
  walk_at "mine"
  refine index_z (ns := ns) H1 hnm hI hin (by omega) ?_
  walk_at "mine"
  have hix : ns.idxOf n < ns.length := List.idxOf_lt_length_of_mem hin
  refine item_D (l := tl) H1 hcs (by omega) (d := .list ((cs.getD (ns.idxOf n) []).map costD)) (by
    show (cs.map fun r => Dat.list (r.map costD))[ns.idxOf n]? = _
    rw [List.getElem?_map, List.getElem?_eq_getElem (by omega), getD_lt cs [] (by omega)]
    rfl) (by omega) ?_
  intro v9 dv9
  obtain ⟨a9, vs9, n9, rfl, hm9, hv9⟩ := datIn_list dv9
  walk_at "mine"
  refine len_L (H2.list hrm) hrvl (by omega) ?_
  walk_at "mine"
  have hrr : (cs.getD (ns.idxOf n) []).length = ns.length := hcr _ (by rw [getD_lt cs [] (by omega)]; exact List.getElem_mem _)
  refine item_D (l := tl) H1 dv9 (by omega) (d := costD (costAt cs (ns.idxOf n) row.length)) (by
    show ((cs.getD (ns.idxOf n) []).map costD)[row.length]? = _
    rw [List.getElem?_map, List.getElem?_eq_getElem (by omega)]
    unfold costAt
    rw [getD_lt (cs.getD (ns.idxOf n) []) none (by omega)]
    rfl) (by omega) ?_
  intro v8 dv8
  refine hQ _ _ _ F.keep ?_
  generalize costAt cs (ns.idxOf n) row.length = c at dv8
  cases c with
  | none => cases dv8; exact .none
  | some x => cases dv8; exact .int _ _
end

section


theorem lk_all {ns : List Int} {ks : List Str} (hnn : ns.Nodup) (h4 : ns.length ≤ 4) : ∀ n ∈ ns, ∃ x, (aheadL ns ks).lookup n = some x ∧ x.length ≤ 1000 := by
  intro n hn
  obtain ⟨i, hi, rfl⟩ := List.mem_iff_getElem.mp hn
  refine ⟨_, lk_aheadL hnn hi, ?_⟩
  split
  · rw [List.length_take]; omega
  · simp
theorem ghost_kp {g : Heap} {l : List (Addr × Addr)} : Kp (ghostOf g l) g := fun b o e => of_hideAll _ e
theorem ghost_fr' {g h : Heap} {L : Addr} {m : Str → Option Value} {l : List (Addr × Addr)} (F : Fr g L h m) : Fr (ghostOf g l) L h m := ⟨F.ns, fun b o e => F.keep b o (of_hideAll _ e), Nat.le_trans (Nat.le_of_eq (hideAll_size _ _)) F.above⟩
theorem ghost_news' {g h : Heap} {L : Addr} {m : Str → Option Value} {l : Led} {c P : Addr} {o : Obj} (F : Fr g L h m) (N : News g L h l) (hP : g.get? P = some o) : News (ghostOf g [(c, P)]) L h ((P, o) :: l) := fun p hp => by
  rcases List.mem_cons.mp hp with rfl | hp
  · exact ⟨F.keep _ _ hP, Nat.ne_of_lt (Nat.lt_of_lt_of_le (Heap.lt_size hP) F.above), hideAll_none _ (.head _)⟩
  · exact ⟨(N p hp).1, (N p hp).2.1, ghost_fresh (N p hp).2.2⟩

section
variable {prog : Program} {w : World} {A : Around} {E : Value → Shared → Prop} {s : Shared} {Q : Value → Shared → Prop}
theorem enterE {name qual : Str} {params : Arguments} {body : Expr} {scope : Scope} {cl : List (Str × Addr)} {pm ctv : Value} {c' f : Addr} {args : List Value} {binds : List (Str × Value)} (hlim : s.heap.NoLimit)
    (ho : s.heap.get? f = some (kla_obj name qual params body scope cl pm c' ctv)) (hcd : s.heap.CodeRec (.ref c') qual) (hroom : A.depth < recursionLimit)
    (hbind : BindsTo s (kla_fn name qual params body scope cl pm (.ref c') ctv) ⟨args, []⟩ binds) (hloc : ∀ y ∈ binds, scope.names.lookup y.1 = some .local)
    (h : ∀ L h₁ tk, Fr s.heap L h₁ (fun y => binds.reverse.lookup y) → Kp s.heap h₁ →
      wpAny (model prog w) (A.deeper (envX qual scope L f (.ref c') cl)) (eval body (envX qual scope L f (.ref c') cl)) Q (fun _ _ => False) { s with heap := h₁, toks := tk })
    (hco : scope.isCoroutine = false) (hgen : scope.isGenerator = false) (hk : scope.kind = .function) (hcell : ∀ x ∈ scope.names, x.2 ≠ .cell) : wpAny (model prog w) A (call (.ref f) args []) Q E s := by
  refine wpAny_call ?_
  refine kla_callFunE hroom ho rfl hco hgen rfl hcd (hbind _ _ _ _ ?_)
  refine wpAny_newFunctionEnv hcell hloc (fun h₁ hns hsb => ⟨hlim.fresh _ hsb, ?_⟩) hk
  show codeAny _ _ (.expr body (envX qual scope s.heap.objs.size f (.ref c') cl)) _ _
  have hk₁ : ∀ b o, s.heap.get? b = some o → h₁.get? b = some o := fun b o e => hsb.extBut b o (Nat.ne_of_lt (Heap.lt_size e)) (Heap.get?_push_of_some _ e)
  exact kla_codeExpr (wpAny_mono (h _ h₁ _ ⟨hns, hk₁, Nat.le_refl _⟩ hk₁) (fun v s' q => q) (fun _ _ z => z.elim))
end

set_option maxHeartbeats 4000000 in
theorem law_t11 {prog : Program} {loose : List Str} {mean : ExcName → Option Value} {mg mb : Str → Option Value} {w : World} {A : Around} {s : Shared} {Q : Flow → Shared → Prop} {g : Heap} {L src nr kr ar a cr : Addr} {m : Str → Option Value} {o1 o2 o3 o4 o5 o6 so : Obj} {tl : Led} {ns : List Int} {ks as : List Str} {cs : List (List (Option Int))} {tm : Tok}
    (G : Gd w (ghostOf g [(94, 92)])) (T : Top topProg loose mean mg mb (ghostOf g [(94, 92)])) (hC : CodeHd (ghostOf g [(94, 92)]) 94 92) (hP : g.get? 92 = some (tabObj #[])) (ok : Ok A 95)
    (F : Fr g L s.heap m) (N : News g L s.heap ((src, so) :: (L + 1, o1) :: (L + 1 + 1, o2) :: (L + 1 + 1 + 1, o3) :: (L + 1 + 1 + 1 + 1, o4) :: (L + 1 + 1 + 1 + 1 + 1, o5) :: (L + 1 + 1 + 1 + 1 + 1 + 1, o6) :: tl)) (hso : SrcO so)
    (d1 : o1.data = Data.cell (some (.ref src))) (d2 : o2.data = Data.cell (some (.int ns.length tm))) (d3 : o3.data = Data.cell (some (.ref kr))) (d4 : o4.data = Data.cell (some (.ref ar))) (d5 : o5.data = Data.cell (some (.ref cr))) (d6 : o6.data = Data.cell (some (.ref nr)))
    (n1 : src ≠ L + 1) (n2 : src ≠ L + 1 + 1) (n3 : src ≠ L + 1 + 1 + 1) (n4 : src ≠ L + 1 + 1 + 1 + 1) (n5 : src ≠ L + 1 + 1 + 1 + 1 + 1) (n6 : src ≠ L + 1 + 1 + 1 + 1 + 1 + 1)
    (hn : DatIn tl (.ref nr) (lz ns)) (hk : DatIn tl (.ref kr) (lstr ks)) (ha : DatIn tl (.ref ar) (lstr as))
    (hnn : ns.Nodup) (hkl : ks.length = ns.length) (hks : KindsOk ks) (hal : as.length = ns.length) (han : as.Nodup) (hao : ∀ x ∈ as, PyData.strOk x = true) (h1 : 1 ≤ ns.length) (h4 : ns.length ≤ 4)
    (hm1 : m "ahead" = some (.ref a)) (hA : AheadIs prog w tl a (aheadL ns ks))
    (hcs : DatIn tl (.ref cr) (lcost cs)) (hcl : cs.length = ns.length) (hcr : ∀ r ∈ cs, r.length = ns.length)
    (hret : ∀ h' tk', Kp (ghostOf g [(94, 92)]) h' → (∃ ps, h'.get? 92 = some (tabObj ps)) → Q (.ret (.bool true)) { s with heap := h', toks := tk' }) :
    wpAny (model prog w) A (execs (lawBody.drop 11) (lawEnv L)) Q (fun _ _ => False) s := by
  obtain ⟨X, lo, mg0, mb0, T0⟩ := id G
  have hh := ok.1
  have hu := ok.2.2
  have hs1 := h1
  conv in (execs _ _) => arg 1; whnf
  conv in (lawEnv _) => unfold lawEnv; arg 2; whnf
  walk_at "fill"
  have off92 : Off 92 ((src, so) :: (L + 1, o1) :: (L + 1 + 1, o2) :: (L + 1 + 1 + 1, o3) :: (L + 1 + 1 + 1 + 1, o4) :: (L + 1 + 1 + 1 + 1 + 1, o5) :: (L + 1 + 1 + 1 + 1 + 1 + 1, o6) :: tl) := fun p hp e => by
    have := (N p hp).2.2
    rw [e, hP] at this; cases this
  have F0 := ghost_fr' (l := [(94, 92)]) F
  have N0 := ghost_news' (c := 94) F N hP
  clear F N
  walk_at "mine"
  refine kla_eval rfl ?_
  refine kla_nest F0 N0 T hC rfl (UpdF.head off92) (by first | trivial | decide | simp [TriplesOk]) rfl (by exact rfl) ?_
  intro fn c' oc vs tq ctv h1 tk1 F1 N1 hoc hvs lc lf
  dsimp only at N1
  have hWorth : Worth prog w h1 fn ns (costOf ns cs) := by
    intro A' E' s' Q' l' ra n tn row ok' hk' H' hr' hn' hrl hQ
    have c5 : s'.heap.get? (L + 1 + 1 + 1 + 1 + 1) = some o5 := hk' _ _ (N1 (L + 1 + 1 + 1 + 1 + 1, o5) (by walk_at "mem")).1
    have c6 : s'.heap.get? (L + 1 + 1 + 1 + 1 + 1 + 1) = some o6 := hk' _ _ (N1 (L + 1 + 1 + 1 + 1 + 1 + 1, o6) (by walk_at "mem")).1
    have Ht : Has s'.heap tl := fun p hp => hk' _ _ (N1 p (by walk_at "sub2")).1
    have hkk : Kp (ghostOf g [(94, 92)]) s'.heap := fun b o e => hk' b o (F1.keep b o e)
    have Gs' := G.keeps hkk
    have Tlim := T0.nolimit.keeps hkk
    have hcdr := codeRec_news N1 (.tail _ (.head _)) hoc hvs
    obtain ⟨cd1, cd2, cd3, cd4, cd5, cd6, cd7, cd8⟩ := hcdr
    refine enterE Tlim (hk' _ _ (N1 _ (.head _)).1) ⟨cd1, cd2, cd3, cd4, cd5, hk' _ _ cd6, cd7, cd8⟩ (by have := ok'.2.1; omega) (BindsTo.of_eq rfl) (locs rfl) ?_ rfl rfl rfl (by decide)
    clear N1 F1 N0 F0
    intro L' h2 tk2 F2 k2
    exact lam_body (tl := tl) (l := l') Gs' F2 c5 c6 d5 d6 Ht H' hn hcs hcl hcr h4 hr' hn' hrl rfl rfl hQ
  have hfn : FnAt fn h1 := FnAt.of N1 (.head _)
  obtain ⟨ps, N2⟩ : ∃ ps, News (ghostOf g [(94, 92)]) L h1 ((92, tabObj ps) :: (src, so) :: (L + 1, o1) :: (L + 1 + 1, o2) :: (L + 1 + 1 + 1, o3) :: (L + 1 + 1 + 1 + 1, o4) :: (L + 1 + 1 + 1 + 1 + 1, o5) :: (L + 1 + 1 + 1 + 1 + 1 + 1, o6) :: tl) := ⟨_, nsub N1 fun p hp => .tail _ (.tail _ hp)⟩
  clear N1 N0 F0
  walk_at "mine"
  have Ht : Has h1 tl := (has_news N2).sub (by walk_at "sub")
  refine greedy_spec (l := tl) (G.keeps F1.keep) (ok.le (by decide)) Ht hn hA (lk_all hnn h4) hWorth hfn h4 ?_
  intro a3 l3 h3 tk3 k3 H3 f3 hR
  have F3 := Fr.keeps F1 k3
  have N3 := news_app (News.grown N2 k3) (news_new F1 H3 f3)
  simp only [List.cons_append] at N3
  have hRt := hR.mono (news' := tl ++ l3) fun p hp => List.mem_append.mpr (.inr hp)
  have hsub : ∀ p ∈ tl, p ∈ tl ++ l3 := fun p hp => List.mem_append.mpr (.inl hp)
  have hn := hn.mono hsub
  have hk := hk.mono hsub
  have hcs := hcs.mono hsub
  clear hWorth N2 H3 f3 hR hsub
  generalize tl ++ l3 = t3 at *
  walk_at "mine"
  rename Fr _ _ _ _ => F4
  rename News _ _ _ _ => N4
  have Ht4 : Has _ t3 := (has_news N4).sub (by walk_at "sub")
  refine lgreedy_spec (l := t3) (cs := cs) (G.keeps F4.keep) (ok.le (by decide)) Ht4 hn hk hcs hkl hcl hcr h4 ?_
  intro a5 l5 h5 tk5 out k5 H5 f5 hO hLR
  have F5 := Fr.keeps F4 k5
  have N5 := News.grown N4 k5
  walk_at "mine"
  rw [greedy_law hnn hkl hks hLR] at hO
  refine eq_D (l := t3 ++ l5) ((Ht4.keeps k5).app H5) (hRt.mono fun p hp => List.mem_append.mpr (.inl hp)) (hO.mono fun p hp => List.mem_append.mpr (.inr hp)) (lzz_ok _) (lzz_ok _) (by omega) ?_
  intro c hc
  have hct : c = true := hc.mpr rfl
  subst hct
  walk_at "mine"
  exact hret _ _ F5.keep ⟨ps, (N5 _ (.head _)).1⟩
end

section


theorem nfront3 {g h : Heap} {L : Addr} {a b c d : Addr × Obj} {r : Led} (N : News g L h (a :: b :: c :: d :: r)) : News g L h (d :: a :: b :: c :: r) := nsub N (by walk_at "sub")
def menuD : List Dat := [.int 3, .int 1, .int 4, .int 1, .int 5, .int 9, .int 2, .int 6, .none]
theorem menu_cost {l : Led} {v : Value} {d : Dat} (h : d ∈ menuD) (dv : DatIn l v d) : ∃ c, d = costD c ∧ DatIn [] v (costD c) := by
  have : ∃ c, d = costD c := by
    simp only [menuD, List.mem_cons, List.not_mem_nil, or_false] at h
    rcases h with h | h | h | h | h | h | h | h | h
    all_goals first
      | exact ⟨none, h⟩
      | exact ⟨some _, h⟩
  obtain ⟨c, rfl⟩ := this
  refine ⟨c, rfl, ?_⟩
  cases c with
  | none => cases dv; exact .none
  | some x => cases dv; exact .int _ _

set_option maxHeartbeats 4000000 in
theorem law_t10 {prog : Program} {loose : List Str} {mean : ExcName → Option Value} {mg mb : Str → Option Value} {w : World} {A : Around} {s : Shared} {Q : Flow → Shared → Prop} {g : Heap} {L src nr kr ar a : Addr} {m : Str → Option Value} {o1 o2 o3 o4 o5 o6 so : Obj} {tl : Led} {ns : List Int} {ks as : List Str} {tm : Tok}
    (G : Gd w (ghostOf g [(94, 92)])) (T : Top topProg loose mean mg mb (ghostOf g [(94, 92)])) (hC : CodeHd (ghostOf g [(94, 92)]) 94 92) (hP : g.get? 92 = some (tabObj #[])) (ok : Ok A 95)
    (F : Fr g L s.heap m) (N : News g L s.heap ((src, so) :: (L + 1, o1) :: (L + 1 + 1, o2) :: (L + 1 + 1 + 1, o3) :: (L + 1 + 1 + 1 + 1, o4) :: (L + 1 + 1 + 1 + 1 + 1, o5) :: (L + 1 + 1 + 1 + 1 + 1 + 1, o6) :: tl)) (hso : SrcO so)
    (d1 : o1.data = Data.cell (some (.ref src))) (d2 : o2.data = Data.cell (some (.int ns.length tm))) (d3 : o3.data = Data.cell (some (.ref kr))) (d4 : o4.data = Data.cell (some (.ref ar))) (d5 : o5.data = Data.cell none) (d6 : o6.data = Data.cell (some (.ref nr)))
    (n1 : src ≠ L + 1) (n2 : src ≠ L + 1 + 1) (n3 : src ≠ L + 1 + 1 + 1) (n4 : src ≠ L + 1 + 1 + 1 + 1) (n5 : src ≠ L + 1 + 1 + 1 + 1 + 1) (n6 : src ≠ L + 1 + 1 + 1 + 1 + 1 + 1)
    (offS : Off src tl) (off5 : Off (L + 1 + 1 + 1 + 1 + 1) tl) (hn : DatIn tl (.ref nr) (lz ns)) (hk : DatIn tl (.ref kr) (lstr ks)) (ha : DatIn tl (.ref ar) (lstr as))
    (hnn : ns.Nodup) (hkl : ks.length = ns.length) (hks : KindsOk ks) (hal : as.length = ns.length) (han : as.Nodup) (hao : ∀ x ∈ as, PyData.strOk x = true) (h1 : 1 ≤ ns.length) (h4 : ns.length ≤ 4)
    (hm1 : m "ahead" = some (.ref a)) (hA : AheadIs prog w tl a (aheadL ns ks))
    (hret : ∀ h' tk', Kp (ghostOf g [(94, 92)]) h' → (∃ ps, h'.get? 92 = some (tabObj ps)) → Q (.ret (.bool true)) { s with heap := h', toks := tk' }) :
    wpAny (model prog w) A (execs (lawBody.drop 10) (lawEnv L)) Q (fun _ _ => False) s := by
  have Gg : Gd w g := G.keeps ghost_kp
  obtain ⟨X, lo, mg0, mb0, T0⟩ := id Gg
  have hh := ok.1
  have hu := ok.2.2
  have hs1 := h1
  conv in (execs _ _) => arg 1; whnf
  conv in (lawEnv _) => unfold lawEnv; arg 2; whnf
  walk_at "fill"
  walk_at "mine"
  walk1
  (try dsimp only)
  walk_at "lc_eval"
  walk_at "mine"
  refine range1_rows F N ?_
  intro h5 tk5 t1 u1 v1 hr F5 N5 k5
  walk_at "mine"
  refine iter_range F5 N5 hr (by omega) (by omega) ?_
  intro I h6 o6' F6 N6 hio l6 k6 f6
  have sI : src ≠ I := Nat.ne_of_lt (l6 (src, so) (by walk_at "mem"))
  refine comp_e (L := L) (news := (L + 1, o1) :: (L + 1 + 1, o2) :: (L + 1 + 1 + 1, o3) :: (L + 1 + 1 + 1 + 1, o4) :: (L + 1 + 1 + 1 + 1 + 1, o5) :: (L + 1 + 1 + 1 + 1 + 1 + 1, o6) :: tl) (muts := [(src, so)]) (n := ns.length) (P := fun (i : Nat) v => ∃ t, v = .int i t)
    (fun j ys nw => ∃ so l2 cs, nw = (src, so) :: l2 ∧ SrcO so ∧ Off src l2 ∧ DatAll l2 ys ((cs : List (List (Option Int))).map fun r => Dat.list (r.map costD)) ∧ cs.length = j ∧ ∀ r ∈ cs, r.length = ns.length)
    (by decide) rfl rfl F6 (nsub N6 (by walk_at "sub"))
    (Off.cons sI Off.nil) hio ?_ (fun p hp => Nat.ne_of_lt (l6 p (.tail _ hp))) ⟨so, [], [], rfl, hso, Off.nil, .nil, rfl, fun i hi => nomatch hi⟩ (by omega) ?_ ?_
  · intro p hp
    rw [List.mem_singleton.mp hp]
    exact Off.cons (Ne.symm n1) (Off.cons (Ne.symm n2) (Off.cons (Ne.symm n3) (Off.cons (Ne.symm n4) (Off.cons (Ne.symm n5) (Off.cons (Ne.symm n6) offS)))))
  · clear N6 F6 N5 F5 N F hso
    intro gs Gs
    have c1 : gs.get? (L + 1) = some o1 := Gs.got (L + 1, o1) (by walk_at "mem")
    have c2 : gs.get? (L + 1 + 1) = some o2 := Gs.got (L + 1 + 1, o2) (by walk_at "mem")
    have Xg := X.keeps Gs.base
    have Tg := T0.keeps Gs.base
    refine ⟨It.range0 ok.1, ?_⟩
    intro C D j v mc nw h11 tk11 o11 ys k hC0 hD0 hj hv hJ oI oD FC NC hio hys
    obtain ⟨tj, rfl⟩ := hv
    obtain ⟨so2, l2, cs, rfl, hso2, off2, hys2, hcl, hcr⟩ := hJ
    have sD : src ≠ D := oD _ (.head _)
    refine wpAny_tests_nil ?_
    walk_at "mine"
    walk_at "lc_eval"
    walk_at "mine"
    refine range1_rows FC NC ?_
    intro h12 tk12 t121 u121 v121 hr12 F12 N12 k12
    walk_at "mine"
    refine iter_range F12 N12 hr12 (by omega) (by omega) ?_
    intro I2 h13 o13 F13 N13 hio13 l13 k13 f13
    have sI2 : src ≠ I2 := Nat.ne_of_lt (l13 (src, so2) (by walk_at "mem"))
    refine comp_e (L := C) (news := (I, o11) :: (D, listOf ys.toArray k) :: l2) (muts := [(src, so2)]) (n := ns.length) (P := fun (i : Nat) v => ∃ t, v = .int i t)
      (fun j ys nw => ∃ so r, nw = [(src, so)] ∧ SrcO so ∧ DatAll [] ys ((r : List (Option Int)).map costD) ∧ r.length = j)
      (by decide) rfl rfl F13 (nsub N13 (by walk_at "sub"))
      (Off.cons sI2 Off.nil) hio13 ?_ (fun p hp => Nat.ne_of_lt (l13 p (by walk_at "sub2"))) ⟨so2, [], rfl, hso2, .nil, rfl⟩ (by omega) ?_ ?_
    · intro p hp
      rw [List.mem_singleton.mp hp]
      exact Off.cons (Ne.symm sI) (Off.cons (Ne.symm sD) off2)
    · intro gs2 Gs2
      have c1 : gs2.get? (L + 1) = some o1 := Gs2.base _ _ c1
      have Xg := Xg.keeps Gs2.base
      have Tg := Tg.keeps Gs2.base
      refine ⟨It.range0 ok.1, ?_⟩
      intro C2 D2 j2 v2 mc2 nw2 h14 tk14 o14 ys2 k2 hC2 hD2 hj2 hv2 hJ2 oI2 oD2 FC2 NC2 hio2 hys3
      obtain ⟨tj2, rfl⟩ := hv2
      obtain ⟨so3, r, rfl, hso3, hysr, hrl⟩ := hJ2
      have sD2 : src ≠ D2 := oD2 _ (.head _)
      refine wpAny_tests_nil ?_
      walk_at "mine"
      refine newList_D FC2 NC2 (by simp) ?_
      intro D4 h15 F15 N15 l15 f15
      dsimp only at *
      walk_at "mine"
      have l15' := allLt_of l15
      simp only [AllLt] at l15'
      refine one_L (src := src) (so := so3) (ds := menuD) ((Gg.keeps Gs.base).keeps Gs2.base) (ok.le (by decide)) F15 (nfront3 N15) hso3 (Off.cons (Nat.ne_of_gt l15'.2.2.1) (Off.cons (Ne.symm sI2) (Off.cons (Ne.symm sD2) Off.nil))) (.list (.head _) (.cons (.int _ _) (.cons (.int _ _) (.cons (.int _ _) (.cons (.int _ _) (.cons (.int _ _) (.cons (.int _ _) (.cons (.int _ _) (.cons (.int _ _) (.cons .none .nil)))))))))) (by decide) (by decide) ?_
      intro v3 d h16 tk16 so16 F16 N16 hso16 hd dv he16
      obtain ⟨c, ec, dv2⟩ := menu_cost hd dv
      refine cend [(src, so16)] F16 (nsub N16 (by walk_at "sub")) (Off.cons sI2 Off.nil) (Off.cons sD2 Off.nil) ⟨so16, r ++ [c], rfl, hso16, ?_, by simp [hrl]⟩
      rw [List.map_append]
      exact hysr.append (.one dv2)
    · intro D2 h8 tk8 ys2 ky2 nw hD8 hJ oD8 hys8 F8 N8 hnw
      obtain ⟨so8, r, rfl, hso8, hysr, hrl⟩ := hJ
      have q8 := off_free (has_news N13) hD8
      have eI : I ≠ D2 := q8 (I, o11) (by walk_at "mem")
      have eD : D ≠ D2 := q8 (D, listOf ys.toArray k) (by walk_at "mem")
      have hkeep : ∀ p ∈ l2, p ∈ (D2, listOf ys2.toArray ky2) :: l2 := fun p hp => .tail _ hp
      refine cend ((src, so8) :: (D2, listOf ys2.toArray ky2) :: l2) F8 (nsub N8 ?_) (Off.cons sI (Off.cons (Ne.symm eI) (fun p hp => oI p (.tail _ hp)))) (Off.cons sD (Off.cons (Ne.symm eD) (fun p hp => oD p (.tail _ hp)))) ⟨so8, (D2, listOf ys2.toArray ky2) :: l2, cs ++ [r], rfl, hso8, Off.cons (oD8 _ (.head _)).symm off2, ?_, by simp [hcl], ?_⟩
      · walk_at "sub"
      · rw [List.map_append]
        exact (hys2.mono hkeep).append (.one (.list (.head _) (DatAll.mono (fun _ q => absurd q List.not_mem_nil) hysr)))
      · intro x hx
        rcases List.mem_append.mp hx with hx | hx
        · exact hcr x hx
        · rw [List.mem_singleton.mp hx]; exact hrl
  · intro D h8 tk8 ys ky nw hD8 hJ oD8 hys F8 N8 hnw
    obtain ⟨so8, l2, cs, rfl, hso8, off2, hys2, hcl, hcr⟩ := hJ
    have q8 := off_free (has_news N6) hD8
    have e5 : D ≠ L + 1 + 1 + 1 + 1 + 1 := fun e => q8 (L + 1 + 1 + 1 + 1 + 1, o5) (by walk_at "mem") e.symm
    have off5l : Off (L + 1 + 1 + 1 + 1 + 1) l2 := fun p hp => hnw p (.tail _ hp) (L + 1 + 1 + 1 + 1 + 1, o5) (by walk_at "mem")
    refine store_C (c := L + 1 + 1 + 1 + 1 + 1) F8 (nsub N8 (l := (L + 1 + 1 + 1 + 1 + 1, o5) :: (src, so8) :: (L + 1, o1) :: (L + 1 + 1, o2) :: (L + 1 + 1 + 1, o3) :: (L + 1 + 1 + 1 + 1, o4) :: (L + 1 + 1 + 1 + 1 + 1 + 1, o6) :: ((D, listOf ys.toArray ky) :: (l2 ++ tl))) ?_) ?_ rfl d5 ?_ rfl rfl
    · walk_at "sub"
    · refine Off.cons n5 ?_
      refine Off.append (l := [(L + 1, o1), (L + 1 + 1, o2), (L + 1 + 1 + 1, o3), (L + 1 + 1 + 1 + 1, o4), (L + 1 + 1 + 1 + 1 + 1 + 1, o6)]) (by walk_at "off") (Off.cons e5 (Off.append off5l off5))
    intro h9 o5' F9 N9 d5'
    have hsub : ∀ p ∈ tl, p ∈ (D, listOf ys.toArray ky) :: (l2 ++ tl) := fun p hp => .tail _ (List.mem_append.mpr (.inr hp))
    refine law_t11 (tl := (D, listOf ys.toArray ky) :: (l2 ++ tl)) (cs := cs) G T hC hP ok F9 (nsub N9 ?_) hso8 d1 d2 d3 d4 d5' d6 n1 n2 n3 n4 n5 n6 (hn.mono hsub) (hk.mono hsub) (ha.mono hsub) hnn hkl hks hal han hao hs1 h4 hm1 (hA.mono hsub) (.list (.head _) (hys2.mono fun p hp => .tail _ (List.mem_append.mpr (.inl hp)))) hcl hcr hret
    walk_at "sub"
end

section


theorem told_mem {as told : List Str} (h : ToldForm as told) : (∀ x ∈ told, x ∈ as ∨ x = PySem.Str.ofString "strange") ∧ told.length ≤ as.length + 1 := by
  obtain ⟨p, hp, h | h | h | h⟩ := h
  · rw [h]; exact ⟨fun x hx => .inl (hp.mem_iff.mp hx), by have := hp.length_eq; omega⟩
  · rw [h]; exact ⟨fun x hx => .inl (hp.mem_iff.mp (List.dropLast_subset _ hx)), by have := hp.length_eq; simp; omega⟩
  · rw [h]
    refine ⟨fun x hx => ?_, by have := hp.length_eq; simp; omega⟩
    rcases List.mem_append.mp hx with hx | hx
    · exact .inl (hp.mem_iff.mp hx)
    · exact .inl (hp.mem_iff.mp (List.mem_of_mem_take hx))
  · rw [h]
    refine ⟨fun x hx => ?_, by have := hp.length_eq; simp; omega⟩
    rcases List.mem_append.mp hx with hx | hx
    · exact .inl (hp.mem_iff.mp (List.dropLast_subset _ hx))
    · exact .inr (List.mem_singleton.mp hx)
theorem dueRow_take {ns : List Int} {as told : List Str} {j : Nat} (hj : j < told.length) : dueRow ns as (told.take (j + 1)) = dueRow ns as (told.take j) ++ (if as.contains told[j] then [ns.getD (as.idxOf told[j]) 0] else []) := by
  unfold dueRow
  rw [take_succ_filter _ _ _ _ (List.getElem?_eq_getElem hj), List.map_append]
  congr 1
  split <;> rfl

def MidWant (g : Heap) (L : Addr) (m : Str → Option Value) (B : Led) (want : List (List Int)) (s : Shared) (f : Flow) (s' : Shared) : Prop :=
  f = Flow.next ∧ ∃ h tk W wl, s' = { s with heap := h, toks := tk } ∧ Fr g L h (fun y => if y = ("wanted" : Str) then some (.ref W) else m y) ∧ News g L h (B ++ wl) ∧ DatIn (B ++ wl) (.ref W) (lzz want)

set_option maxHeartbeats 4000000 in
theorem law_t9 {prog : Program} {loose : List Str} {mean : ExcName → Option Value} {mg mb : Str → Option Value} {w : World} {A : Around} {s : Shared} {Q : Flow → Shared → Prop} {g : Heap} {L src nr kr ar a du : Addr} {m : Str → Option Value} {o1 o2 o3 o4 o5 o6 so : Obj} {tl : Led} {ns : List Int} {ks as : List Str} {tm : Tok}
    (G : Gd w (ghostOf g [(94, 92)])) (T : Top topProg loose mean mg mb (ghostOf g [(94, 92)])) (hC : CodeHd (ghostOf g [(94, 92)]) 94 92) (hP : g.get? 92 = some (tabObj #[])) (ok : Ok A 95)
    (F : Fr g L s.heap m) (N : News g L s.heap ((src, so) :: (L + 1, o1) :: (L + 1 + 1, o2) :: (L + 1 + 1 + 1, o3) :: (L + 1 + 1 + 1 + 1, o4) :: (L + 1 + 1 + 1 + 1 + 1, o5) :: (L + 1 + 1 + 1 + 1 + 1 + 1, o6) :: tl)) (hso : SrcO so)
    (d1 : o1.data = Data.cell (some (.ref src))) (d2 : o2.data = Data.cell (some (.int ns.length tm))) (d3 : o3.data = Data.cell (some (.ref kr))) (d4 : o4.data = Data.cell (some (.ref ar))) (d5 : o5.data = Data.cell none) (d6 : o6.data = Data.cell (some (.ref nr)))
    (n1 : src ≠ L + 1) (n2 : src ≠ L + 1 + 1) (n3 : src ≠ L + 1 + 1 + 1) (n4 : src ≠ L + 1 + 1 + 1 + 1) (n5 : src ≠ L + 1 + 1 + 1 + 1 + 1) (n6 : src ≠ L + 1 + 1 + 1 + 1 + 1 + 1)
    (offS : Off src tl) (off5 : Off (L + 1 + 1 + 1 + 1 + 1) tl) (hn : DatIn tl (.ref nr) (lz ns)) (hk : DatIn tl (.ref kr) (lstr ks)) (ha : DatIn tl (.ref ar) (lstr as))
    (hnn : ns.Nodup) (hkl : ks.length = ns.length) (hks : KindsOk ks) (hal : as.length = ns.length) (han : as.Nodup) (hao : ∀ x ∈ as, PyData.strOk x = true) (h1 : 1 ≤ ns.length) (h4 : ns.length ≤ 4)
    (hm1 : m "ahead" = some (.ref a)) (hm2 : m "due" = some (.ref du)) (hA : AheadIs prog w tl a (aheadL ns ks)) (hD : DatIn tl (.ref du) (lzz (allRows ns (aheadL ns ks) ns.length)))
    (hret : ∀ h' tk', Kp (ghostOf g [(94, 92)]) h' → (∃ ps, h'.get? 92 = some (tabObj ps)) → Q (.ret (.bool true)) { s with heap := h', toks := tk' }) :
    wpAny (model prog w) A (execs (lawBody.drop 9) (lawEnv L)) Q (fun _ _ => False) s := by
  have Gg : Gd w g := G.keeps ghost_kp
  obtain ⟨X, lo, mg0, mb0, T0⟩ := id Gg
  have hh := ok.1
  have hDue := hD
  have hu := ok.2.2
  obtain ⟨ar', avs, an, ea, ham, hav⟩ := datIn_list ha
  cases ea
  have hava : StrsAre avs as := strs_of hav
  have havl := hava.length
  have hs1 := h1
  conv in (execs _ _) => arg 1; whnf
  conv in (lawEnv _) => unfold lawEnv; arg 2; whnf
  walk_at "fill"
  walk_at "mine"
  refine wpAny_For ?_
  walk_at "mine"
  refine range1_rows F N ?_
  intro h5 tk5 t1 u1 v1 hr F5 N5 k5
  walk_at "mine"
  refine iter_range F5 N5 hr (by omega) (by omega) ?_
  intro I h6 o6' F6 N6 hio l6 k6 f6
  have offI : Off I ((src, so) :: (L + 1, o1) :: (L + 1 + 1, o2) :: (L + 1 + 1 + 1, o3) :: (L + 1 + 1 + 1 + 1, o4) :: (L + 1 + 1 + 1 + 1 + 1, o5) :: (L + 1 + 1 + 1 + 1 + 1 + 1, o6) :: tl) := fun p hp => Nat.ne_of_lt (l6 p (by walk_at "sub2"))
  refine for_goN (L := L) (fun i m news => m "ahead" = some (.ref a) ∧ m "due" = some (.ref du) ∧ ∃ so, SrcO so ∧ news = ((src, so) :: (L + 1, o1) :: (L + 1 + 1, o2) :: (L + 1 + 1 + 1, o3) :: (L + 1 + 1 + 1 + 1, o4) :: (L + 1 + 1 + 1 + 1 + 1, o5) :: (L + 1 + 1 + 1 + 1 + 1 + 1, o6) :: tl))
    rfl (It.range0 (A := A) ok.1) rfl rfl F6 (nsub N6 (by walk_at "sub")) offI hio ?_ ?_ ?_
  · exact ⟨hm1, hm2, so, hso, rfl⟩
  · clear offI N6 F6 N5 F5 N F hso
    intro i v m' news h tk o hi hv hj off FL NL hio
    obtain ⟨j1, j2, so, hso, rfl⟩ := hj
    have sI : src ≠ I := off (src, so) (.head _)
    walk_at "mine"
    have N7 : News g L h ((src, so) :: (I, o) :: (L + 1, o1) :: (L + 1 + 1, o2) :: (L + 1 + 1 + 1, o3) :: (L + 1 + 1 + 1 + 1, o4) :: (L + 1 + 1 + 1 + 1 + 1, o5) :: (L + 1 + 1 + 1 + 1 + 1 + 1, o6) :: tl) := nsub NL (by walk_at "sub")
    have offR : Off src ((I, o) :: (L + 1, o1) :: (L + 1 + 1, o2) :: (L + 1 + 1 + 1, o3) :: (L + 1 + 1 + 1 + 1, o4) :: (L + 1 + 1 + 1 + 1 + 1, o5) :: (L + 1 + 1 + 1 + 1 + 1 + 1, o6) :: tl) := Off.cons (Ne.symm sI) (Off.cons (Ne.symm n1) (Off.cons (Ne.symm n2) (Off.cons (Ne.symm n3) (Off.cons (Ne.symm n4) (Off.cons (Ne.symm n5) (Off.cons (Ne.symm n6) offS))))))
    have htl : ∀ p ∈ tl, p ∈ ((I, o) :: (L + 1, o1) :: (L + 1 + 1, o2) :: (L + 1 + 1 + 1, o3) :: (L + 1 + 1 + 1 + 1, o4) :: (L + 1 + 1 + 1 + 1 + 1, o5) :: (L + 1 + 1 + 1 + 1 + 1 + 1, o6) :: tl) := by walk_at "sub"
    refine ltold_L Gg (ok.le (by decide)) FL N7 hso offR (ha.mono htl) hao (by omega) ?_
    intro ta l8 h8 tk8 so8 told F8 N8 hso8 off8 f8 hT hTF
    simp only [List.cons_append] at N8
    have offIl8 : Off I l8 := off_new f8 (N7 (I, o) (by walk_at "mem")).1
    obtain ⟨tmem, tlen⟩ := told_mem hTF
    obtain ⟨ta', tvs, tk', e8, htm, htv⟩ := datIn_list hT
    cases e8
    have hts : StrsAre tvs told := strs_of htv
    clear NL N7 FL
    walk_at "mine"
    rename Fr _ _ _ _ => F9
    rename News _ _ _ _ => N9
    walk_at "lc_assign"
    walk_at "mine"
    refine iter_list F9 N9 ((has_news N9).list (a := ta) (xs := tvs.toArray) (n := tk') ?_) ?_
    · walk_at "mem"
    intro I2 h10 o10 F10 N10 hio10 l10 k10 f10
    have htvl := hts.length
    refine comp_a (L := L) (news := (src, so8) :: (I, o) :: (L + 1, o1) :: (L + 1 + 1, o2) :: (L + 1 + 1 + 1, o3) :: (L + 1 + 1 + 1 + 1, o4) :: (L + 1 + 1 + 1 + 1 + 1, o5) :: (L + 1 + 1 + 1 + 1 + 1 + 1, o6) :: (tl ++ l8)) (muts := []) (n := tvs.toArray.size) (P := fun j v => tvs.toArray[j]? = some v)
      (fun j ys nw => nw = [] ∧ IntsAre ys (dueRow ns as (told.take j))) (by decide) rfl rfl rfl rfl rfl F10 N10 Off.nil hio10 (fun _ z => nomatch z) (fun p hp => Nat.ne_of_lt (l10 p hp)) ⟨rfl, .nil⟩ (by simp; omega) ?_ ?_
    · intro gs Gs
      have c4 : gs.get? (L + 1 + 1 + 1 + 1) = some o4 := Gs.got (L + 1 + 1 + 1 + 1, o4) (by walk_at "mem")
      have c6 : gs.get? (L + 1 + 1 + 1 + 1 + 1 + 1) = some o6 := Gs.got (L + 1 + 1 + 1 + 1 + 1 + 1, o6) (by walk_at "mem")
      have Hg : Has gs (tl ++ l8) := fun p hp => Gs.got p (by walk_at "sub2")
      have Xg := X.keeps Gs.base
      have Tg := T0.keeps Gs.base
      refine ⟨It.list ok.1 (Hg.list (List.mem_append.mpr (.inr htm))), ?_⟩
      intro C D j v mc nw h11 tk11 o11 ys k hC hD hj hv hJ oI oD FC NC hio hys
      obtain ⟨rfl, hJ⟩ := hJ
      have hjt : j < tvs.length := by simpa using hj
      obtain ⟨tj, ej⟩ := hts.get hjt (by omega)
      have hv' : tvs[j]? = some v := by simpa using hv
      rw [List.getElem?_eq_getElem hjt] at hv'
      obtain rfl := Option.some.inj hv'
      rw [ej] at FC
      refine wpAny_tests_one ?_
      walk_at "mine"
      have hsub : ∀ p ∈ tl, p ∈ tl ++ l8 := fun p hp => List.mem_append.mpr (.inl hp)
      have hj' : j < told.length := by omega
      have hstr : PyData.strOk told[j] = true := by
        rcases tmem _ (List.getElem_mem hj') with h | h
        · exact hao _ h
        · rw [h]; decide +kernel
      refine in_D (l := tl ++ l8) (d := .str told[j]) (Hg.keeps FC.keep) (ha.mono hsub) (.str _ _) (strs_ok hao) hstr (by have := ok.2.2; omega) ?_
      intro c hc
      have hcc : c = as.contains told[j] := by
        rw [Bool.eq_iff_iff, hc]
        simp
      walk_at "mine"
      · rename c = true => hct
        have hin : told[j] ∈ as := by rw [hct] at hcc; simpa using hcc.symm
        refine kf_method ((Hg.keeps FC.keep).news) (hsub _ ham) PySem.F.slot_list_index PySem.F.type_list_index ?_
        walk_at "mine"
        refine index_s (l := tl ++ l8) (Hg.keeps FC.keep) (hsub _ ham) hava hin (by omega) ?_
        walk_at "mine"
        have hix : as.idxOf told[j] < as.length := List.idxOf_lt_length_of_mem hin
        refine item_D (l := tl ++ l8) (Hg.keeps FC.keep) (hn.mono hsub) (by omega) (d := .int (ns.getD (as.idxOf told[j]) 0)) (by rw [getD_lt ns 0 (by omega)]; simp) (by omega) ?_
        intro nv dn
        obtain ⟨t9, rfl⟩ := datIn_int dn
        refine cend [] FC NC Off.nil Off.nil ⟨rfl, ?_⟩
        rw [dueRow_take hj', ← hcc, if_pos hct]
        exact hJ.append (.cons _ t9 .nil)
      · rename c = false => hct
        refine cend [] FC NC Off.nil Off.nil ⟨rfl, ?_⟩
        rw [dueRow_take hj', ← hcc, if_neg (by rw [hct]; decide), List.append_nil]
        exact hJ
    · intro D h11 tk11 ys k nw hD hJ oD hys F11 N11 hnw
      obtain ⟨rfl, hJ⟩ := hJ
      have e11 : tvs.toArray.size = told.length := by simpa using htvl
      rw [e11, List.take_length] at hJ
      (try dsimp only)
      have N12 : News g L h11 ((src, so8) :: (I, o) :: (L + 1, o1) :: (L + 1 + 1, o2) :: (L + 1 + 1 + 1, o3) :: (L + 1 + 1 + 1 + 1, o4) :: (L + 1 + 1 + 1 + 1 + 1, o5) :: (L + 1 + 1 + 1 + 1 + 1 + 1, o6) :: ((D, listOf ys.toArray k) :: (tl ++ l8))) := nsub N11 (by walk_at "sub")
      have hsub : ∀ p ∈ tl, p ∈ (D, listOf ys.toArray k) :: (tl ++ l8) := fun p hp => .tail _ (List.mem_append.mpr (.inl hp))
      have hT2 : DatIn ((D, listOf ys.toArray k) :: (tl ++ l8)) (.ref ta) (lstr told) := hT.mono fun p hp => .tail _ (List.mem_append.mpr (.inr hp))
      have hRow : DatIn ((D, listOf ys.toArray k) :: (tl ++ l8)) (.ref D) (lz (dueRow ns as told)) := lz_in (.head _) hJ
      have htm2 : (ta, listOf tvs.toArray tk') ∈ (D, listOf ys.toArray k) :: (tl ++ l8) := .tail _ (List.mem_append.mpr (.inr htm))
      have hrm2 : (D, listOf ys.toArray k) ∈ (D, listOf ys.toArray k) :: (tl ++ l8) := .head _
      have offl : Off I ((D, listOf ys.toArray k) :: (tl ++ l8)) := by
        have q10 := off_free (has_news N10) hD
        exact Off.cons (fun e => q10 (I, o) (by walk_at "mem") e.symm) (Off.append (fun p hp => off p (by walk_at "sub2")) offIl8)
      generalize (D, listOf ys.toArray k) :: (tl ++ l8) = t2 at *
      clear N11 N10 N9 F10 F9
      obtain ⟨m2, F11, ja, jd, jt, jr⟩ : ∃ m2, Fr g L h11 m2 ∧ m2 "ahead" = some (.ref a) ∧ m2 "due" = some (.ref du) ∧ m2 "told" = some (.ref ta) ∧ m2 "row" = some (.ref D) := ⟨_, F11, by walk_at "mlook", by walk_at "mlook", by walk_at "mlook", by walk_at "mlook"⟩
      refine wpAny_execs_cons (wpAny_mono (Q := MidWant g L m2 ((src, so8) :: (I, o) :: (L + 1, o1) :: (L + 1 + 1, o2) :: (L + 1 + 1 + 1, o3) :: (L + 1 + 1 + 1 + 1, o4) :: (L + 1 + 1 + 1 + 1 + 1, o5) :: (L + 1 + 1 + 1 + 1 + 1 + 1, o6) :: t2) (if (dueRow ns as told).length = told.length ∧ dueRow ns as told ∈ allRows ns (aheadL ns ks) ns.length then [dueRow ns as told] else []) s) ?_ ?_ (fun _ _ e => e))
      · walk_at "mine"
        have Ht : Has h11 t2 := (has_news N12).sub (by walk_at "sub")
        have hdl := dueRow_len ns as told
        refine len_L (Ht.list hrm2) hJ.length (by omega) ?_
        walk_at "mine"
        refine len_L (Ht.list htm2) htvl (by omega) ?_
        walk_at "mine"
        · have hq : (dueRow ns as told).length = told.length := by omega
          refine in_D (l := t2) Ht (hDue.mono fun p hp => hsub _ hp) hRow (lzz_ok _) (lz_ok' _ _) (by omega) ?_
          intro c hc
          rw [mem_rows] at hc
          walk_at "mine"
          · rename c = true => hct
            refine newList_D F11 N12 (by simp) ?_
            intro W h14 F14 N14 l14 f14
            walk_at "mine"
            rename Fr _ _ _ _ => FX
            rename News _ _ _ _ => NX
            refine ⟨rfl, _, _, W, [(W, listOf [Value.ref D].toArray 0)], rfl, FX, nsub NX ?_, ?_⟩
            · walk_at "sub"
            · rw [if_pos ⟨hq, hc.mp hct⟩]
              exact .list (List.mem_append.mpr (.inr (.head _))) (.one (hRow.mono (by walk_at "sub")))
          · rename c = false => hct
            refine newList_D F11 N12 (by simp) ?_
            intro W h14 F14 N14 l14 f14
            walk_at "mine"
            rename Fr _ _ _ _ => FX
            rename News _ _ _ _ => NX
            refine ⟨rfl, _, _, W, [(W, listOf ([] : List Value).toArray 0)], rfl, FX, nsub NX ?_, ?_⟩
            · walk_at "sub"
            · rw [if_neg fun q => by rw [hc.mpr q.2] at hct; cases hct]
              exact .list (List.mem_append.mpr (.inr (.head _))) .nil
        · have hq : ¬ (dueRow ns as told).length = told.length := by omega
          refine newList_D F11 N12 (by simp) ?_
          intro W h14 F14 N14 l14 f14
          walk_at "mine"
          rename Fr _ _ _ _ => FX
          rename News _ _ _ _ => NX
          refine ⟨rfl, _, _, W, [(W, listOf ([] : List Value).toArray 0)], rfl, FX, nsub NX ?_, ?_⟩
          · walk_at "sub"
          · rw [if_neg fun q => hq q.1]
            exact .list (List.mem_append.mpr (.inr (.head _))) .nil
      · rintro f s' ⟨rfl, h12, tk12, W, wl, rfl, F12, N12, hW⟩
        walk_at "mine"
        have hs2 : ∀ p ∈ t2, p ∈ t2 ++ wl := fun p hp => List.mem_append.mpr (.inl hp)
        have Ht : Has h12 (t2 ++ wl) := (has_news N12).sub (by walk_at "sub")
        refine told_spec (l := t2 ++ wl) (Gg.keeps F12.keep) (ok.le (by decide)) Ht (hn.mono fun p hp => hs2 _ (hsub _ hp)) (hA.mono fun p hp => hs2 _ (hsub _ hp)) (lk_all hnn h4) (ha.mono fun p hp => hs2 _ (hsub _ hp)) (hT2.mono hs2) hal h4 (by omega) ?_
        intro a9 l9 h13 tk13 k13 H13 f13 hO
        have F13 := Fr.keeps F12 k13
        have N13 := News.grown N12 k13
        walk_at "mine"
        rw [told_law h4 hal han] at hO
        refine ne_D ((has_news N13).app H13) (hO.mono fun p hp => List.mem_append.mpr (.inr hp)) (hW.mono fun p hp => List.mem_append.mpr (.inl hp)) (lzz_ok _) (lzz_ok _) (by omega) ?_
        intro c hc
        have hcf : c = false := by
          cases c with
          | false => rfl
          | true => exact absurd rfl (hc.mp rfl)
        subst hcf
        walk_at "mine"
        refine tend ((src, so8) :: (L + 1, o1) :: (L + 1 + 1, o2) :: (L + 1 + 1 + 1, o3) :: (L + 1 + 1 + 1 + 1, o4) :: (L + 1 + 1 + 1 + 1 + 1, o5) :: (L + 1 + 1 + 1 + 1 + 1 + 1, o6) :: tl) F13 (nsub N13 ?_) (Off.cons sI (fun p hp => off p (.tail _ hp))) ⟨by walk_at "mlook", by walk_at "mlook", so8, hso8, rfl⟩
        walk_at "sub"
  · intro m' news h tk hj FL NL
    obtain ⟨j1, j2, so', hso', rfl⟩ := hj
    refine wpAny_execs_nil ?_
    (try dsimp only)
    exact law_t10 (tl := tl) G T hC hP ok FL NL hso' d1 d2 d3 d4 d5 d6 n1 n2 n3 n4 n5 n6 offS off5 hn hk ha hnn hkl hks hal han hao hs1 h4 j1 hA hret
end

section


theorem mixedN_perm (n : Nat) : ∀ (xs : List Int), xs.length = n → ∀ r ∈ mixedN n xs, r.Perm xs := by
  induction n with
  | zero =>
    intro xs hx r hr
    have : xs = [] := List.eq_nil_of_length_eq_zero hx
    subst this
    simp [mixedN] at hr
    rw [hr]
  | succ n ih =>
    intro xs hx r hr
    rw [mixedN, List.mem_flatMap] at hr
    obtain ⟨i, hi, hm⟩ := hr
    obtain ⟨r', hr', rfl⟩ := List.mem_map.mp hm
    have hi' : i < xs.length := by have := List.mem_range.mp hi; omega
    have := ih (xs.eraseIdx i) (by rw [List.length_eraseIdx]; simp [hi']; omega) r' hr'
    rw [getD_lt xs 0 hi']
    exact (this.cons _).trans (erase_perm hi')
set_option maxHeartbeats 4000000 in
theorem law_t6 {prog : Program} {loose : List Str} {mean : ExcName → Option Value} {mg mb : Str → Option Value} {w : World} {A : Around} {s : Shared} {Q : Flow → Shared → Prop} {g : Heap} {L src nr kr ar : Addr} {m : Str → Option Value} {o1 o2 o3 o4 o5 o6 so : Obj} {tl : Led} {ns : List Int} {ks as : List Str} {tm : Tok}
    (G : Gd w (ghostOf g [(94, 92)])) (T : Top topProg loose mean mg mb (ghostOf g [(94, 92)])) (hC : CodeHd (ghostOf g [(94, 92)]) 94 92) (hP : g.get? 92 = some (tabObj #[])) (ok : Ok A 95)
    (F : Fr g L s.heap m) (N : News g L s.heap ((src, so) :: (L + 1, o1) :: (L + 1 + 1, o2) :: (L + 1 + 1 + 1, o3) :: (L + 1 + 1 + 1 + 1, o4) :: (L + 1 + 1 + 1 + 1 + 1, o5) :: (L + 1 + 1 + 1 + 1 + 1 + 1, o6) :: tl)) (hso : SrcO so)
    (d1 : o1.data = Data.cell (some (.ref src))) (d2 : o2.data = Data.cell (some (.int ns.length tm))) (d3 : o3.data = Data.cell (some (.ref kr))) (d4 : o4.data = Data.cell (some (.ref ar))) (d5 : o5.data = Data.cell none) (d6 : o6.data = Data.cell (some (.ref nr)))
    (n1 : src ≠ L + 1) (n2 : src ≠ L + 1 + 1) (n3 : src ≠ L + 1 + 1 + 1) (n4 : src ≠ L + 1 + 1 + 1 + 1) (n5 : src ≠ L + 1 + 1 + 1 + 1 + 1) (n6 : src ≠ L + 1 + 1 + 1 + 1 + 1 + 1)
    (offS : Off src tl) (off5 : Off (L + 1 + 1 + 1 + 1 + 1) tl) (hn : DatIn tl (.ref nr) (lz ns)) (hk : DatIn tl (.ref kr) (lstr ks)) (ha : DatIn tl (.ref ar) (lstr as))
    (hnn : ns.Nodup) (hkl : ks.length = ns.length) (hks : KindsOk ks) (hal : as.length = ns.length) (han : as.Nodup) (hao : ∀ x ∈ as, PyData.strOk x = true) (h1 : 1 ≤ ns.length) (h4 : ns.length ≤ 4)
    (hret : ∀ h' tk', Kp (ghostOf g [(94, 92)]) h' → (∃ ps, h'.get? 92 = some (tabObj ps)) → Q (.ret (.bool true)) { s with heap := h', toks := tk' }) :
    wpAny (model prog w) A (execs (lawBody.drop 6) (lawEnv L)) Q (fun _ _ => False) s := by
  have Gg : Gd w g := G.keeps ghost_kp
  obtain ⟨X, lo, mg0, mb0, T0⟩ := id Gg
  have hh := ok.1
  have hs1 := h1
  conv in (execs _ _) => arg 1; whnf
  conv in (lawEnv _) => unfold lawEnv; arg 2; whnf
  walk_at "fill"
  have Ht : Has s.heap tl := (has_news N).sub (by walk_at "sub")
  walk_at "mine"
  refine kept_spec (l := tl) (Gg.keeps F.keep) (ok.le (by decide)) Ht hn hk hkl (by omega) hnn ?_
  intro a l1 h1 tk1 k1 H1 f1 hA
  have F1 := Fr.keeps F k1
  have N1 := news_app (News.grown N k1) (news_new F H1 f1)
  have offS1 : Off src (tl ++ l1) := Off.append offS (off_new f1 (N _ (.head _)).1)
  have off51 : Off (L + 1 + 1 + 1 + 1 + 1) (tl ++ l1) := Off.append off5 (off_new f1 (N (L + 1 + 1 + 1 + 1 + 1, o5) (by walk_at "mem")).1)
  have hn := hn.mono (news' := tl ++ l1) fun p hp => List.mem_append.mpr (.inl hp)
  have hk := hk.mono (news' := tl ++ l1) fun p hp => List.mem_append.mpr (.inl hp)
  have ha := ha.mono (news' := tl ++ l1) fun p hp => List.mem_append.mpr (.inl hp)
  have hA := hA.mono (l' := tl ++ l1) fun p hp => List.mem_append.mpr (.inr hp)
  simp only [List.cons_append] at N1
  generalize tl ++ l1 = t1 at *
  clear N F Ht offS off5 H1 f1
  walk_at "mine"
  rename Fr _ _ _ _ => F2
  rename News _ _ _ _ => N2
  have hma : ∀ v, (fun y => if y = ("ahead" : Str) then some v else m y) "ahead" = some v := fun v => by walk_at "mlook"
  walk_at "lc_assign"
  walk_at "mine"
  have Ht2 : Has _ t1 := (has_news N2).sub (by walk_at "sub")
  refine mixed_spec (l := t1) ns.length (Gg.keeps F2.keep) (ok.le (by omega)) Ht2 hn rfl h4 ?_
  intro a2 l2 h3 tk3 k3 H3 f3 hM
  have F3 := Fr.keeps F2 k3
  have N3 := news_app (News.grown N2 k3) (news_new F2 H3 f3)
  obtain ⟨a2', mvs, mk, e2, hmm, hmv⟩ := datIn_list hM
  cases e2
  walk_at "mine"
  refine iter_list F3 N3 ((has_news N3).list (List.mem_append.mpr (.inr hmm))) ?_
  intro I h4' o4' F4 N4 hio l4' k4 f4
  have hml : mvs.length = (mixedN ns.length ns).length := by have := DatAll.length hmv; simpa [lzz] using this
  have hm24 : (mixedN ns.length ns).length ≤ 24 := Nat.le_trans (mixedN_count _ _) (facN_small h4)
  simp only [List.cons_append] at N3 N4 l4'
  refine comp_a (L := L) (news := (src, so) :: (L + 1, o1) :: (L + 1 + 1, o2) :: (L + 1 + 1 + 1, o3) :: (L + 1 + 1 + 1 + 1, o4) :: (L + 1 + 1 + 1 + 1 + 1, o5) :: (L + 1 + 1 + 1 + 1 + 1 + 1, o6) :: (t1 ++ l2)) (muts := []) (n := mvs.toArray.size) (P := fun j v => mvs.toArray[j]? = some v)
    (fun j ys nw => nw = [] ∧ DatAll l2 ys ((((mixedN ns.length ns).take j).filter fun r => isLet r ns ks).map lz)) (by decide) rfl rfl rfl rfl rfl F4 N4 Off.nil hio (fun _ z => nomatch z) (fun p hp => Nat.ne_of_lt (l4' p hp)) ⟨rfl, by simpa using DatAll.nil⟩ (by simp; omega) ?_ ?_
  · intro gs Gs
    have c3 : gs.get? (L + 1 + 1 + 1) = some o3 := Gs.got (L + 1 + 1 + 1, o3) (by walk_at "mem")
    have c6 : gs.get? (L + 1 + 1 + 1 + 1 + 1 + 1) = some o6 := Gs.got (L + 1 + 1 + 1 + 1 + 1 + 1, o6) (by walk_at "mem")
    have Hg : Has gs (t1 ++ l2) := fun p hp => Gs.got p (by walk_at "sub2")
    have Xg := X.keeps Gs.base
    have Tg := T0.keeps Gs.base
    have hl2 : gs.IsList a2 mvs.toArray := Hg.list (List.mem_append.mpr (.inr hmm))
    refine ⟨It.list ok.1 hl2, ?_⟩
    intro C D j v mc nw h11 tk11 o11 ys k hC hD hj hv hJ oI oD FC NC hio hys
    obtain ⟨rfl, hJ⟩ := hJ
    have hjm : j < (mixedN ns.length ns).length := by simp at hj; omega
    obtain ⟨v', e1, dv⟩ := DatAll.get (k := j) hmv (by simpa [lzz] using hjm)
    rw [show mvs[j]? = some v from by simpa using hv] at e1
    obtain rfl := Option.some.inj e1
    rw [List.getElem_map] at dv
    have hrlen := mixedN_len ns.length ns _ (List.getElem_mem hjm)
    obtain ⟨rr, rvs, rk, rfl, hrm, hrv⟩ := datIn_list dv
    refine wpAny_tests_one ?_
    walk_at "mine"
    have hin : ∀ x ∈ ns, x ∈ (mixedN ns.length ns)[j] := fun x hx => (mixedN_perm ns.length ns rfl _ (List.getElem_mem hjm)).mem_iff.mpr hx
    have hsub : ∀ p ∈ t1, p ∈ t1 ++ l2 := fun p hp => List.mem_append.mpr (.inl hp)
    have hsub2 : ∀ p ∈ l2, p ∈ t1 ++ l2 := fun p hp => List.mem_append.mpr (.inr hp)
    refine islet_spec (l := t1 ++ l2) ((Gg.keeps Gs.base).keeps FC.keep) (ok.le (by decide)) (Hg.keeps FC.keep) (.list (hsub2 _ hrm) (hrv.mono hsub2)) (hn.mono hsub) (hk.mono hsub) hkl h4 (by omega) hin ?_
    intro h12 tk12 k12
    have F12 := Fr.keeps FC k12
    have N12 := News.grown NC k12
    walk_at "mine"
    · rename_i hc
      refine cend [] F12 N12 Off.nil Off.nil ⟨rfl, ?_⟩
      rw [take_succ_filter _ _ _ _ (List.getElem?_eq_getElem hjm), if_pos hc, List.map_append]
      exact hJ.append (.one dv)
    · rename_i hc
      refine cend [] F12 N12 Off.nil Off.nil ⟨rfl, ?_⟩
      rw [take_succ_filter _ _ _ _ (List.getElem?_eq_getElem hjm), if_neg (by rw [hc]; decide), List.append_nil]
      exact hJ
  · intro D h5 tk5 ys k nw hD hJ oD hys F5 N5 hnw
    obtain ⟨rfl, hJ⟩ := hJ
    have e8 : mvs.toArray.size = (mixedN ns.length ns).length := by simpa using hml
    rw [e8, List.take_length, ← all_law hnn hkl hks] at hJ
    walk_at "mine"
    have q4 := off_free (has_news N4) hD
    have sD : D ≠ src := fun e => q4 (src, so) (by walk_at "mem") e.symm
    have s5 : D ≠ L + 1 + 1 + 1 + 1 + 1 := fun e => q4 (L + 1 + 1 + 1 + 1 + 1, o5) (by walk_at "mem") e.symm
    have offl2 : Off src l2 := off_new f3 (N2 (src, so) (by walk_at "mem")).1
    have off5l2 : Off (L + 1 + 1 + 1 + 1 + 1) l2 := off_new f3 (N2 (L + 1 + 1 + 1 + 1 + 1, o5) (by walk_at "mem")).1
    have N6 : News g L h5 ((src, so) :: (L + 1, o1) :: (L + 1 + 1, o2) :: (L + 1 + 1 + 1, o3) :: (L + 1 + 1 + 1 + 1, o4) :: (L + 1 + 1 + 1 + 1 + 1, o5) :: (L + 1 + 1 + 1 + 1 + 1 + 1, o6) :: ((D, listOf ys.toArray k) :: (t1 ++ l2))) := nsub N5 (by walk_at "sub")
    have hsub : ∀ p ∈ t1, p ∈ (D, listOf ys.toArray k) :: (t1 ++ l2) := fun p hp => .tail _ (List.mem_append.mpr (.inl hp))
    have hn := hn.mono hsub
    have hk := hk.mono hsub
    have ha := ha.mono hsub
    have hA := hA.mono hsub
    have hDu : DatIn ((D, listOf ys.toArray k) :: (t1 ++ l2)) (.ref D) (lzz (allRows ns (aheadL ns ks) ns.length)) := .list (.head _) (hJ.mono fun p hp => .tail _ (List.mem_append.mpr (.inr hp)))
    have offS2 : Off src ((D, listOf ys.toArray k) :: (t1 ++ l2)) := Off.cons sD (Off.append offS1 offl2)
    have off52 : Off (L + 1 + 1 + 1 + 1 + 1) ((D, listOf ys.toArray k) :: (t1 ++ l2)) := Off.cons s5 (Off.append off51 off5l2)
    clear N5 N4 F4 N3 F3 N2 F2 hsub offl2 off5l2
    generalize (D, listOf ys.toArray k) :: (t1 ++ l2) = t2 at *
    have Ht3 : Has h5 t2 := (has_news N6).sub (by walk_at "sub")
    refine all_spec (l := t2) (Gg.keeps F5.keep) (ok.le (by decide)) Ht3 hn hA (lk_all hnn h4) h4 ?_
    intro a3 l3 h6 tk6 k6 H6 f6 hR
    have F6 := Fr.keeps F5 k6
    have N7 := News.grown N6 k6
    walk_at "mine"
    refine ne_D (l := t2 ++ l3) ((Ht3.keeps k6).app H6) (hR.mono fun p hp => List.mem_append.mpr (.inr hp)) (hDu.mono fun p hp => List.mem_append.mpr (.inl hp)) (lzz_ok _) (lzz_ok _) (by have := ok.2.2; omega) ?_
    intro c hc
    have hcf : c = false := by
      cases c with
      | false => rfl
      | true => exact absurd rfl (hc.mp rfl)
    subst hcf
    walk1
    (try dsimp only)
    walk1
    (try dsimp only)
    refine wpAny_execs_nil ?_
    (try dsimp only)
    have offl3 : Off src l3 := off_new f6 (N6 (src, so) (by walk_at "mem")).1
    have off5l3 : Off (L + 1 + 1 + 1 + 1 + 1) l3 := off_new f6 (N6 (L + 1 + 1 + 1 + 1 + 1, o5) (by walk_at "mem")).1
    exact law_t9 (tl := t2) G T hC hP ok F6 N7 hso d1 d2 d3 d4 d5 d6 n1 n2 n3 n4 n5 n6 offS2 off52 hn hk ha hnn hkl hks hal han hao hs1 h4 (by walk_at "mlook") (by walk_at "mlook") hA hDu hret
end

section


set_option maxHeartbeats 4000000 in
theorem law_t4 {prog : Program} {loose : List Str} {mean : ExcName → Option Value} {mg mb : Str → Option Value} {w : World} {A : Around} {s : Shared} {Q : Flow → Shared → Prop} {g : Heap} {L src Dn : Addr} {m : Str → Option Value} {o1 o2 o3 o4 o5 o6 so : Obj} {nvs : List Value} {kn : Nat} {ns : List Int} {tm : Tok} {many : Nat}
    (G : Gd w (ghostOf g [(94, 92)])) (T : Top topProg loose mean mg mb (ghostOf g [(94, 92)])) (hC : CodeHd (ghostOf g [(94, 92)]) 94 92) (hP : g.get? 92 = some (tabObj #[])) (ok : Ok A 95)
    (F : Fr g L s.heap m) (N : News g L s.heap [(src, so), (L + 1, o1), (L + 1 + 1, o2), (L + 1 + 1 + 1, o3), (L + 1 + 1 + 1 + 1, o4), (L + 1 + 1 + 1 + 1 + 1, o5), (L + 1 + 1 + 1 + 1 + 1 + 1, o6), (Dn, listOf nvs.toArray kn)]) (hso : SrcO so)
    (d1 : o1.data = Data.cell (some (.ref src))) (d2 : o2.data = Data.cell (some (.int many tm))) (d3 : o3.data = Data.cell none) (d4 : o4.data = Data.cell none) (d5 : o5.data = Data.cell none) (d6 : o6.data = Data.cell (some (.ref Dn)))
    (n1 : src ≠ L + 1) (n2 : src ≠ L + 1 + 1) (n3 : src ≠ L + 1 + 1 + 1) (n4 : src ≠ L + 1 + 1 + 1 + 1) (n5 : src ≠ L + 1 + 1 + 1 + 1 + 1) (n6 : src ≠ L + 1 + 1 + 1 + 1 + 1 + 1) (sDn : src ≠ Dn)
    (p3 : Dn ≠ L + 1 + 1 + 1) (p4 : Dn ≠ L + 1 + 1 + 1 + 1) (p5 : Dn ≠ L + 1 + 1 + 1 + 1 + 1)
    (hnv : IntsAre nvs ns) (hnl : ns.length = many) (hnn : ns.Nodup) (hm1 : 1 ≤ many) (hm4 : many ≤ 4)
    (hret : ∀ h' tk', Kp (ghostOf g [(94, 92)]) h' → (∃ ps, h'.get? 92 = some (tabObj ps)) → Q (.ret (.bool true)) { s with heap := h', toks := tk' }) :
    wpAny (model prog w) A (execs (lawBody.drop 4) (lawEnv L)) Q (fun _ _ => False) s := by
  have Gg : Gd w g := G.keeps ghost_kp
  obtain ⟨X, lo, mg0, mb0, T0⟩ := id Gg
  conv in (execs _ _) => arg 1; whnf
  conv in (lawEnv _) => unfold lawEnv; arg 2; whnf
  walk_at "fill"
  have offC'' : Off src [(L + 1, o1), (L + 1 + 1, o2), (L + 1 + 1 + 1, o3), (L + 1 + 1 + 1 + 1, o4), (L + 1 + 1 + 1 + 1 + 1, o5), (L + 1 + 1 + 1 + 1 + 1 + 1, o6)] := Off.cons (Ne.symm n1) (Off.cons (Ne.symm n2) (Off.cons (Ne.symm n3) (Off.cons (Ne.symm n4) (Off.cons (Ne.symm n5) (Off.cons (Ne.symm n6) Off.nil)))))
  walk_at "mine"
  refine newList_D F N (by simp) ?_
  intro D11 h11 F11 N11 l11 f11
  walk_at "mine"
  walk_at "lc_eval"
  walk_at "mine"
  have hmi : ((many : Int) - 1) = ((many - 1 : Nat) : Int) := by omega
  rw [hmi]
  refine range1_rows F11 N11 ?_
  intro h12 tk12 t121 u121 v121 hr12 F12 N12 k12
  walk_at "mine"
  refine iter_range F12 N12 hr12 (by omega) (by omega) ?_
  intro I2 h13 o13 F13 N13 hio13 l13 k13 f13
  have l13' := allLt_of l13
  simp only [AllLt] at l13'
  have sI2 : src ≠ I2 := Nat.ne_of_lt l13'.2.1
  generalize hinner : Value.str "inner" _ = innerV at *
  refine comp_e (L := L) (news := [(L + 1, o1), (L + 1 + 1, o2), (L + 1 + 1 + 1, o3), (L + 1 + 1 + 1 + 1, o4), (L + 1 + 1 + 1 + 1 + 1, o5), (L + 1 + 1 + 1 + 1 + 1 + 1, o6), (Dn, listOf nvs.toArray kn), (D11, listOf [innerV].toArray 0)]) (muts := [(src, so)]) (n := many - 1) (P := fun (i : Nat) v => ∃ t, v = .int i t)
    (fun j ys nw => ∃ so ks, nw = [(src, so)] ∧ SrcO so ∧ StrsAre ys ks ∧ ks.length = j ∧ KindsOk ks)
    (by decide) rfl rfl F13 (nsub N13 (by walk_at "sub"))
    (Off.cons sI2 Off.nil) hio13 ?_ (by walk_at "off") ⟨so, [], rfl, hso, .nil, rfl, fun i hi => nomatch hi⟩ (by omega) ?_ ?_
  · intro p hp
    rw [List.mem_singleton.mp hp]
    exact Off.append (l := [(L + 1, o1), (L + 1 + 1, o2), (L + 1 + 1 + 1, o3), (L + 1 + 1 + 1 + 1, o4), (L + 1 + 1 + 1 + 1 + 1, o5), (L + 1 + 1 + 1 + 1 + 1 + 1, o6)]) offC'' (Off.cons (Ne.symm sDn) (Off.cons (Nat.ne_of_gt (l11 _ (.head _))) Off.nil))
  · intro gs Gs
    have c1 : gs.get? (L + 1) = some o1 := Gs.got _ (.head _)
    have Xg := X.keeps Gs.base
    have Tg := T0.keeps Gs.base
    refine ⟨It.range0 ok.1, ?_⟩
    intro C D j v mc nw h14 tk14 o14 ys k hC hD hj hv hJ oI oD FC NC hio hys
    obtain ⟨tj, rfl⟩ := hv
    obtain ⟨so2, ks, rfl, hso2, hys2, hkl, hkb⟩ := hJ
    have sD : src ≠ D := oD _ (.head _)
    have oI' : ∀ so', Off I2 [(src, so')] := fun so' => Off.cons sI2 Off.nil
    have oD' : ∀ so', Off D [(src, so')] := fun so' => Off.cons sD Off.nil
    refine wpAny_tests_nil ?_
    walk_at "mine"
    refine newList_D FC NC (by simp) ?_
    intro D4 h15 F15 N15 l15 f15
    dsimp only at *
    walk_at "mine"
    have l15' := allLt_of l15
    simp only [AllLt] at l15'
    refine one_L (src := src) (so := so2) (ds := (["inner", "inner", "left", "cross"] : List Str).map Dat.str) (Gg.keeps Gs.base) (ok.le (by decide)) F15 (nfront3 N15) hso2 (Off.cons (Nat.ne_of_gt l15'.2.2.1) (Off.cons (Ne.symm sI2) (Off.cons (Ne.symm sD) Off.nil))) (.list (.head _) (.cons (.str _ _) (.cons (.str _ _) (.cons (.str _ _) (.cons (.str _ _) .nil))))) (by decide) (by decide) ?_
    intro v d h16 tk16 so16 F16 N16 hso16 hd dv he16
    obtain ⟨kk, hkk, rfl⟩ := List.mem_map.mp hd
    cases dv with
    | str _ t9 => ?_
    refine cend [(src, so16)] F16 (nsub N16 (by walk_at "sub")) (oI' _) (oD' _) ⟨so16, ks ++ [kk], rfl, hso16, hys2.append (.cons (.str _ _) .nil), by simp [hkl], ?_⟩
    intro k hk
    rcases List.mem_append.mp hk with hk | hk
    · exact hkb k hk
    · rw [List.mem_singleton.mp hk]
      simp only [List.mem_cons, List.not_mem_nil, or_false] at hkk
      rcases hkk with h | h | h | h
      · exact .inl h
      · exact .inl h
      · exact .inr (.inl h)
      · exact .inr (.inr h)
  · intro D8 h8 tk8 ys ky nw hD8 hJ oD8 hys F8 N8 hnw
    obtain ⟨so8, ks, rfl, hso8, hys2, hkl, hkb⟩ := hJ
    walk_at "mine"
    have hyl := hys2.length
    subst hinner
    refine add_D F8 N8 (News.isList N8 (.tail _ (.tail _ (.tail _ (.tail _ (.tail _ (.tail _ (.tail _ (.tail _ (.tail _ (.head _))))))))))) (News.isList N8 (.head _)) (by simp; omega) ?_
    intro Dk h17 F17 N17 l17 f17
    walk_at "mine"
    have z17 : ∀ p ∈ [(src, so8), (L + 1, o1), (L + 1 + 1, o2), (L + 1 + 1 + 1, o3), (L + 1 + 1 + 1 + 1, o4), (L + 1 + 1 + 1 + 1 + 1, o5), (L + 1 + 1 + 1 + 1 + 1 + 1, o6), (Dn, listOf nvs.toArray kn)], p.1 < Dk := fun p hp => l17 p (by walk_at "sub2")
    have m3 : Dk ≠ L + 1 + 1 + 1 := Nat.ne_of_gt (z17 (L + 1 + 1 + 1, o3) (.tail _ (.tail _ (.tail _ (.head _)))))
    have m4 : Dk ≠ L + 1 + 1 + 1 + 1 := Nat.ne_of_gt (z17 (L + 1 + 1 + 1 + 1, o4) (.tail _ (.tail _ (.tail _ (.tail _ (.head _))))))
    have m5 : Dk ≠ L + 1 + 1 + 1 + 1 + 1 := Nat.ne_of_gt (z17 (L + 1 + 1 + 1 + 1 + 1, o5) (.tail _ (.tail _ (.tail _ (.tail _ (.tail _ (.head _)))))))
    have sDk : src ≠ Dk := Nat.ne_of_lt (z17 (src, so8) (.head _))
    have hks : StrsAre ([Value.str "inner" s.toks] ++ ys) ("inner" :: ks) := StrsAre.append (as := ["inner"]) (.cons (.str _ _) .nil) hys2
    generalize [Value.str "inner" s.toks] ++ ys = kvs at *
    refine store_C (c := L + 1 + 1 + 1) F17 (nsub N17 (l := (L + 1 + 1 + 1, o3) :: [(src, so8), (L + 1, o1), (L + 1 + 1, o2), (L + 1 + 1 + 1 + 1, o4), (L + 1 + 1 + 1 + 1 + 1, o5), (L + 1 + 1 + 1 + 1 + 1 + 1, o6), (Dn, listOf nvs.toArray kn), (Dk, listOf kvs.toArray 0)]) (by walk_at "sub")) (by walk_at "off") rfl d3 ?_ rfl rfl
    clear N8 F8 N13 F13 N12 F12 N11 F11 N F N17
    intro h18 o3' F18 N18 d3'
    walk_at "mine"
    refine newList_D F18 N18 (by simp) ?_
    intro D19 h19 F19 N19 l19 f19
    walk_at "mine"
    have hn19 : Dk ≠ Dn := Nat.ne_of_gt (z17 _ (.tail _ (.tail _ (.tail _ (.tail _ (.tail _ (.tail _ (.tail _ (.head _)))))))))
    obtain ⟨us, hu, N19⟩ : ∃ us, StrsAre us ["u", "t", "s", "v"] ∧ News g L h19 [(D19, listOf us.toArray 0), (L + 1 + 1 + 1, o3'), (src, so8), (L + 1, o1), (L + 1 + 1, o2), (L + 1 + 1 + 1 + 1, o4), (L + 1 + 1 + 1 + 1 + 1, o5), (L + 1 + 1 + 1 + 1 + 1 + 1, o6), (Dn, listOf nvs.toArray kn), (Dk, listOf kvs.toArray 0)] := ⟨_, .cons (.str _ _) (.cons (.str _ _) (.cons (.str _ _) (.cons (.str _ _) .nil))), N19⟩
    have hul : us.length = 4 := hu.length
    refine kba_turn (value' := Expr.Name "_" ⟨0, 0, 0, 0⟩) (fun _ => rfl) ?_
    walk_at "cut"
    intro Da h20 F20 N20 l20 f20
    dsimp only at *
    walk_at "mine"
    have z20 : ∀ p ∈ [(src, so8), (L + 1, o1), (L + 1 + 1, o2), (L + 1 + 1 + 1, o3'), (L + 1 + 1 + 1 + 1, o4), (L + 1 + 1 + 1 + 1 + 1, o5), (L + 1 + 1 + 1 + 1 + 1 + 1, o6)], p.1 < Da := fun p hp => l20 p (by walk_at "sub2")
    have q4 : Da ≠ L + 1 + 1 + 1 + 1 := Nat.ne_of_gt (z20 (L + 1 + 1 + 1 + 1, o4) (.tail _ (.tail _ (.tail _ (.tail _ (.head _))))))
    have q5 : Da ≠ L + 1 + 1 + 1 + 1 + 1 := Nat.ne_of_gt (z20 (L + 1 + 1 + 1 + 1 + 1, o5) (.tail _ (.tail _ (.tail _ (.tail _ (.tail _ (.head _)))))))
    have sDa : src ≠ Da := Nat.ne_of_lt (z20 (src, so8) (.head _))
    refine store_C (c := L + 1 + 1 + 1 + 1) F20 (nsub N20 (l := (L + 1 + 1 + 1 + 1, o4) :: [(src, so8), (L + 1, o1), (L + 1 + 1, o2), (L + 1 + 1 + 1, o3'), (L + 1 + 1 + 1 + 1 + 1, o5), (L + 1 + 1 + 1 + 1 + 1 + 1, o6), (Da, listOf (us.take (many : Int).toNat).toArray 0), (Dn, listOf nvs.toArray kn), (Dk, listOf kvs.toArray 0)]) (by walk_at "sub")) (by walk_at "off") rfl d4 ?_ rfl rfl
    clear F20 N20 F19 N19 F18 N18
    intro h21 o4' F21 N21 d4'
    have hmn : (many : Int).toNat = many := rfl
    rw [hmn] at N21
    subst hnl
    have hat : StrsAre (us.take ns.length) ((["u", "t", "s", "v"] : List Str).take ns.length) := hu.take _
    refine law_t6 (tl := [(Da, listOf (us.take ns.length).toArray 0), (Dn, listOf nvs.toArray kn), (Dk, listOf kvs.toArray 0)]) (ks := "inner" :: ks) (as := (["u", "t", "s", "v"] : List Str).take ns.length) G T hC hP ok F21 (nsub N21 (by walk_at "sub")) hso8 d1 d2 d3' d4' d5 d6 n1 n2 n3 n4 n5 n6
      (Off.cons (Ne.symm sDa) (Off.cons (Ne.symm sDn) (Off.cons (Ne.symm sDk) Off.nil))) (Off.cons q5 (Off.cons p5 (Off.cons m5 Off.nil))) (lz_in (.tail _ (.head _)) hnv) (.list (.tail _ (.tail _ (.head _))) hks.mono) (.list (.head _) hat.mono)
      hnn (by simp [hkl]; omega) ?_ (by rw [List.length_take]; simp; omega) ((by decide +kernel : (["u", "t", "s", "v"] : List Str).Nodup).sublist (List.take_sublist _ _)) (fun x hx => (by decide +kernel : ∀ x ∈ (["u", "t", "s", "v"] : List Str), PyData.strOk x = true) x (List.mem_of_mem_take hx)) hm1 hm4 hret
    intro k hk
    rcases List.mem_cons.mp hk with rfl | hk
    · exact .inl rfl
    · exact hkb k hk
end

section


set_option maxHeartbeats 4000000 in
theorem law_spec {prog : Program} {w : World} {A : Around} {s : Shared} {R : Result → Shared → Prop} {sc : Addr} {svs : List Value} {ns : List Int} {loose : List Str} {mean : ExcName → Option Value} {mg mb : Str → Option Value}
    (G : Gd w (ghostOf s.heap [(94, 92)])) (T : Top topProg loose mean mg mb (ghostOf s.heap [(94, 92)])) (hC : CodeHd (ghostOf s.heap [(94, 92)]) 94 92) (hP : s.heap.get? 92 = some (tabObj #[])) (ok : Ok A 100)
    (hl : (ghostOf s.heap [(94, 92)]).IsList sc svs.toArray) (hI : IntsAre svs ns) (hn : ns.length ≤ 63)
    (h : ∀ h' tk', Kp (ghostOf s.heap [(94, 92)]) h' → (∃ ps, h'.get? 92 = some (tabObj ps)) → R (.ok (.ret (.bool true))) { s with heap := h', toks := tk' }) :
    codeAny (model prog w) A (.call (.ref 95) ⟨[.ref sc], []⟩) R s := by
  have hret := h
  have G0 := G
  have G : Gd w s.heap := G0.keeps ghost_kp
  obtain ⟨X, lo, mg0, mb0, T0⟩ := id G
  walk_at "fill"
  have hl : s.heap.IsList sc svs.toArray := by obtain ⟨o, e, r⟩ := hl; exact ⟨o, ghost_kp _ _ e, r⟩
  refine enterCC X T0.nolimit (Kp.refl _) (Nat.le_refl _) (by k_is) (by k_is) (by have := ok.2.1; omega) (BindsTo.of_eq rfl) rfl (by decide +kernel) ?_ rfl rfl rfl
  intro L h₁ tk cells F N Y hL hk₁ hcf
  obtain ⟨o6, o5, o4, o3, o2, o1, he, d6, d5, d4, d3, d2, d1⟩ := cells_six Y
  subst he
  have hLs : L + 1 = L + 1 := rfl
  have d1 : o1.data = Data.cell none := d1
  have d2 : o2.data = Data.cell none := d2
  have d3 : o3.data = Data.cell none := d3
  have d4 : o4.data = Data.cell none := d4
  have d5 : o5.data = Data.cell none := d5
  have d6 : o6.data = Data.cell none := d6
  clear Y
  obtain ⟨m, F, hm1⟩ : ∃ m, Fr s.heap L h₁ m ∧ m "script" = some (.ref sc) := ⟨_, F, rfl⟩
  walk_at "mine"
  refine pool_spec (G.keeps F.keep) (ok.deeper.le (by decide)) (by obtain ⟨o, e, r⟩ := hl; exact ⟨o, F.keep _ _ e, r⟩) hI (by omega) ?_
  intro src so h2 tk2 k2 hso2 hsf hso
  have F2 := Fr.keeps F k2
  have N2 : News s.heap L h2 ((src, so) :: [(L + 1 + 1 + 1 + 1 + 1 + 1, o6), (L + 1 + 1 + 1 + 1 + 1, o5), (L + 1 + 1 + 1 + 1, o4), (L + 1 + 1 + 1, o3), (L + 1 + 1, o2), (L + 1, o1)]) :=
    news_app (l := [(src, so)]) (news_new F (fun p hp => by rw [List.mem_singleton.mp hp]; exact hso2) (fun p hp => by rw [List.mem_singleton.mp hp]; exact hsf)) (News.grown N k2)
  have offS : Off src [(L + 1 + 1 + 1 + 1 + 1 + 1, o6), (L + 1 + 1 + 1 + 1 + 1, o5), (L + 1 + 1 + 1 + 1, o4), (L + 1 + 1 + 1, o3), (L + 1 + 1, o2), (L + 1, o1)] := fun p hp e => by
    have q := (N p hp).1
    rw [e] at q
    rw [hsf] at q
    cases q
  have n1 : src ≠ L + 1 := fun e => offS _ (.tail _ (.tail _ (.tail _ (.tail _ (.tail _ (.head _)))))) e.symm
  have n2 : src ≠ L + 1 + 1 := fun e => offS _ (.tail _ (.tail _ (.tail _ (.tail _ (.head _))))) e.symm
  have n3 : src ≠ L + 1 + 1 + 1 := fun e => offS _ (.tail _ (.tail _ (.tail _ (.head _)))) e.symm
  have n4 : src ≠ L + 1 + 1 + 1 + 1 := fun e => offS _ (.tail _ (.tail _ (.head _))) e.symm
  have n5 : src ≠ L + 1 + 1 + 1 + 1 + 1 := fun e => offS _ (.tail _ (.head _)) e.symm
  have n6 : src ≠ L + 1 + 1 + 1 + 1 + 1 + 1 := fun e => offS _ (.head _) e.symm
  clear N F
  walk_at "mine"
  rename Fr _ _ _ _ => F3
  rename News _ _ _ _ => N3
  rename _ = Data.cell (some (Value.ref src)) => d1'
  obtain ⟨o1, d1, N3⟩ : ∃ o1, o1.data = Data.cell (some (.ref src)) ∧ News s.heap L _ ((src, so) :: [(L + 1, o1), (L + 1 + 1, o2), (L + 1 + 1 + 1, o3), (L + 1 + 1 + 1 + 1, o4), (L + 1 + 1 + 1 + 1 + 1, o5), (L + 1 + 1 + 1 + 1 + 1 + 1, o6)]) := ⟨_, d1', nsub N3 (by walk_at "sub")⟩
  clear d1'
  have offC : Off src [(L + 1, o1), (L + 1 + 1, o2), (L + 1 + 1 + 1, o3), (L + 1 + 1 + 1 + 1, o4), (L + 1 + 1 + 1 + 1 + 1, o5), (L + 1 + 1 + 1 + 1 + 1 + 1, o6)] := Off.cons (Ne.symm n1) (Off.cons (Ne.symm n2) (Off.cons (Ne.symm n3) (Off.cons (Ne.symm n4) (Off.cons (Ne.symm n5) (Off.cons (Ne.symm n6) Off.nil)))))
  refine take_L G (ok.deeper.le (by decide)) F3 N3 hso offC (by decide) (by decide) ?_
  intro r t4 h4 tk4 so4 r0 r1 F4 N4 hso4 he4
  clear F3 N3 he4
  walk_at "mine"
  rename Fr _ _ _ _ => F5
  rename News _ _ _ _ => N5
  rename _ = Data.cell (some (Value.int _ _)) => d2'
  have hmany : ∃ many : Nat, 1 ≤ many ∧ many ≤ 4 ∧ 1 + r = (many : Int) := ⟨(1 + r).toNat, by omega, by omega, by omega⟩
  obtain ⟨many, hm1', hm4, hmr⟩ := hmany
  rw [hmr] at d2'
  obtain ⟨o2, tm, d2, N5⟩ : ∃ o2 tm, o2.data = Data.cell (some (.int many tm)) ∧ News s.heap L _ ([(src, so4), (L + 1, o1), (L + 1 + 1, o2), (L + 1 + 1 + 1, o3), (L + 1 + 1 + 1 + 1, o4), (L + 1 + 1 + 1 + 1 + 1, o5), (L + 1 + 1 + 1 + 1 + 1 + 1, o6)]) := ⟨_, _, d2', N5⟩
  clear d2'
  have offC' : Off src [(L + 1, o1), (L + 1 + 1, o2), (L + 1 + 1 + 1, o3), (L + 1 + 1 + 1 + 1, o4), (L + 1 + 1 + 1 + 1 + 1, o5), (L + 1 + 1 + 1 + 1 + 1 + 1, o6)] := Off.cons (Ne.symm n1) (Off.cons (Ne.symm n2) (Off.cons (Ne.symm n3) (Off.cons (Ne.symm n4) (Off.cons (Ne.symm n5) (Off.cons (Ne.symm n6) Off.nil)))))
  walk1
  (try dsimp only)
  walk_at "lc_eval"
  walk_at "mine"
  refine range1_rows F5 N5 ?_
  intro h6 tk6 t61 u61 v61 hr6 F6 N6 k6
  walk_at "mine"
  refine iter_range F6 N6 hr6 (by omega) (by omega) ?_
  intro I h7 o7 F7 N7 hio7 l7 k7 f7
  have l7' := allLt_of l7
  simp only [AllLt] at l7'
  have sI : src ≠ I := Nat.ne_of_lt l7'.1
  refine comp_e (L := L) (news := [(L + 1, o1), (L + 1 + 1, o2), (L + 1 + 1 + 1, o3), (L + 1 + 1 + 1 + 1, o4), (L + 1 + 1 + 1 + 1 + 1, o5), (L + 1 + 1 + 1 + 1 + 1 + 1, o6)]) (muts := [(src, so4)]) (n := many) (P := fun (i : Nat) v => ∃ t, v = .int i t)
    (fun j ys nw => ∃ so ms, nw = [(src, so)] ∧ SrcO so ∧ IntsAre ys ms ∧ ms.length = j ∧ ∀ i (hi : i < ms.length), 5 * (i : Int) ≤ ms[i] ∧ ms[i] ≤ 5 * i + 2)
    (by decide) rfl rfl F7 (nsub N7 (by walk_at "sub"))
    (Off.cons sI Off.nil) hio7 ?_ (by walk_at "off") ⟨so4, [], rfl, hso4, .nil, rfl, fun i hi => absurd hi (Nat.not_lt_zero _)⟩ (by omega) ?_ ?_
  · intro p hp
    rw [List.mem_singleton.mp hp]
    exact offC'
  · intro gs Gs
    have c1 : gs.get? (L + 1) = some o1 := Gs.got _ (.head _)
    have Xg := X.keeps Gs.base
    have Tg := T0.keeps Gs.base
    refine ⟨It.range0 ok.1, ?_⟩
    intro C D j v mc nw h11 tk11 o11 ys k hC hD hj hv hJ oI oD FC NC hio hys
    obtain ⟨tj, rfl⟩ := hv
    obtain ⟨so, ms, rfl, hso, hys2, hml, hmb⟩ := hJ
    refine wpAny_tests_nil ?_
    walk_at "mine"
    have sD : src ≠ D := oD _ (.head _)
    have oI' : ∀ so', Off I [(src, so')] := fun so' => Off.cons sI Off.nil
    have oD' : ∀ so', Off D [(src, so')] := fun so' => Off.cons sD Off.nil
    refine take_L (G.keeps Gs.base) (ok.deeper.le (by decide)) FC (nsub NC (l := (src, so) :: [(I, o11), (D, listOf ys.toArray k)]) (by walk_at "sub")) hso (Off.cons (Ne.symm sI) (Off.cons (Ne.symm sD) Off.nil)) (by decide) (by decide) ?_
    intro r8 t8 h8 tk8 so8 r80 r81 F8 N8 hso8 he8
    walk_at "mine"
    rename Fr _ _ _ _ => FX
    rename News _ _ _ _ => NX
    refine cend [(src, so8)] FX (nsub NX (by walk_at "sub")) (oI' _) (oD' _) ⟨so8, ms ++ [r8 + 5 * (j : Int)], rfl, hso8, hys2.append (.cons _ _ .nil), by simp [hml], ?_⟩
    intro i hi
    rw [List.getElem_append]
    split
    · exact hmb i _
    · have : i = j := by simp at hi; omega
      subst this
      simp
      omega
  · intro D8 h8 tk8 ys ky nw hD8 hJ oD8 hys F8 N8 hnw
    obtain ⟨so8, ms, rfl, hso8, hys2, hml, hmb⟩ := hJ
    walk_at "mine"
    have q8 := off_free (has_news N7) hD8
    have m6 : D8 ≠ L + 1 + 1 + 1 + 1 + 1 + 1 := fun e => q8 _ (.tail _ (.tail _ (.tail _ (.tail _ (.tail _ (.tail _ (.tail _ (.head _)))))))) e.symm
    refine store_C (c := L + 1 + 1 + 1 + 1 + 1 + 1) F8 (nsub N8 (l := (L + 1 + 1 + 1 + 1 + 1 + 1, o6) :: [(D8, listOf ys.toArray ky), (src, so8), (L + 1, o1), (L + 1 + 1, o2), (L + 1 + 1 + 1, o3), (L + 1 + 1 + 1 + 1, o4), (L + 1 + 1 + 1 + 1 + 1, o5)]) (by walk_at "sub")) (by walk_at "off") rfl d6 ?_ rfl rfl
    intro h9 o6 F9 N9 d6'
    have hnd : ms.Nodup := by
      rw [List.nodup_iff_pairwise_ne, List.pairwise_iff_getElem]
      intro a b ha hb hab e
      have := hmb a ha
      have := hmb b hb
      omega
    refine wpAny_execs_cons (wpAny_mono (Q := MidNum s.heap L src m o1 o2 o3 o4 o5 many s) ?_ ?_ (fun _ _ e => e))
    · walk_at "mine"
      refine take_L G (ok.deeper.le (by decide)) F9 (nsub N9 (l := (src, so8) :: [(L + 1, o1), (L + 1 + 1, o2), (L + 1 + 1 + 1, o3), (L + 1 + 1 + 1 + 1, o4), (L + 1 + 1 + 1 + 1 + 1, o5), (L + 1 + 1 + 1 + 1 + 1 + 1, o6), (D8, listOf ys.toArray ky)]) (by walk_at "sub")) hso8 (Off.append (l := [(L + 1, o1), (L + 1 + 1, o2), (L + 1 + 1 + 1, o3), (L + 1 + 1 + 1 + 1, o4), (L + 1 + 1 + 1 + 1 + 1, o5), (L + 1 + 1 + 1 + 1 + 1 + 1, o6)]) (Off.cons (Ne.symm n1) (Off.cons (Ne.symm n2) (Off.cons (Ne.symm n3) (Off.cons (Ne.symm n4) (Off.cons (Ne.symm n5) (Off.cons (Ne.symm n6) Off.nil)))))) (Off.cons (oD8 _ (.head _)).symm Off.nil)) (by decide) (by decide) ?_
      intro ri ti hi tki soi ri0 ri1 Fi Ni hsoi hei
      walk_at "mine"
      · refine krv_ints (vs := ys) (ns := ms) Fi Ni (News.isList Ni (.tail _ (.tail _ (.tail _ (.tail _ (.tail _ (.tail _ (.tail _ (.head _))))))))) (.int _ _) hys2 ?_ (by with_unfolding_all rfl) (fun _ => by with_unfolding_all rfl) (by rw [List.size_toArray]; exact Nat.le_trans (by omega : ys.length ≤ 1000000) (by decide))
        intro Dr ws hr Fr' Nr lr hws hwl
        walk_at "mine"
        have m6 : Dr ≠ L + 1 + 1 + 1 + 1 + 1 + 1 := Nat.ne_of_gt (lr _ (.tail _ (.tail _ (.tail _ (.tail _ (.tail _ (.tail _ (.head _))))))))
        refine store_C (c := L + 1 + 1 + 1 + 1 + 1 + 1) Fr' (nsub Nr (l := (L + 1 + 1 + 1 + 1 + 1 + 1, o6) :: [(src, soi), (L + 1, o1), (L + 1 + 1, o2), (L + 1 + 1 + 1, o3), (L + 1 + 1 + 1 + 1, o4), (L + 1 + 1 + 1 + 1 + 1, o5), (Dr, listOf (List.toArray ws) 0)]) (by walk_at "sub")) (by walk_at "off") rfl d6' ?_ rfl rfl
        intro hz o6z Fz Nz dz
        walk_at "mine"
        exact ⟨rfl, _, _, Dr, ws, 0, ms.reverse, o6z, soi, rfl, Fz, nsub Nz (by walk_at "sub"), hsoi, dz, hws, by simp [hml], (List.pairwise_reverse.mpr (List.Pairwise.imp Ne.symm hnd)), Nat.ne_of_lt (lr _ (.head _)), Nat.ne_of_gt (lr (L + 1 + 1 + 1, o3) (.tail _ (.tail _ (.tail _ (.head _))))), Nat.ne_of_gt (lr (L + 1 + 1 + 1 + 1, o4) (.tail _ (.tail _ (.tail _ (.tail _ (.head _)))))), Nat.ne_of_gt (lr (L + 1 + 1 + 1 + 1 + 1, o5) (.tail _ (.tail _ (.tail _ (.tail _ (.tail _ (.head _)))))))⟩
      · exact ⟨rfl, _, _, D8, ys, ky, ms, o6, soi, rfl, Fi, Ni, hsoi, d6', hys2, hml, hnd, oD8 _ (.head _), fun e => q8 (L + 1 + 1 + 1, o3) (by walk_at "sub2") e.symm, fun e => q8 (L + 1 + 1 + 1 + 1, o4) (by walk_at "sub2") e.symm, fun e => q8 (L + 1 + 1 + 1 + 1 + 1, o5) (by walk_at "sub2") e.symm⟩
    · rintro f s' ⟨rfl, h10, tk10, Dn, nvs, kn, ns', o6, so, rfl, F10, N10, hso, d6, hnv, hnl, hnn, sDn, p3, p4, p5⟩
      clear hso8 hso4 hys2 hml hmb hnd F9 N9 F8 N8 N7 F7
      exact law_t4 G0 T hC hP (ok.deeper.le (by decide)) F10 N10 hso d1 d2 d3 d4 d5 d6 n1 n2 n3 n4 n5 n6 sDn p3 p4 p5 hnv hnl hnn hm1' hm4 fun h' tk' hk hp => hret h' tk' hk hp
end

section


set_option maxHeartbeats 8000000 in
theorem law_holds : PySem.Challenge.rw_nt0088_01.Holds := hd (by
  k_fill
  intro w s₀ s₁ mg mb G Y fa o pm cd doc dV kV ho hd hcd hD hmg hg args vals as hpre hlay hrd hwl hlo
  have KX := km_in_of Y
  km_tabs Y
  have X := (Ground.X G).1
  have V := (Ground.X G).2
  refine Ground.open G ?_
  intro T B D TE TW
  (try (refine guard_noD D (by decide +kernel) ?_; clear D))
  km_lay T hmg ho hd cd
  wrow_args hpre hlay hrd hwl hlo
  have efa : fa = 95 := by
    have q := mg_of (v := .ref 95) KX T.g (by k_is) (n := "law")
    have e := hmg.symm.trans q
    cases e
    rfl
  subst efa
  refine enter_call ?_
  refine kn_post hT9 (fun _ _ => rfl) ?_
  rename IntsAre _ _ => hI
  rename Heap.IsList _ _ _ => hL
  rename ¬ _ < _ => h63
  refine law_spec ⟨ghost_K hT9 KX (by kernel_rfl), _, _, _, ⟨(ghost_top hT9 T).g, (ghost_top hT9 T).b, (ghost_top hT9 T).nolimit, T.builtins, T.free⟩⟩ (ghost_top hT9 T) ((ghost_code hT9).1) (hT8 92 (by simp)) (by refine ⟨rfl, ?_, ?_⟩ <;> decide) (ghost_list hT9 hL) hI (by omega) ?_
  intro h' tk' hk hg'
  refine ⟨?_, hg', trivial⟩
  refine ⟨.inl ⟨_, .bool true, [], rfl, fun _ => rfl, .bool _, ?_, fun _ => ⟨List.nodup_nil, fun _ q => nomatch q⟩⟩, hk, rfl, hg⟩
  first | rfl | kernel_rfl)
end

end Mine

set_option maxRecDepth 100000 in
set_option maxHeartbeats 8000000 in
theorem PySem.Challenge.cw_nt0088_01_holds : PySem.Challenge.rw_nt0088_01.Holds := by
  exact Mine.law_holds
